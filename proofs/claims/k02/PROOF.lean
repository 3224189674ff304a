import PyProof.Rows.All
import Wide.All
import OpenK.AllK
import Wide.FinOn
import HandS.ForMost
import HandS.ForExc
import HandS.ExcCtx
import HandS.HotCalls
import HandS.Wide
import HandS.IsInst
import HandS.Lambda
import HandS.Zip
import HandS.Rev
import HandS.Conv
import HandS.Property
import HandS.CallSlots
import HandS.OwnEq
import HandS.Style
import HandS.SetFor
import HandS.SortInts
import HandS.Defaults
import HandS.ExcInit
import HandS.FStr
import HandS.ExcField
import HandS.ExcIs
import HandS.TryMany
import KE.KExcIs
import KE.KIsAll
import HandS.Deep
import HandS.More
import HandS.WordsDict
import HandS.RaiseOp
import KE.GoesMore
import HandS.Iter
import HandS.TupAny
import KE.SortData
import HandS.SortKw
import HandS.Flow
import KE.SortKeyHeap
import HandS.DictComp
import HandS.OwnIter
import HandS.IterVal
import PySem.Challenge.RW_wornsheaf_k02_sheaf_keeps_rows
set_option Elab.async false
set_option linter.all false
set_option maxRecDepth 100000
set_option maxHeartbeats 4000000
namespace Wm
open PySem PySem.Spec PyProof.Rows L2

/-! ### results -/
inductive PD where
  | non | bl (b : Bool) | int (i : Int) | str (s : Str) | tup (xs : List PD)
structure Exc where
  cls : String
  fld : List (Str × PD)
inductive Rs (α : Type) where
  | no | ok (a : α) | ex (x : Exc)
namespace Rs
variable {α β γ ρ : Type}
def bind : Rs α → (α → Rs β) → Rs β
  | .no, _ => .no
  | .ok a, f => f a
  | .ex x, _ => .ex x
theorem bind_ok (a : α) (f : α → Rs β) : (Rs.ok a).bind f = f a := rfl
def nox : Rs α → Rs α
  | .ok a => .ok a
  | _ => .no
/-- a loop over a list -/
def fold (f : γ → α → Rs γ) : γ → List α → Rs γ
  | g, [] => .ok g
  | g, x :: xs => (f g x).bind fun g' => fold f g' xs
/-- .. that may be left by a return -/
def foldR (f : γ → α → Rs (γ ⊕ ρ)) : γ → List α → Rs (γ ⊕ ρ)
  | g, [] => .ok (.inl g)
  | g, x :: xs => (f g x).bind fun r => match r with
    | .inl g' => foldR f g' xs
    | .inr z => .ok (.inr z)
/-- a comprehension -/
def comp (t : α → Rs Bool) (f : α → Rs β) : List α → Rs (List β)
  | [] => .ok []
  | x :: xs => (t x).nox.bind fun b => if b = true then (f x).nox.bind fun y => (comp t f xs).bind fun ys => .ok (y :: ys) else comp t f xs
/-- a while, n turns at most -/
def iter (t : γ → Rs Bool) (b : γ → Rs γ) : Nat → γ → Rs γ
  | 0, _ => .no
  | n + 1, g => (t g).bind fun c => if c = true then (b g).bind (iter t b n) else .ok g
open Classical in
noncomputable def whl (t : γ → Rs Bool) (b : γ → Rs γ) (g : γ) : Rs γ :=
  if h : ∃ n, iter t b n g ≠ .no then iter t b (Classical.choose h) g else .no
theorem whl_is {t : γ → Rs Bool} {b : γ → Rs γ} {g : γ} : whl t b g = .no ∨ ∃ n, whl t b g = iter t b n g := by
  unfold whl
  split
  · exact .inr ⟨_, rfl⟩
  · exact .inl rfl
theorem iter_more {t : γ → Rs Bool} {b : γ → Rs γ} : ∀ (n : Nat) (g : γ), iter t b n g ≠ .no → iter t b (n + 1) g = iter t b n g
  | 0, g, h => absurd rfl h
  | n + 1, g, h => by
    show (t g).bind _ = (t g).bind _
    have h' : (t g).bind (fun c => if c = true then (b g).bind (iter t b n) else .ok g) ≠ .no := h
    cases e : t g with
    | no => rfl
    | ex x => rfl
    | ok c =>
      rw [e] at h'
      cases c with
      | false => rfl
      | true =>
        show (b g).bind (iter t b (n + 1)) = (b g).bind (iter t b n)
        have h2 : (b g).bind (iter t b n) ≠ .no := h'
        cases e2 : b g with
        | no => rfl
        | ex x => rfl
        | ok g' =>
          rw [e2] at h2
          exact iter_more n g' h2
theorem iter_plus {t : γ → Rs Bool} {b : γ → Rs γ} {n : Nat} {g : γ} (h : iter t b n g ≠ .no) : ∀ k, iter t b (n + k) g = iter t b n g
  | 0 => rfl
  | k + 1 => by
    have e := iter_plus h k
    exact (iter_more (n + k) g (by rw [e]; exact h)).trans e
theorem whl_of {t : γ → Rs Bool} {b : γ → Rs γ} {n : Nat} {g : γ} (h : iter t b n g ≠ .no) : whl t b g = iter t b n g := by
  have hx : ∃ n, iter t b n g ≠ .no := ⟨n, h⟩
  unfold whl
  rw [dif_pos hx]
  have h1 := iter_plus (Classical.choose_spec hx) n
  have h2 := iter_plus h (Classical.choose hx)
  rw [Nat.add_comm] at h2
  exact h1.symm.trans h2
theorem whl_eq (t : γ → Rs Bool) (b : γ → Rs γ) (g : γ) : whl t b g = (t g).bind fun c => if c = true then (b g).bind (whl t b) else .ok g := by
  by_cases hx : ∃ n, iter t b n g ≠ .no
  · obtain ⟨n, h⟩ := hx
    rw [whl_of h]
    cases n with
    | zero => exact absurd rfl h
    | succ n =>
      have h' : (t g).bind (fun c => if c = true then (b g).bind (iter t b n) else .ok g) ≠ .no := h
      show (t g).bind (fun c => if c = true then (b g).bind (iter t b n) else .ok g) = _
      cases e : t g with
      | no => rfl
      | ex x => rfl
      | ok c =>
        cases c with
        | false => rfl
        | true =>
          rw [e] at h'
          show (b g).bind (iter t b n) = (b g).bind (whl t b)
          have h2 : (b g).bind (iter t b n) ≠ .no := h'
          cases e2 : b g with
          | no => rfl
          | ex x => rfl
          | ok g' =>
            rw [e2] at h2
            exact (whl_of (n := n) h2).symm
  · have e0 : whl t b g = .no := by
      unfold whl
      rw [dif_neg hx]
    rw [e0]
    have no1 : iter t b 1 g = .no := Classical.byContradiction fun h => hx ⟨1, h⟩
    have noN : ∀ n, iter t b (n + 1) g = .no := fun n => Classical.byContradiction fun h => hx ⟨n + 1, h⟩
    cases e : t g with
    | no => rfl
    | ex x =>
      have h1 : (t g).bind (fun c => if c = true then (b g).bind (iter t b 0) else .ok g) = .no := no1
      rw [e] at h1
      cases h1
    | ok c =>
      cases c with
      | false =>
        have h1 : (t g).bind (fun c => if c = true then (b g).bind (iter t b 0) else .ok g) = .no := no1
        rw [e] at h1
        cases h1
      | true =>
        show Rs.no = (b g).bind (whl t b)
        cases e2 : b g with
        | no => rfl
        | ex x =>
          have h1 : (t g).bind (fun c => if c = true then (b g).bind (iter t b 0) else .ok g) = .no := no1
          rw [e] at h1
          have h2 : (b g).bind (iter t b 0) = .no := h1
          rw [e2] at h2
          cases h2
        | ok g' =>
          show Rs.no = whl t b g'
          have all : ∀ n, iter t b n g' = .no := fun n => by
            have h1 : (t g).bind (fun c => if c = true then (b g).bind (iter t b n) else .ok g) = .no := noN n
            rw [e] at h1
            have h2 : (b g).bind (iter t b n) = .no := h1
            rw [e2] at h2
            exact h2
          unfold whl
          rw [dif_neg fun ⟨n, h⟩ => h (all n)]
end Rs

/-! ### heaps that grow: a table of code objects may grow, all else stays -/
def Same (H H' : Hp) : Prop := ∀ a o, H a = some o → H' a = some o ∨ ((∃ ps, o = .tbl ps) ∧ ∃ ps', H' a = some (.tbl ps'))
/-- neither a table nor a code object -/
def Pl (o : HO) : Prop := (∀ ps, o ≠ .tbl ps) ∧ ∀ f, o ≠ .ext f
theorem Pl.lst {vs : List V} : Pl (.lst vs) := ⟨(fun _ z => nomatch z), (fun _ z => nomatch z)⟩
theorem Pl.tup {vs : List V} : Pl (.tup vs) := ⟨(fun _ z => nomatch z), (fun _ z => nomatch z)⟩
theorem Pl.ins {c : Addr} {dx : Addr} {fs : List (Str × V)} : Pl (.ins c dx fs) := ⟨(fun _ z => nomatch z), (fun _ z => nomatch z)⟩
theorem Same.refl (H : Hp) : Same H H := fun _ _ h => .inl h
theorem Same.of {H H' : Hp} (e : ∀ b o, H b = some o → H' b = some o) : Same H H' := fun b o h => .inl (e b o h)
theorem Same.trans {H H1 H2 : Hp} (a : Same H H1) (b : Same H1 H2) : Same H H2 := fun c o h => by
  rcases a c o h with e | ⟨e, ps, e2⟩
  · exact b c o e
  · rcases b c _ e2 with k | ⟨_, ps', k⟩
    · exact .inr ⟨e, ps, k⟩
    · exact .inr ⟨e, ps', k⟩
theorem Same.free {H H' : Hp} (e : Same H H') {l : Addr} (h : H' l = none) : H l = none := by
  cases q : H l with
  | none => rfl
  | some o =>
    rcases e l o q with k | ⟨_, _, k⟩ <;> rw [h] at k <;> cases k
theorem Same.nt {H H' : Hp} (s : Same H H') {a : Addr} {o : HO} (h : H a = some o) (p : ∀ ps, o ≠ .tbl ps) : H' a = some o := by
  rcases s a o h with k | ⟨⟨ps, e⟩, _⟩
  · exact k
  · exact absurd e (p ps)
theorem Same.v {H H' : Hp} (s : Same H H') {a : Addr} {o : HO} (h : H a = some o) (p : ∀ ps, o ≠ .tbl ps := by intro _ z; cases z) : H' a = some o := s.nt h p
theorem Same.get {H H' : Hp} (s : Same H H') {a : Addr} {o : HO} (h : H a = some o) (p : Pl o) : H' a = some o := s.nt h p.1
/-- .. the same but for locks: of a dict there may stand the locked one -/
def SameL (G H : Hp) : Prop := ∀ a o, G a = some o → H a = some o ∨ ((∃ ps, o = .tbl ps) ∧ ∃ ps', H a = some (.tbl ps')) ∨ ∃ ob ps, o = .dK ps ∧ H a = some (.frz ob (.dK ps))
theorem Same.l {G H : Hp} (s : Same G H) : SameL G H := fun a o h => (s a o h).imp_right .inl
theorem SameL.refl (H : Hp) : SameL H H := fun _ _ h => .inl h
theorem SameL.free {H H' : Hp} (e : SameL H H') {l : Addr} (h : H' l = none) : H l = none := by
  cases q : H l with
  | none => rfl
  | some o =>
    rcases e l o q with k | ⟨_, _, k⟩ | ⟨_, _, _, k⟩ <;> rw [h] at k <;> cases k
theorem SameL.nt {H H' : Hp} (s : SameL H H') {a : Addr} {o : HO} (h : H a = some o) (p : (∀ ps, o ≠ .tbl ps) ∧ ∀ ps, o ≠ .dK ps) : H' a = some o := by
  rcases s a o h with k | ⟨⟨ps, e⟩, _⟩ | ⟨_, ps, e, _⟩
  · exact k
  · exact absurd e (p.1 ps)
  · exact absurd e (p.2 ps)
theorem SameL.v {H H' : Hp} (s : SameL H H') {a : Addr} {o : HO} (h : H a = some o) (p : (∀ ps, o ≠ .tbl ps) ∧ ∀ ps, o ≠ .dK ps := by exact ⟨(fun _ z => nomatch z), (fun _ z => nomatch z)⟩) : H' a = some o := s.nt h p
theorem SameL.trans {G H H' : Hp} (a : SameL G H) (b : Same H H') : SameL G H' := fun c o h => by
  rcases a c o h with e | ⟨e, ps, e2⟩ | ⟨ob, ps, e, e2⟩
  · exact b.l c o e
  · rcases b c _ e2 with k | ⟨_, ps', k⟩
    · exact .inr (.inl ⟨e, ps, k⟩)
    · exact .inr (.inl ⟨e, ps', k⟩)
  · exact .inr (.inr ⟨ob, ps, e, b.v e2⟩)
theorem Same.transL {G G' H : Hp} (a : Same G G') (b : SameL G' H) : SameL G H := fun c o h => by
  rcases a c o h with e | ⟨e, ps, e2⟩
  · exact b c o e
  · rcases b c _ e2 with k | ⟨_, ps', k⟩ | ⟨ob, ps, k, _⟩
    · exact .inr (.inl ⟨e, ps, k⟩)
    · exact .inr (.inl ⟨e, ps', k⟩)
    · cases k
theorem SameL.seq {K : PySem.W.Frag} {H H' : Hp} {a : Addr} {xs : List V} (e : SameL H H') (h : SqL K H a xs) : SqL K H' a xs := by
  rcases h with (h | ⟨o, h⟩) | h
  · exact .inl (.inl (e.v h))
  · exact .inl (.inr ⟨o, e.v h⟩)
  · exact .inr h
theorem Same.seq {K : PySem.W.Frag} {H H' : Hp} {a : Addr} {xs : List V} (e : Same H H') (h : SqL K H a xs) : SqL K H' a xs := by
  rcases h with (h | ⟨o, h⟩) | h
  · exact .inl (.inl (e.nt h fun _ z => by cases z))
  · exact .inl (.inr ⟨o, e.nt h fun _ z => by cases z⟩)
  · exact .inr h
/-- the tables that a law's lambdas are kept in -/
class TabT where
  T : List (Addr × Str)
theorem tabs_upd {T : List (Addr × Str)} {H : Hp} {p : Addr} {o u : HO} (t : LamX.Tabs T H) (h : H p = some u) (hp : Pl u) : LamX.Tabs T (upd H p o) := fun x hx => by
  obtain ⟨ps, h1, h2, h3⟩ := t x hx
  have n1 : x.1 ≠ p := fun e => hp.1 ps (by rw [e, h] at h1; exact Option.some.inj h1)
  refine ⟨ps, by rw [upd_ne n1]; exact h1, h2, fun pos cv hc => ?_⟩
  obtain ⟨c, e1, e2⟩ := h3 pos cv hc
  have n2 : c ≠ p := fun e => by
    rw [e, h] at e2
    exact hp.2 _ (Option.some.inj e2)
  exact ⟨c, e1, by rw [upd_ne n2]; exact e2⟩
theorem tabs_new {T : List (Addr × Str)} {H : Hp} {p : Addr} {o : HO} (t : LamX.Tabs T H) (h : H p = none) : LamX.Tabs T (upd H p o) := LamX.Tabs.ext t fun b u e => by rw [upd_ne (ne_of_none e h)]; exact e

/-! ### representation -/
structure Wd where
  K : PySem.W.Frag
  cm : String → Addr
class Own (β : Type) where
  own : Wd → Hp → HO → β → Prop
  pl : ∀ {wd G o b}, own wd G o b → Pl o
  mono : ∀ {wd G G' o b}, Same G G' → own wd G o b → own wd G' o b
class Rep (α : Type) where
  rep : Wd → Hp → V → α → Prop
  mono : ∀ {wd G G' v a}, Same G G' → rep wd G v a → rep wd G' v a
open Rep (rep)
open Own (own)
/-- the locked object serves for the object -/
class LkO (β : Type) [Own β] : Prop where
  lk : ∀ {wd : Wd} {G : Hp} {o : HO} {b : β} {ob : Obj} {ps : List (Key × V)}, own wd G o b → o = .dK ps → own wd G (.frz ob (.dK ps)) b
theorem SameL.own {β : Type} [Own β] [LkO β] {wd : Wd} {G H K : Hp} {p : Addr} {o : HO} {b : β} (s : SameL G H) (h : G p = some o) (w : own wd K o b) : ∃ o', H p = some o' ∧ own wd K o' b := by
  rcases s p o h with k | ⟨⟨ps, e⟩, _⟩ | ⟨ob, ps, e, k⟩
  · exact ⟨o, k, w⟩
  · exact absurd e ((Own.pl w).1 ps)
  · exact ⟨_, k, LkO.lk w e⟩
instance (priority := 100) repOwn {β : Type} [Own β] : Rep β where
  rep := fun wd G v b => ∃ p o, v = .ref p ∧ G p = some o ∧ own wd G o b
  mono := fun s ⟨p, o, e, g, w⟩ => ⟨p, o, e, s.get g (Own.pl w), Own.mono s w⟩
instance : Rep Int := ⟨fun _ _ v a => v = .int a, fun _ h => h⟩
instance : Rep Bool := ⟨fun _ _ v a => v = .bl a, fun _ h => h⟩
/-- a text within the line, of signs below 1114112 -/
def SOk (a : Str) : Prop := a.cps.toList.length ≤ 16777216 ∧ ∀ c ∈ a.cps.toList, c < 1114112
instance (a : Str) : Decidable (SOk a) := inferInstanceAs (Decidable (_ ∧ _))
instance : Rep Str := ⟨fun _ _ v a => v = .str a ∧ SOk a, fun _ h => h⟩
instance : Rep Unit := ⟨fun _ _ v _ => v = .non, fun _ h => h⟩
instance {α : Type} [Rep α] : Rep (Option α) where
  rep := fun wd G v a => match a with
    | none => v = .non
    | some a => rep wd G v a
  mono := fun {wd G G' v a} s h => by
    cases a with
    | none => exact h
    | some a => exact Rep.mono (α := α) s h
def reps {α : Type} [Rep α] (wd : Wd) (G : Hp) : List V → List α → Prop
  | [], [] => True
  | v :: vs, a :: as => rep wd G v a ∧ reps wd G vs as
  | _, _ => False
section
variable {α : Type} [Rep α] {wd : Wd} {G G' : Hp}
theorem reps.mono (s : Same G G') : ∀ {vs : List V} {as : List α}, reps wd G vs as → reps wd G' vs as
  | [], [], _ => trivial
  | _ :: _, _ :: _, ⟨h, t⟩ => ⟨Rep.mono s h, reps.mono s t⟩
  | [], _ :: _, h => h.elim
  | _ :: _, [], h => h.elim
theorem reps.len : ∀ {vs : List V} {as : List α}, reps wd G vs as → vs.length = as.length
  | [], [], _ => rfl
  | _ :: _, _ :: _, ⟨_, t⟩ => congrArg (· + 1) (reps.len t)
  | [], _ :: _, h => h.elim
  | _ :: _, [], h => h.elim
theorem reps.get : ∀ {vs : List V} {as : List α} {i : Nat} {a : α}, reps wd G vs as → as[i]? = some a → ∃ v, vs[i]? = some v ∧ rep wd G v a
  | [], [], i, a, _, h => by simp at h
  | v :: vs, b :: as, 0, a, ⟨h, t⟩, e => ⟨v, rfl, by
      have : b = a := Option.some.inj e
      exact this ▸ h⟩
  | v :: vs, b :: as, i + 1, a, ⟨h, t⟩, e => reps.get (i := i) t e
  | [], _ :: _, _, _, h, _ => h.elim
  | _ :: _, [], _, _, h, _ => h.elim
theorem reps.get' : ∀ {vs : List V} {as : List α} {i : Nat} {v : V}, reps wd G vs as → vs[i]? = some v → ∃ a, as[i]? = some a ∧ rep wd G v a
  | [], [], i, a, _, h => by simp at h
  | w :: vs, b :: as, 0, v, ⟨h, t⟩, e => ⟨b, rfl, by
      have : w = v := Option.some.inj e
      exact this ▸ h⟩
  | w :: vs, b :: as, i + 1, v, ⟨h, t⟩, e => reps.get' (i := i) t e
  | [], _ :: _, _, _, h, _ => h.elim
  | _ :: _, [], _, _, h, _ => h.elim
theorem reps.snoc : ∀ {vs : List V} {as : List α} {v : V} {a : α}, reps wd G vs as → rep wd G v a → reps wd G (vs ++ [v]) (as ++ [a])
  | [], [], _, _, _, h => ⟨h, trivial⟩
  | _ :: _, _ :: _, _, _, ⟨h, t⟩, q => ⟨h, reps.snoc t q⟩
  | [], _ :: _, _, _, h, _ => h.elim
  | _ :: _, [], _, _, h, _ => h.elim
theorem reps.app : ∀ {vs ws : List V} {as bs : List α}, reps wd G vs as → reps wd G ws bs → reps wd G (vs ++ ws) (as ++ bs)
  | [], _, [], _, _, h => h
  | _ :: _, _, _ :: _, _, ⟨h, t⟩, q => ⟨h, reps.app t q⟩
  | [], _, _ :: _, _, h, _ => h.elim
  | _ :: _, _, [], _, h, _ => h.elim
theorem reps.set : ∀ {vs : List V} {as : List α} {v : V} {a : α} (i : Nat), reps wd G vs as → rep wd G v a → reps wd G (vs.set i v) (as.set i a)
  | [], [], _, _, _, _, _ => trivial
  | _ :: _, _ :: _, _, _, 0, ⟨h, t⟩, q => ⟨q, t⟩
  | _ :: _, _ :: _, _, _, i + 1, ⟨h, t⟩, q => ⟨h, reps.set i t q⟩
  | [], _ :: _, _, _, _, h, _ => h.elim
  | _ :: _, [], _, _, _, h, _ => h.elim
theorem reps.take : ∀ {vs : List V} {as : List α} (n : Nat), reps wd G vs as → reps wd G (vs.take n) (as.take n)
  | _, _, 0, _ => trivial
  | [], [], _ + 1, _ => trivial
  | _ :: _, _ :: _, n + 1, ⟨h, t⟩ => ⟨h, reps.take n t⟩
  | [], _ :: _, _ + 1, h => h.elim
  | _ :: _, [], _ + 1, h => h.elim
theorem reps.drop : ∀ {vs : List V} {as : List α} (n : Nat), reps wd G vs as → reps wd G (vs.drop n) (as.drop n)
  | _, _, 0, h => h
  | [], [], _ + 1, _ => trivial
  | _ :: _, _ :: _, n + 1, ⟨h, t⟩ => reps.drop n t
  | [], _ :: _, _ + 1, h => h.elim
  | _ :: _, [], _ + 1, h => h.elim
theorem reps.ints : ∀ {vs : List V} {as : List Int}, reps wd G vs as → vs = as.map V.int
  | [], [], _ => rfl
  | _ :: _, _ :: _, ⟨h, t⟩ => by rw [show _ = V.int _ from h, reps.ints t]; rfl
  | [], _ :: _, h => h.elim
  | _ :: _, [], h => h.elim
theorem reps.bls : ∀ {vs : List V} {as : List Bool}, reps wd G vs as → vs = as.map V.bl
  | [], [], _ => rfl
  | _ :: _, _ :: _, ⟨h, t⟩ => by rw [show _ = V.bl _ from h, reps.bls t]; rfl
  | [], _ :: _, h => h.elim
  | _ :: _, [], h => h.elim
theorem reps.strs : ∀ {vs : List V} {as : List Str}, reps wd G vs as → vs = as.map V.str
  | [], [], _ => rfl
  | _ :: _, _ :: _, ⟨h, t⟩ => by rw [show _ = V.str _ from h.1, reps.strs t]; rfl
  | [], _ :: _, h => h.elim
  | _ :: _, [], h => h.elim
theorem reps.of_ints : ∀ {as : List Int}, reps wd G (as.map V.int) as
  | [] => trivial
  | _ :: _ => ⟨rfl, reps.of_ints⟩
end
instance {α : Type} [Rep α] : Own (List α) where
  own := fun wd G o xs => ∃ vs, o = .lst vs ∧ vs.length ≤ sizeLine ∧ reps wd G vs xs
  pl := fun ⟨_, e, _⟩ => by subst e; exact Pl.lst
  mono := fun s ⟨vs, e, l, h⟩ => ⟨vs, e, l, h.mono s⟩
instance {α : Type} [Rep α] : LkO (List α) := ⟨fun ⟨_, e, _⟩ z => by rw [e] at z; cases z⟩
/-- a tuple of any length, of one kind -/
structure Tup (α : Type) where
  items : List α
instance {α : Type} [Rep α] : Own (Tup α) where
  own := fun wd G o xs => ∃ vs, o = .tup vs ∧ vs.length ≤ sizeLine ∧ reps wd G vs xs.items
  pl := fun ⟨_, e, _⟩ => by subst e; exact Pl.tup
  mono := fun s ⟨vs, e, l, h⟩ => ⟨vs, e, l, h.mono s⟩
instance {α : Type} [Rep α] : LkO (Tup α) := ⟨fun ⟨_, e, _⟩ z => by rw [e] at z; cases z⟩
instance {α β : Type} [Rep α] [Rep β] : Own (α × β) where
  own := fun wd G o x => ∃ v w, o = .tup [v, w] ∧ rep wd G v x.1 ∧ rep wd G w x.2
  pl := fun ⟨_, _, e, _⟩ => by subst e; exact Pl.tup
  mono := fun s ⟨v, w, e, h, h2⟩ => ⟨v, w, e, Rep.mono s h, Rep.mono s h2⟩
instance {α β : Type} [Rep α] [Rep β] : LkO (α × β) := ⟨fun ⟨_, _, e, _⟩ z => by rw [e] at z; cases z⟩
structure T3 (α β γ : Type) where
  a : α
  b : β
  c : γ
instance {α β γ : Type} [Rep α] [Rep β] [Rep γ] : Own (T3 α β γ) where
  own := fun wd G o x => ∃ v w u, o = .tup [v, w, u] ∧ rep wd G v x.a ∧ rep wd G w x.b ∧ rep wd G u x.c
  pl := fun ⟨_, _, _, e, _⟩ => by subst e; exact Pl.tup
  mono := fun s ⟨v, w, u, e, h, h2, h3⟩ => ⟨v, w, u, e, Rep.mono s h, Rep.mono s h2, Rep.mono s h3⟩
instance {α β γ : Type} [Rep α] [Rep β] [Rep γ] : LkO (T3 α β γ) := ⟨fun ⟨_, _, _, e, _⟩ z => by rw [e] at z; cases z⟩
structure Sheaf where
  rows : Tup (Int × Str)
instance : Own Sheaf where
  own := fun wd G o x => ∃ dx v, o = .ins (wd.cm "Sheaf") dx [(("_rows" : Str), v)] ∧ rep wd G v x.rows
  pl := fun ⟨_, _, e, _⟩ => by subst e; exact Pl.ins
  mono := fun s ⟨dx, v, e, h⟩ => ⟨dx, v, e, Rep.mono s h⟩
instance : LkO Sheaf := ⟨fun ⟨_, _, e, _⟩ z => by rw [e] at z; cases z⟩
/-- the law's script -/
structure Script where
  ns : List Int
instance : Rep Script where
  rep := fun wd G v x => ∃ p, v = .ref p ∧ SqL wd.K G p (x.ns.map V.int)
  mono := fun s ⟨p, e, h⟩ => ⟨p, e, s.seq h⟩

/-- an exception's fields -/
def RepPD (H : Hp) : V → PD → Prop
  | v, .non => v = .non
  | v, .bl b => v = .bl b
  | v, .int i => v = .int i
  | v, .str s => v = .str s
  | v, .tup xs => ∃ p vs, v = .ref p ∧ H p = some (.tup vs) ∧ go H vs xs
where go (H : Hp) : List V → List PD → Prop
  | [], [] => True
  | v :: vs, x :: xs => RepPD H v x ∧ go H vs xs
  | _, _ => False
def RepX (H : Hp) (d : Option Addr) (x : Exc) : Prop :=
  if x.fld = [] then d = none else ∃ a fs, d = some a ∧ H a = some (.xd fs) ∧ fs.length = x.fld.length ∧ ∀ f v, x.fld.lookup f = some v → ∃ u, fs.lookup f = some u ∧ RepPD H u v

/-! ### contexts -/
inductive Ent : Type 1 where
  | fz (i : Nat) (α : Type) [r : Rep α]
  | ow (i : Nat) (β : Type) [r : Own β]
  | bo (i : Nat) (β : Type) [r : Own β]
  | oo (i : Nat) (β : Type) [r : Own β]
  | sf (i : Nat) (β : Type) [r : Own β] (x : Addr)
@[reducible] def Ent.T : Ent → Type
  | @Ent.fz _ α _ => α
  | @Ent.ow _ β _ => β
  | @Ent.bo _ β _ => β
  | @Ent.oo _ β _ => Option β
  | @Ent.sf _ β _ _ => β
@[reducible] def Ent.slot : Ent → Nat
  | @Ent.fz i _ _ => i
  | @Ent.ow i _ _ => i
  | @Ent.bo i _ _ => i
  | @Ent.oo i _ _ => i
  | @Ent.sf i _ _ _ => i
abbrev Ctx := List Ent
@[reducible] def Ctx.T : Ctx → Type
  | [] => Unit
  | e :: c => e.T × Ctx.T c
def Ctx.not (j : Nat) : Ctx → Bool
  | [] => true
  | e :: c => (e.slot != j) && Ctx.not j c
/-- the names and what they hold; os: the owned objects, from the left -/
def R (wd : Wd) (H0 : Hp) (σ : L2.St) (H G : Hp) : (c : Ctx) → Ctx.T c → List Addr → Prop
  | [], _, os => os = []
  | @Ent.fz i α r :: c, γ, os => (∃ v, σ[i]? = some (some v) ∧ r.rep wd G v γ.1) ∧ R wd H0 σ H G c γ.2 os
  | @Ent.ow i β r :: c, γ, os => ∃ p o os', os = p :: os' ∧ σ[i]? = some (some (.ref p)) ∧ H p = some o ∧ r.own wd G o γ.1 ∧ R wd H0 σ H G c γ.2 os'
  | @Ent.bo i β r :: c, γ, os => (∃ p o, σ[i]? = some (some (.ref p)) ∧ H0 p = some o ∧ r.own wd G o γ.1) ∧ R wd H0 σ H G c γ.2 os
  | @Ent.oo i β r :: c, γ, os => (γ.1 = none ∧ σ[i]? = some (some .non) ∧ R wd H0 σ H G c γ.2 os) ∨ ∃ b p o os', γ.1 = some b ∧ os = p :: os' ∧ σ[i]? = some (some (.ref p)) ∧ H p = some o ∧ r.own wd G o b ∧ R wd H0 σ H G c γ.2 os'
  | @Ent.sf i β r x :: c, γ, os => ∃ o os', os = x :: os' ∧ σ[i]? = some (some (.ref x)) ∧ H x = some o ∧ r.own wd G o γ.1 ∧ R wd H0 σ H G c γ.2 os'
structure Fr [TabT] (H G H' G' : Hp) : Prop where
  h : Same H H'
  g : Same G G'
  gh : SameL G' H'
  new : ∀ a o, G' a = some o → G a = some o ∨ H a = none
  tb : LamX.Tabs TabT.T H → LamX.Tabs TabT.T H'
section
variable [TabT]
theorem Fr.refl {H G : Hp} (h : SameL G H) : Fr H G H G := ⟨Same.refl H, Same.refl G, h, fun _ _ e => .inl e, fun t => t⟩
theorem Fr.trans {H G H1 G1 H2 G2 : Hp} (a : Fr H G H1 G1) (b : Fr H1 G1 H2 G2) : Fr H G H2 G2 :=
  ⟨a.h.trans b.h, a.g.trans b.g, b.gh, fun x o e => by
    rcases b.new x o e with q | q
    · exact a.new x o q
    · exact .inr (a.h.free q), fun t => b.tb (a.tb t)⟩
theorem Fr.out {H G H' G' : Hp} (f : Fr H G H' G') {p : Addr} {o : HO} (h : H p = some o) (g : G p = none) : G' p = none := by
  cases e : G' p with
  | none => rfl
  | some u =>
    rcases f.new p u e with q | q
    · rw [g] at q; cases q
    · rw [h] at q; cases q
omit [TabT] in
omit [TabT] in
/-- a new object on the heap, not frozen -/
theorem Same.upd' {H H' : Hp} {p : Addr} {o : HO} (e : Same H H') (h : H p = none) : Same H (upd H' p o) := fun a u ha => by
  rw [upd_ne (ne_of_none ha h)]
  exact e a u ha
omit [TabT] in
theorem SameL.upd' {H H' : Hp} {p : Addr} {o : HO} (e : SameL H H') (h : H' p = none) : SameL H (upd H' p o) := fun a u ha => by
  rw [upd_ne (ne_of_none ha (e.free h))]
  exact e a u ha
theorem Fr.alloc {H G : Hp} {p : Addr} {o : HO} (gh : SameL G H) (n : H p = none) : Fr H G (upd H p o) G :=
  ⟨Same.upd' (Same.refl H) n, Same.refl G, SameL.upd' gh n, fun _ _ e => .inl e, fun t => tabs_new t n⟩
/-- a fresh object is frozen -/
theorem Fr.freeze {H G H' G' : Hp} {p : Addr} {o : HO} (f : Fr H G H' G') (n : H p = none) (g : G' p = none) (e : H' p = some o) : Fr H G H' (upd G' p o) :=
  ⟨f.h, Same.upd' f.g (f.g.free g), fun a u q => by
    by_cases ha : a = p
    · subst ha
      rw [upd_same] at q
      cases q
      exact .inl e
    · rw [upd_ne ha] at q
      exact f.gh a u q, fun a u q => by
    by_cases ha : a = p
    · subst ha
      exact .inr n
    · rw [upd_ne ha] at q
      exact f.new a u q, f.tb⟩
end
/-- the slots: how many, which may be set, what is kept of the others -/
structure Sl where
  n : Nat
  ok : Nat → Prop
  keep : L2.St → Prop
  put : ∀ σ j x, ok j → keep σ → keep (σ.set j x)
def Sl.all (n : Nat) : Sl := ⟨n, fun _ => True, fun _ => True, fun _ _ _ _ _ => trivial⟩
def Sl.P (n : Sl) (σ : L2.St) : Prop := σ.length = n.n ∧ n.keep σ
def Sl.lt (n : Sl) (j : Nat) : Prop := j < n.n ∧ n.ok j
theorem Sl.P.set {n : Sl} {σ : L2.St} {j : Nat} {x : Option V} (h : n.P σ) (hj : n.lt j) : n.P (σ.set j x) := ⟨by rw [List.length_set]; exact h.1, n.put σ j x hj.2 h.2⟩
structure Stt [TabT] (wd : Wd) (n : Sl) (H0 G0 : Hp) (σ : L2.St) (H G : Hp) (os : List Addr) (c : Ctx) (γ : Ctx.T c) : Prop where
  len : n.P σ
  f : Fr H0 G0 H G
  nd : os.Nodup
  fr : ∀ p ∈ os, G p = none ∧ H0 p = none
  r : R wd H0 σ H G c γ os
  t : LamX.Tabs TabT.T H0
section
variable [TabT] {wd : Wd} {H0 G0 : Hp} {σ : L2.St} {H G H' G' : Hp}
omit [TabT] in
theorem R.there : ∀ {c : Ctx} {γ : Ctx.T c} {os : List Addr}, R wd H0 σ H G c γ os → ∀ p ∈ os, ∃ o, H p = some o ∧ Pl o
  | [], _, os, h, p, hp => by
    have e : os = [] := h
    rw [e] at hp
    cases hp
  | @Ent.fz i α _ :: c, γ, os, h, p, hp => R.there h.2 p hp
  | @Ent.bo i α _ :: c, γ, os, h, p, hp => R.there h.2 p hp
  | @Ent.ow i α _ :: c, γ, os, h, p, hp => by
    obtain ⟨q, o, os', rfl, h1, h2, h3, h4⟩ := h
    rcases List.mem_cons.mp hp with e | e
    · exact ⟨o, by rw [e]; exact h2, Own.pl h3⟩
    · exact R.there h4 p e
  | @Ent.oo i α _ :: c, γ, os, h, p, hp => by
    rcases h with ⟨_, _, h⟩ | ⟨b, q, o, os', _, rfl, h1, h2, h3, h4⟩
    · exact R.there h p hp
    · rcases List.mem_cons.mp hp with e | e
      · exact ⟨o, by rw [e]; exact h2, Own.pl h3⟩
      · exact R.there h4 p e
  | @Ent.sf i α _ x :: c, γ, os, h, p, hp => by
    obtain ⟨o, os', rfl, h1, h2, h3, h4⟩ := h
    rcases List.mem_cons.mp hp with e | e
    · exact ⟨o, by rw [e]; exact h2, Own.pl h3⟩
    · exact R.there h4 p e
omit [TabT] in
theorem R.mono (g : Same G G') : ∀ {c : Ctx} {γ : Ctx.T c} {os : List Addr}, (∀ p ∈ os, H' p = H p) → R wd H0 σ H G c γ os → R wd H0 σ H' G' c γ os
  | [], _, os, _, h => h
  | @Ent.fz i α _ :: c, γ, os, k, ⟨⟨v, h1, h2⟩, h⟩ => ⟨⟨v, h1, Rep.mono g h2⟩, R.mono g k h⟩
  | @Ent.bo i α _ :: c, γ, os, k, ⟨⟨p, o, h1, h2, h3⟩, h⟩ => ⟨⟨p, o, h1, h2, Own.mono g h3⟩, R.mono g k h⟩
  | @Ent.ow i α _ :: c, γ, os, k, h => by
    obtain ⟨q, o, os', rfl, h1, h2, h3, h4⟩ := h
    exact ⟨q, o, os', rfl, h1, (k q List.mem_cons_self).trans h2, Own.mono g h3, R.mono g (fun p hp => k p (List.mem_cons_of_mem _ hp)) h4⟩
  | @Ent.oo i α _ :: c, γ, os, k, h => by
    rcases h with ⟨e, h1, h⟩ | ⟨b, q, o, os', e, rfl, h1, h2, h3, h4⟩
    · exact .inl ⟨e, h1, R.mono g k h⟩
    · exact .inr ⟨b, q, o, os', e, rfl, h1, (k q List.mem_cons_self).trans h2, Own.mono g h3, R.mono g (fun p hp => k p (List.mem_cons_of_mem _ hp)) h4⟩
  | @Ent.sf i α _ x :: c, γ, os, k, h => by
    obtain ⟨o, os', rfl, h1, h2, h3, h4⟩ := h
    exact ⟨o, os', rfl, h1, (k x List.mem_cons_self).trans h2, Own.mono g h3, R.mono g (fun p hp => k p (List.mem_cons_of_mem _ hp)) h4⟩
theorem Stt.ext {n : Sl} {os : List Addr} {c : Ctx} {γ : Ctx.T c} (s : Stt wd n H0 G0 σ H G os c γ) (f : Fr H G H' G') : Stt wd n H0 G0 σ H' G' os c γ :=
  ⟨s.len, s.f.trans f, s.nd, fun p hp => by
    obtain ⟨o, ho, _⟩ := s.r.there p hp
    exact ⟨f.out ho (s.fr p hp).1, (s.fr p hp).2⟩, s.r.mono f.g fun p hp => by
    obtain ⟨o, ho, pl⟩ := s.r.there p hp
    rw [ho]
    exact f.h.get ho pl, s.t⟩
omit [TabT] in
omit [TabT] in
/-- slots -/
theorem R.slots : ∀ {c : Ctx} {γ : Ctx.T c} {os : List Addr} {σ' : L2.St}, (∀ e ∈ c, σ'[e.slot]? = σ[e.slot]?) → R wd H0 σ H G c γ os → R wd H0 σ' H G c γ os
  | [], _, os, _, _, h => h
  | @Ent.fz i α _ :: c, γ, os, σ', k, ⟨⟨v, h1, h2⟩, h⟩ => ⟨⟨v, (k _ List.mem_cons_self).trans h1, h2⟩, R.slots (fun e he => k e (List.mem_cons_of_mem _ he)) h⟩
  | @Ent.bo i α _ :: c, γ, os, σ', k, ⟨⟨p, o, h1, h2⟩, h⟩ => ⟨⟨p, o, (k _ List.mem_cons_self).trans h1, h2⟩, R.slots (fun e he => k e (List.mem_cons_of_mem _ he)) h⟩
  | @Ent.ow i α _ :: c, γ, os, σ', k, h => by
    obtain ⟨q, o, os', rfl, h1, h2, h3, h4⟩ := h
    exact ⟨q, o, os', rfl, (k _ List.mem_cons_self).trans h1, h2, h3, R.slots (fun e he => k e (List.mem_cons_of_mem _ he)) h4⟩
  | @Ent.oo i α _ :: c, γ, os, σ', k, h => by
    rcases h with ⟨e, h1, h⟩ | ⟨b, q, o, os', e, rfl, h1, h2, h3, h4⟩
    · exact .inl ⟨e, (k _ List.mem_cons_self).trans h1, R.slots (fun e he => k e (List.mem_cons_of_mem _ he)) h⟩
    · exact .inr ⟨b, q, o, os', e, rfl, (k _ List.mem_cons_self).trans h1, h2, h3, R.slots (fun e he => k e (List.mem_cons_of_mem _ he)) h4⟩
  | @Ent.sf i α _ x :: c, γ, os, σ', k, h => by
    obtain ⟨o, os', rfl, h1, h2, h3, h4⟩ := h
    exact ⟨o, os', rfl, (k _ List.mem_cons_self).trans h1, h2, h3, R.slots (fun e he => k e (List.mem_cons_of_mem _ he)) h4⟩
omit [TabT] in
theorem Ctx.not_mem {j : Nat} : ∀ {c : Ctx}, Ctx.not j c = true → ∀ e ∈ c, e.slot ≠ j
  | [], _, e, he => by cases he
  | a :: c, h, e, he => by
    have h' : ((a.slot != j) && Ctx.not j c) = true := h
    rw [Bool.and_eq_true] at h'
    rcases List.mem_cons.mp he with q | q
    · rw [q]
      simpa using h'.1
    · exact Ctx.not_mem h'.2 e q
omit [TabT] in
theorem R.set {c : Ctx} {γ : Ctx.T c} {os : List Addr} {j : Nat} {x : Option V} (n : Ctx.not j c = true) (h : R wd H0 σ H G c γ os) : R wd H0 (σ.set j x) H G c γ os :=
  h.slots fun e he => List.getElem?_set_ne (Ne.symm (Ctx.not_mem n e he))
end

/-! ### names -/
inductive Var : Ctx → Ent → Type 1 where
  | z {e : Ent} {c : Ctx} : Var (e :: c) e
  | s {e e' : Ent} {c : Ctx} (v : Var c e) : Var (e' :: c) e
@[reducible] def Var.get : {c : Ctx} → {e : Ent} → Var c e → Ctx.T c → e.T
  | _, _, .z, γ => γ.1
  | _, _, .s v, γ => v.get γ.2
@[reducible] def Var.put : {c : Ctx} → {e : Ent} → Var c e → Ctx.T c → e.T → Ctx.T c
  | _, _, .z, γ, a => (a, γ.2)
  | _, _, .s v, γ, a => (γ.1, v.put γ.2 a)
/-- a part of the context -/
inductive Sub : Ctx → Ctx → Type 1 where
  | nil : Sub [] []
  | keep {e : Ent} {c c' : Ctx} (s : Sub c c') : Sub (e :: c) (e :: c')
  | skip {e : Ent} {c c' : Ctx} (s : Sub c c') : Sub (e :: c) c'
@[reducible] def Sub.proj : {c c' : Ctx} → Sub c c' → Ctx.T c → Ctx.T c'
  | _, _, .nil, _ => ()
  | _, _, .keep s, γ => (γ.1, s.proj γ.2)
  | _, _, .skip s, γ => s.proj γ.2
/-- owned objects are frozen -/
inductive Frz : Ctx → Ctx → Type 1 where
  | nil : Frz [] []
  | keep {e : Ent} {c c' : Ctx} (s : Frz c c') : Frz (e :: c) (e :: c')
  | frz {i : Nat} {β : Type} {r : Own β} {c c' : Ctx} (s : Frz c c') : Frz (@Ent.ow i β r :: c) (@Ent.fz i β (@repOwn β r) :: c')
@[reducible] def Frz.proj : {c c' : Ctx} → Frz c c' → Ctx.T c → Ctx.T c'
  | _, _, .nil, _ => ()
  | _, _, .keep s, γ => (γ.1, s.proj γ.2)
  | _, _, .frz s, γ => (γ.1, s.proj γ.2)
section
variable [TabT] {wd : Wd} {H0 G0 : Hp} {σ : L2.St} {H G H' G' : Hp}
omit [TabT] in
theorem Var.fz {i : Nat} {α : Type} [Rep α] : ∀ {c : Ctx} (v : Var c (.fz i α)) {γ : Ctx.T c} {os : List Addr}, R wd H0 σ H G c γ os → ∃ x, σ[i]? = some (some x) ∧ rep wd G x (v.get γ)
  | _, .z, γ, os, h => h.1
  | _, .s (e' := @Ent.fz j δ _) v, γ, os, h => Var.fz v h.2
  | _, .s (e' := @Ent.bo j δ _) v, γ, os, h => Var.fz v h.2
  | _, .s (e' := @Ent.ow j δ _) v, γ, os, h => by
    obtain ⟨q, o, os', rfl, h1, h2, h3, h4⟩ := h
    exact Var.fz v h4
  | _, .s (e' := @Ent.oo j δ _) v, γ, os, h => by
    rcases h with ⟨e, h1, h⟩ | ⟨b, q, o, os', e, rfl, h1, h2, h3, h4⟩
    · exact Var.fz v h
    · exact Var.fz v h4
  | _, .s (e' := @Ent.sf j δ _ x) v, γ, os, h => by
    obtain ⟨o, os', rfl, h1, h2, h3, h4⟩ := h
    exact Var.fz v h4
omit [TabT] in
theorem Var.bo {i : Nat} {α : Type} [Own α] : ∀ {c : Ctx} (v : Var c (.bo i α)) {γ : Ctx.T c} {os : List Addr}, R wd H0 σ H G c γ os → ∃ p o, σ[i]? = some (some (.ref p)) ∧ H0 p = some o ∧ own wd G o (v.get γ)
  | _, .z, γ, os, h => h.1
  | _, .s (e' := @Ent.fz j δ _) v, γ, os, h => Var.bo v h.2
  | _, .s (e' := @Ent.bo j δ _) v, γ, os, h => Var.bo v h.2
  | _, .s (e' := @Ent.ow j δ _) v, γ, os, h => by
    obtain ⟨q, o, os', rfl, h1, h2, h3, h4⟩ := h
    exact Var.bo v h4
  | _, .s (e' := @Ent.oo j δ _) v, γ, os, h => by
    rcases h with ⟨e, h1, h⟩ | ⟨b, q, o, os', e, rfl, h1, h2, h3, h4⟩
    · exact Var.bo v h
    · exact Var.bo v h4
  | _, .s (e' := @Ent.sf j δ _ x) v, γ, os, h => by
    obtain ⟨o, os', rfl, h1, h2, h3, h4⟩ := h
    exact Var.bo v h4
omit [TabT] in
theorem Var.ow {i : Nat} {α : Type} [Own α] : ∀ {c : Ctx} (v : Var c (.ow i α)) {γ : Ctx.T c} {os : List Addr}, R wd H0 σ H G c γ os → ∃ p o, p ∈ os ∧ σ[i]? = some (some (.ref p)) ∧ H p = some o ∧ own wd G o (v.get γ)
  | _, .z, γ, os, h => by
    obtain ⟨q, o, os', rfl, h1, h2, h3, h4⟩ := h
    exact ⟨q, o, List.mem_cons_self, h1, h2, h3⟩
  | _, .s (e' := @Ent.fz j δ _) v, γ, os, h => Var.ow v h.2
  | _, .s (e' := @Ent.bo j δ _) v, γ, os, h => Var.ow v h.2
  | _, .s (e' := @Ent.ow j δ _) v, γ, os, h => by
    obtain ⟨q, o, os', rfl, h1, h2, h3, h4⟩ := h
    obtain ⟨p, o2, k1, k2⟩ := Var.ow v h4
    exact ⟨p, o2, List.mem_cons_of_mem _ k1, k2⟩
  | _, .s (e' := @Ent.oo j δ _) v, γ, os, h => by
    rcases h with ⟨e, h1, h⟩ | ⟨b, q, o, os', e, rfl, h1, h2, h3, h4⟩
    · exact Var.ow v h
    · obtain ⟨p, o2, k1, k2⟩ := Var.ow v h4
      exact ⟨p, o2, List.mem_cons_of_mem _ k1, k2⟩
  | _, .s (e' := @Ent.sf j δ _ x) v, γ, os, h => by
    obtain ⟨o, os', rfl, h1, h2, h3, h4⟩ := h
    obtain ⟨p, o2, k1, k2⟩ := Var.ow v h4
    exact ⟨p, o2, List.mem_cons_of_mem _ k1, k2⟩
omit [TabT] in
theorem Var.sf {i : Nat} {α : Type} [Own α] {x : Addr} : ∀ {c : Ctx} (v : Var c (.sf i α x)) {γ : Ctx.T c} {os : List Addr}, R wd H0 σ H G c γ os → ∃ o, x ∈ os ∧ σ[i]? = some (some (.ref x)) ∧ H x = some o ∧ own wd G o (v.get γ)
  | _, .z, γ, os, h => by
    obtain ⟨o, os', rfl, h1, h2, h3, h4⟩ := h
    exact ⟨o, List.mem_cons_self, h1, h2, h3⟩
  | _, .s (e' := @Ent.fz j δ _) v, γ, os, h => Var.sf v h.2
  | _, .s (e' := @Ent.bo j δ _) v, γ, os, h => Var.sf v h.2
  | _, .s (e' := @Ent.ow j δ _) v, γ, os, h => by
    obtain ⟨q, o, os', rfl, h1, h2, h3, h4⟩ := h
    obtain ⟨o2, k1, k2⟩ := Var.sf v h4
    exact ⟨o2, List.mem_cons_of_mem _ k1, k2⟩
  | _, .s (e' := @Ent.oo j δ _) v, γ, os, h => by
    rcases h with ⟨e, h1, h⟩ | ⟨b, q, o, os', e, rfl, h1, h2, h3, h4⟩
    · exact Var.sf v h
    · obtain ⟨o2, k1, k2⟩ := Var.sf v h4
      exact ⟨o2, List.mem_cons_of_mem _ k1, k2⟩
  | _, .s (e' := @Ent.sf j δ _ y) v, γ, os, h => by
    obtain ⟨o, os', rfl, h1, h2, h3, h4⟩ := h
    obtain ⟨o2, k1, k2⟩ := Var.sf v h4
    exact ⟨o2, List.mem_cons_of_mem _ k1, k2⟩
omit [TabT] in
omit [TabT] in
/-- a name that holds none or an owned object -/
theorem Var.oo {i : Nat} {α : Type} [Own α] : ∀ {c : Ctx} (v : Var c (.oo i α)) {γ : Ctx.T c} {os : List Addr}, R wd H0 σ H G c γ os → (v.get γ = none ∧ σ[i]? = some (some .non)) ∨ ∃ b p o, v.get γ = some b ∧ p ∈ os ∧ σ[i]? = some (some (.ref p)) ∧ H p = some o ∧ own wd G o b
  | _, .z, γ, os, h => by
    rcases h with ⟨e, h1, h⟩ | ⟨b, q, o, os', e, rfl, h1, h2, h3, h4⟩
    · exact .inl ⟨e, h1⟩
    · exact .inr ⟨b, q, o, e, List.mem_cons_self, h1, h2, h3⟩
  | _, .s (e' := @Ent.fz j δ _) v, γ, os, h => Var.oo v h.2
  | _, .s (e' := @Ent.bo j δ _) v, γ, os, h => Var.oo v h.2
  | _, .s (e' := @Ent.ow j δ _) v, γ, os, h => by
    obtain ⟨q, o, os', rfl, h1, h2, h3, h4⟩ := h
    rcases Var.oo v h4 with k | ⟨b, p, o2, k0, k1, k2⟩
    · exact .inl k
    · exact .inr ⟨b, p, o2, k0, List.mem_cons_of_mem _ k1, k2⟩
  | _, .s (e' := @Ent.oo j δ _) v, γ, os, h => by
    rcases h with ⟨e, h1, h⟩ | ⟨b, q, o, os', e, rfl, h1, h2, h3, h4⟩
    · exact Var.oo v h
    · rcases Var.oo v h4 with k | ⟨b, p, o2, k0, k1, k2⟩
      · exact .inl k
      · exact .inr ⟨b, p, o2, k0, List.mem_cons_of_mem _ k1, k2⟩
  | _, .s (e' := @Ent.sf j δ _ x) v, γ, os, h => by
    obtain ⟨o, os', rfl, h1, h2, h3, h4⟩ := h
    rcases Var.oo v h4 with k | ⟨b, p, o2, k0, k1, k2⟩
    · exact .inl k
    · exact .inr ⟨b, p, o2, k0, List.mem_cons_of_mem _ k1, k2⟩
omit [TabT] in
omit [TabT] in
/-- the object of an owned name is changed -/
theorem Var.write {i : Nat} {α : Type} [Own α] : ∀ {c : Ctx} (v : Var c (.ow i α)) {γ : Ctx.T c} {os : List Addr}, os.Nodup → R wd H0 σ H G c γ os → ∃ p o, p ∈ os ∧ σ[i]? = some (some (.ref p)) ∧ H p = some o ∧ own wd G o (v.get γ) ∧
    ∀ o' b, own wd G o' b → R wd H0 σ (upd H p o') G c (v.put γ b) os
  | _, .z, γ, os, nd, h => by
    obtain ⟨q, o, os', rfl, h1, h2, h3, h4⟩ := h
    refine ⟨q, o, List.mem_cons_self, h1, h2, h3, fun o' b w => ⟨q, o', os', rfl, h1, upd_same, w, h4.mono (Same.refl G) fun p hp => ?_⟩⟩
    exact upd_ne fun e => (List.nodup_cons.mp nd).1 (e ▸ hp)
  | _, .s (e' := @Ent.fz j δ _) v, γ, os, nd, h => by
    obtain ⟨p, o, k1, k2, k3, k4, k5⟩ := Var.write v nd h.2
    exact ⟨p, o, k1, k2, k3, k4, fun o' b w => ⟨h.1, k5 o' b w⟩⟩
  | _, .s (e' := @Ent.bo j δ _) v, γ, os, nd, h => by
    obtain ⟨p, o, k1, k2, k3, k4, k5⟩ := Var.write v nd h.2
    exact ⟨p, o, k1, k2, k3, k4, fun o' b w => ⟨h.1, k5 o' b w⟩⟩
  | _, .s (e' := @Ent.ow j δ _) v, γ, os, nd, h => by
    obtain ⟨q, o, os', rfl, h1, h2, h3, h4⟩ := h
    obtain ⟨p, o2, k1, k2, k3, k4, k5⟩ := Var.write v (List.nodup_cons.mp nd).2 h4
    refine ⟨p, o2, List.mem_cons_of_mem _ k1, k2, k3, k4, fun o' b w => ⟨q, o, os', rfl, h1, ?_, h3, k5 o' b w⟩⟩
    rw [upd_ne fun e => (List.nodup_cons.mp nd).1 (by rw [e]; exact k1)]
    exact h2
  | _, .s (e' := @Ent.oo j δ _) v, γ, os, nd, h => by
    rcases h with ⟨e, h1, h⟩ | ⟨b, q, o, os', e, rfl, h1, h2, h3, h4⟩
    · obtain ⟨p, o2, k1, k2, k3, k4, k5⟩ := Var.write v nd h
      exact ⟨p, o2, k1, k2, k3, k4, fun o' b' w => .inl ⟨e, h1, k5 o' b' w⟩⟩
    · obtain ⟨p, o2, k1, k2, k3, k4, k5⟩ := Var.write v (List.nodup_cons.mp nd).2 h4
      refine ⟨p, o2, List.mem_cons_of_mem _ k1, k2, k3, k4, fun o' b' w => .inr ⟨b, q, o, os', e, rfl, h1, ?_, h3, k5 o' b' w⟩⟩
      rw [upd_ne fun e => (List.nodup_cons.mp nd).1 (by rw [e]; exact k1)]
      exact h2
  | _, .s (e' := @Ent.sf j δ _ x) v, γ, os, nd, h => by
    obtain ⟨o, os', rfl, h1, h2, h3, h4⟩ := h
    obtain ⟨p, o2, k1, k2, k3, k4, k5⟩ := Var.write v (List.nodup_cons.mp nd).2 h4
    refine ⟨p, o2, List.mem_cons_of_mem _ k1, k2, k3, k4, fun o' b w => ⟨o, os', rfl, h1, ?_, h3, k5 o' b w⟩⟩
    rw [upd_ne fun e => (List.nodup_cons.mp nd).1 (by rw [e]; exact k1)]
    exact h2
omit [TabT] in
omit [TabT] in
/-- the object at x is changed, to one of another kind maybe; it stands first -/
theorem R.remake {i : Nat} {α β : Type} [Own α] [Own β] {x : Addr} {c : Ctx} {γ : Ctx.T (.sf i α x :: c)} {os : List Addr} {o' : HO} {b : β} (nd : os.Nodup) (h : R wd H0 σ H G (.sf i α x :: c) γ os) (w : own wd G o' b) : R wd H0 σ (upd H x o') G (.sf i β x :: c) (b, γ.2) os := by
  obtain ⟨o, os', rfl, h1, h2, h3, h4⟩ := h
  exact ⟨o', os', rfl, h1, upd_same, w, h4.mono (Same.refl G) fun p hp => upd_ne fun e => (List.nodup_cons.mp nd).1 (by rw [← e]; exact hp)⟩
omit [TabT] in
theorem Var.inSlots : ∀ {c : Ctx} {e : Ent} (v : Var c e), e.slot ∈ c.map Ent.slot
  | _, _, .z => List.mem_cons_self
  | _, _, .s v => List.mem_cons_of_mem _ (Var.inSlots v)
omit [TabT] in
omit [TabT] in
/-- a name is stored anew -/
theorem Var.restore {i : Nat} {α : Type} [Rep α] {x : V} {a : α} : ∀ {c : Ctx} (v : Var c (Ent.fz i α)) {γ : Ctx.T c} {os : List Addr}, (c.map Ent.slot).Nodup → rep wd G x a → i < σ.length → R wd H0 σ H G c γ os → R wd H0 (σ.set i (some x)) H G c (v.put γ a) os
  | @Ent.fz _ _ _ :: c, .z, γ, os, nd, w, l, h => ⟨⟨x, by rw [List.getElem?_set_self l], w⟩, h.2.slots fun e he => List.getElem?_set_ne fun q => (List.nodup_cons.mp nd).1 (by rw [show Ent.slot _ = i from rfl, q]; exact List.mem_map_of_mem he)⟩
  | @Ent.fz j δ _ :: c, .s v, γ, os, nd, w, l, h => by
    refine ⟨?_, Var.restore v (List.nodup_cons.mp nd).2 w l h.2⟩
    obtain ⟨y, e1, e2⟩ := h.1
    refine ⟨y, ?_, e2⟩
    rw [List.getElem?_set_ne fun q => ?_]
    · exact e1
    · exact (List.nodup_cons.mp nd).1 (q ▸ v.inSlots)
  | @Ent.bo j δ _ :: c, .s v, γ, os, nd, w, l, h => by
    refine ⟨?_, Var.restore v (List.nodup_cons.mp nd).2 w l h.2⟩
    obtain ⟨p, o, e1, e2⟩ := h.1
    refine ⟨p, o, ?_, e2⟩
    rw [List.getElem?_set_ne fun q => ?_]
    · exact e1
    · exact (List.nodup_cons.mp nd).1 (q ▸ v.inSlots)
  | @Ent.ow j δ _ :: c, .s v, γ, os, nd, w, l, h => by
    obtain ⟨q, o, os', rfl, h1, h2, h3, h4⟩ := h
    refine ⟨q, o, os', rfl, ?_, h2, h3, Var.restore v (List.nodup_cons.mp nd).2 w l h4⟩
    rw [List.getElem?_set_ne fun q => ?_]
    · exact h1
    · exact (List.nodup_cons.mp nd).1 (q ▸ v.inSlots)
  | @Ent.oo j δ _ :: c, .s v, γ, os, nd, w, l, h => by
    have ne : i ≠ j := fun q => (List.nodup_cons.mp nd).1 (by show j ∈ c.map Ent.slot; rw [← q]; exact v.inSlots)
    rcases h with ⟨e, h1, h⟩ | ⟨b, q, o, os', e, rfl, h1, h2, h3, h4⟩
    · exact .inl ⟨e, by rw [List.getElem?_set_ne ne]; exact h1, Var.restore v (List.nodup_cons.mp nd).2 w l h⟩
    · exact .inr ⟨b, q, o, os', e, rfl, by rw [List.getElem?_set_ne ne]; exact h1, h2, h3, Var.restore v (List.nodup_cons.mp nd).2 w l h4⟩
  | @Ent.sf j δ _ y :: c, .s v, γ, os, nd, w, l, h => by
    have ne : i ≠ j := fun q => (List.nodup_cons.mp nd).1 (by show j ∈ c.map Ent.slot; rw [← q]; exact v.inSlots)
    obtain ⟨o, os', rfl, h1, h2, h3, h4⟩ := h
    exact ⟨o, os', rfl, by rw [List.getElem?_set_ne ne]; exact h1, h2, h3, Var.restore v (List.nodup_cons.mp nd).2 w l h4⟩
omit [TabT] in
theorem Sub.r : ∀ {c c' : Ctx} (s : Sub c c') {γ : Ctx.T c} {os : List Addr}, R wd H0 σ H G c γ os → ∃ os', R wd H0 σ H G c' (s.proj γ) os' ∧ os'.Sublist os
  | _, _, .nil, γ, os, h => ⟨[], rfl, List.nil_sublist _⟩
  | _, _, .keep (e := @Ent.fz i α _) s, γ, os, h => by
    obtain ⟨os', h1, h2⟩ := s.r h.2
    exact ⟨os', ⟨h.1, h1⟩, h2⟩
  | _, _, .keep (e := @Ent.bo i α _) s, γ, os, h => by
    obtain ⟨os', h1, h2⟩ := s.r h.2
    exact ⟨os', ⟨h.1, h1⟩, h2⟩
  | _, _, .keep (e := @Ent.ow i α _) s, γ, os, h => by
    obtain ⟨q, o, os1, rfl, k1, k2, k3, k4⟩ := h
    obtain ⟨os', h1, h2⟩ := s.r k4
    exact ⟨q :: os', ⟨q, o, os', rfl, k1, k2, k3, h1⟩, h2.cons₂ q⟩
  | _, _, .keep (e := @Ent.oo i α _) s, γ, os, h => by
    rcases h with ⟨e, k1, h⟩ | ⟨b, q, o, os1, e, rfl, k1, k2, k3, k4⟩
    · obtain ⟨os', h1, h2⟩ := s.r h
      exact ⟨os', .inl ⟨e, k1, h1⟩, h2⟩
    · obtain ⟨os', h1, h2⟩ := s.r k4
      exact ⟨q :: os', .inr ⟨b, q, o, os', e, rfl, k1, k2, k3, h1⟩, h2.cons₂ q⟩
  | _, _, .keep (e := @Ent.sf i α _ x) s, γ, os, h => by
    obtain ⟨o, os1, rfl, k1, k2, k3, k4⟩ := h
    obtain ⟨os', h1, h2⟩ := s.r k4
    exact ⟨x :: os', ⟨o, os', rfl, k1, k2, k3, h1⟩, h2.cons₂ x⟩
  | _, _, .skip (e := @Ent.fz i α _) s, γ, os, h => s.r h.2
  | _, _, .skip (e := @Ent.bo i α _) s, γ, os, h => s.r h.2
  | _, _, .skip (e := @Ent.ow i α _) s, γ, os, h => by
    obtain ⟨q, o, os1, rfl, k1, k2, k3, k4⟩ := h
    obtain ⟨os', h1, h2⟩ := s.r k4
    exact ⟨os', h1, h2.cons q⟩
  | _, _, .skip (e := @Ent.oo i α _) s, γ, os, h => by
    rcases h with ⟨e, k1, h⟩ | ⟨b, q, o, os1, e, rfl, k1, k2, k3, k4⟩
    · exact s.r h
    · obtain ⟨os', h1, h2⟩ := s.r k4
      exact ⟨os', h1, h2.cons q⟩
  | _, _, .skip (e := @Ent.sf i α _ x) s, γ, os, h => by
    obtain ⟨o, os1, rfl, k1, k2, k3, k4⟩ := h
    obtain ⟨os', h1, h2⟩ := s.r k4
    exact ⟨os', h1, h2.cons x⟩
theorem Stt.sub {n : Sl} {c c' : Ctx} (s : Sub c c') {γ : Ctx.T c} {os : List Addr} (h : Stt wd n H0 G0 σ H G os c γ) : ∃ os', os'.Sublist os ∧ Stt wd n H0 G0 σ H G os' c' (s.proj γ) := by
  obtain ⟨os', h1, h2⟩ := s.r h.r
  exact ⟨os', h2, h.len, h.f, h.nd.sublist h2, fun p hp => h.fr p (h2.subset hp), h1, h.t⟩
/-- one object is frozen -/
theorem Fr.frz1 {p : Addr} {o : HO} (f : Fr H0 G0 H G) (g : G p = none) (h0 : H0 p = none) (e : H p = some o) : Fr H0 G0 H (upd G p o) :=
  ⟨f.h, Same.upd' f.g (f.g.free g), fun a u q => by
    by_cases ha : a = p
    · subst ha
      rw [upd_same] at q
      cases q
      exact .inl e
    · rw [upd_ne ha] at q
      exact f.gh a u q, fun a u q => by
    by_cases ha : a = p
    · subst ha
      exact .inr h0
    · rw [upd_ne ha] at q
      exact f.new a u q, f.tb⟩
theorem Frz.r : ∀ {c c' : Ctx} (s : Frz c c') {γ : Ctx.T c} {os : List Addr} {G : Hp}, R wd H0 σ H G c γ os → os.Nodup → (∀ p ∈ os, G p = none ∧ H0 p = none) → Fr H0 G0 H G →
    ∃ os' G', R wd H0 σ H G' c' (s.proj γ) os' ∧ os'.Sublist os ∧ Fr H0 G0 H G' ∧ Same G G' ∧ (∀ p, p ∉ os → G p = none → G' p = none) ∧ ∀ p ∈ os', G' p = none
  | _, _, .nil, γ, os, G, h, nd, fr, f => ⟨[], G, rfl, List.nil_sublist _, f, Same.refl G, fun _ _ h => h, fun _ h => by cases h⟩
  | _, _, .keep (e := @Ent.fz i α _) s, γ, os, G, h, nd, fr, f => by
    obtain ⟨os', G', h1, h2, h3, h4, h5, h6⟩ := s.r h.2 nd fr f
    obtain ⟨v, k1, k2⟩ := h.1
    exact ⟨os', G', ⟨⟨v, k1, Rep.mono h4 k2⟩, h1⟩, h2, h3, h4, h5, h6⟩
  | _, _, .keep (e := @Ent.bo i α _) s, γ, os, G, h, nd, fr, f => by
    obtain ⟨os', G', h1, h2, h3, h4, h5, h6⟩ := s.r h.2 nd fr f
    obtain ⟨v, o, k1, k2, k3⟩ := h.1
    exact ⟨os', G', ⟨⟨v, o, k1, k2, Own.mono h4 k3⟩, h1⟩, h2, h3, h4, h5, h6⟩
  | _, _, .keep (e := @Ent.ow i α _) s, γ, os, G, h, nd, fr, f => by
    obtain ⟨q, o, os1, rfl, k1, k2, k3, k4⟩ := h
    have nd' := List.nodup_cons.mp nd
    obtain ⟨os', G', h1, h2, h3, h4, h5, h6⟩ := s.r k4 nd'.2 (fun p hp => fr p (List.mem_cons_of_mem _ hp)) f
    have gq := h5 q nd'.1 (fr q List.mem_cons_self).1
    refine ⟨q :: os', G', ⟨q, o, os', rfl, k1, k2, Own.mono h4 k3, h1⟩, h2.cons₂ q, h3, h4, fun p hp => h5 p fun z => hp (List.mem_cons_of_mem _ z), fun p hp => ?_⟩
    rcases List.mem_cons.mp hp with e | e
    · rw [e]; exact gq
    · exact h6 p e
  | _, _, .keep (e := @Ent.oo i α _) s, γ, os, G, h, nd, fr, f => by
    rcases h with ⟨e, k1, h⟩ | ⟨b, q, o, os1, e, rfl, k1, k2, k3, k4⟩
    · obtain ⟨os', G', h1, h2, h3, h4, h5, h6⟩ := s.r h nd fr f
      exact ⟨os', G', .inl ⟨e, k1, h1⟩, h2, h3, h4, h5, h6⟩
    · have nd' := List.nodup_cons.mp nd
      obtain ⟨os', G', h1, h2, h3, h4, h5, h6⟩ := s.r k4 nd'.2 (fun p hp => fr p (List.mem_cons_of_mem _ hp)) f
      have gq := h5 q nd'.1 (fr q List.mem_cons_self).1
      refine ⟨q :: os', G', .inr ⟨b, q, o, os', e, rfl, k1, k2, Own.mono h4 k3, h1⟩, h2.cons₂ q, h3, h4, fun p hp => h5 p fun z => hp (List.mem_cons_of_mem _ z), fun p hp => ?_⟩
      rcases List.mem_cons.mp hp with e | e
      · rw [e]; exact gq
      · exact h6 p e
  | _, _, .keep (e := @Ent.sf i α _ x) s, γ, os, G, h, nd, fr, f => by
    obtain ⟨o, os1, rfl, k1, k2, k3, k4⟩ := h
    have nd' := List.nodup_cons.mp nd
    obtain ⟨os', G', h1, h2, h3, h4, h5, h6⟩ := s.r k4 nd'.2 (fun p hp => fr p (List.mem_cons_of_mem _ hp)) f
    have gq := h5 x nd'.1 (fr x List.mem_cons_self).1
    refine ⟨x :: os', G', ⟨o, os', rfl, k1, k2, Own.mono h4 k3, h1⟩, h2.cons₂ x, h3, h4, fun p hp => h5 p fun z => hp (List.mem_cons_of_mem _ z), fun p hp => ?_⟩
    rcases List.mem_cons.mp hp with e | e
    · rw [e]; exact gq
    · exact h6 p e
  | _, _, @Frz.frz i α r c c' s, γ, os, G, h, nd, fr, f => by
    obtain ⟨q, o, os1, rfl, k1, k2, k3, k4⟩ := h
    have nd' := List.nodup_cons.mp nd
    obtain ⟨os', G', h1, h2, h3, h4, h5, h6⟩ := s.r k4 nd'.2 (fun p hp => fr p (List.mem_cons_of_mem _ hp)) f
    have gq := h5 q nd'.1 (fr q List.mem_cons_self).1
    have sg : Same G' (upd G' q o) := Same.upd' (Same.refl G') gq
    refine ⟨os', upd G' q o, ⟨⟨.ref q, k1, q, o, rfl, upd_same, Own.mono (h4.trans sg) k3⟩, h1.mono sg fun _ _ => rfl⟩, h2.cons q, h3.frz1 gq (fr q List.mem_cons_self).2 k2, h4.trans sg, fun p hp g => ?_, fun p hp => ?_⟩
    · rw [upd_ne fun e => hp (by rw [e]; exact List.mem_cons_self)]
      exact h5 p (fun z => hp (List.mem_cons_of_mem _ z)) g
    · rw [upd_ne fun e => nd'.1 (by rw [← e]; exact h2.subset hp)]
      exact h6 p hp
theorem Stt.frz {n : Sl} {c c' : Ctx} (s : Frz c c') {γ : Ctx.T c} {os : List Addr} (h : Stt wd n H0 G0 σ H G os c γ) : ∃ os' G', Stt wd n H0 G0 σ H G' os' c' (s.proj γ) := by
  obtain ⟨os', G', h1, h2, h3, h4, h5, h6⟩ := s.r h.r h.nd h.fr h.f
  exact ⟨os', G', h.len, h3, h.nd.sublist h2, fun p hp => ⟨h6 p hp, (h.fr p (h2.subset hp)).2⟩, h1, h.t⟩
/-- an owned object that may be none is told to be there -/
inductive Nar : Ctx → Ctx → Type 1 where
  | z {i : Nat} {β : Type} {r : Own β} {c : Ctx} : Nar (@Ent.oo i β r :: c) (@Ent.ow i β r :: c)
  | s {e : Ent} {c c' : Ctx} (n : Nar c c') : Nar (e :: c) (e :: c')
omit [TabT] in
@[reducible] def Nar.go : {c c' : Ctx} → Nar c c' → Ctx.T c → Rs (Ctx.T c')
  | _, _, .z, γ => match γ.1 with
    | some b => .ok (b, γ.2)
    | none => .no
  | _, _, .s n, γ => (n.go γ.2).bind fun g => .ok (γ.1, g)
omit [TabT] in
theorem Nar.r : ∀ {c c' : Ctx} (s : Nar c c') {γ : Ctx.T c} {γ' : Ctx.T c'} {os : List Addr}, s.go γ = .ok γ' → R wd H0 σ H G c γ os → R wd H0 σ H G c' γ' os
  | _, _, .z, (none, γ), γ', os, e, h => by cases e
  | _, _, .z, (some b, γ), γ', os, e, h => by
    cases e
    rcases h with ⟨e, _⟩ | ⟨b', q, o, os1, e, rfl, k1, k2, k3, k4⟩
    · cases e
    · cases e
      exact ⟨q, o, os1, rfl, k1, k2, k3, k4⟩
  | _, _, .s (e := x) n, γ, γ', os, e, h => by
    have e' : (n.go γ.2).bind (fun g => .ok (γ.1, g)) = .ok γ' := e
    cases e2 : n.go γ.2 with
    | no => rw [e2] at e'; cases e'
    | ex _ => rw [e2] at e'; cases e'
    | ok g =>
      rw [e2] at e'
      cases e'
      cases x with
      | fz i β => exact ⟨h.1, n.r e2 h.2⟩
      | bo i β => exact ⟨h.1, n.r e2 h.2⟩
      | ow i β =>
        obtain ⟨q, o, os1, rfl, k1, k2, k3, k4⟩ := h
        exact ⟨q, o, os1, rfl, k1, k2, k3, n.r e2 k4⟩
      | oo i β =>
        rcases h with ⟨e, k1, h⟩ | ⟨b, q, o, os1, e, rfl, k1, k2, k3, k4⟩
        · exact .inl ⟨e, k1, n.r e2 h⟩
        · exact .inr ⟨b, q, o, os1, e, rfl, k1, k2, k3, n.r e2 k4⟩
      | sf i β y =>
        obtain ⟨o, os1, rfl, k1, k2, k3, k4⟩ := h
        exact ⟨o, os1, rfl, k1, k2, k3, n.r e2 k4⟩
theorem Stt.nar {n : Sl} {c c' : Ctx} (s : Nar c c') {γ : Ctx.T c} {γ' : Ctx.T c'} {os : List Addr} (e : s.go γ = .ok γ') (h : Stt wd n H0 G0 σ H G os c γ) : Stt wd n H0 G0 σ H G os c' γ' :=
  ⟨h.len, h.f, h.nd, h.fr, s.r e h.r, h.t⟩
end
theorem okN {P : Program} {w : World} {K : PySem.W.Frag} {mg : Str → Option Value} {base : Heap} {x qual : Str} {st : Stmt} {f : Addr} {fd : FuncData} {N ps : List Str} {k : Nat} {sp : Sp} (F : Fun K x qual st f fd) (S : FnScope N ps (defScope st)) (len : ∀ vs H Q E, sp vs H Q E → vs.length = ps.length)
    (hbody : ∀ (cdv : Value) (A : Around) (outer : List Env) (s : Shared) (H : Hp) (vs : List V) (Q : VK) (E : XK), Room k (A.deeper (envOfC qual (defScope st) s.heap.objs.size f cdv)) → sp vs H Q E →
      ∃ t, PSs (cxOf (L2N.CX P w) P w K mg base N qual (defScope st) f cdv A outer s H E) (defBody st) t ∧ t { nx := fun _ H' => Q .non H', rt := Q } (start N vs) H) : FnOk P w K mg base (L2N.CX P w) (k + 1) f fd ps sp := by
  obtain ⟨oc, od, kV, doc, pm, an, cdv, ct, osl, rfl, lk, hcd⟩ := F.ex
  exact fn_of lk hcd S len fun A outer s H vs Q E hr hsp => hbody cdv A outer s H vs Q E hr hsp
/-- .. and where an exception is handled -/
theorem okH {P : Program} {w : World} {K : PySem.W.Frag} {mg : Str → Option Value} {base : Heap} {x qual : Str} {st : Stmt} {f : Addr} {fd : FuncData} {N ps : List Str} {k : Nat} {sp : Sp} (F : Fun K x qual st f fd) (S : FnScope N ps (defScope st)) (len : ∀ vs H Q E, sp vs H Q E → vs.length = ps.length)
    (hbody : ∀ (cdv : Value) (A : Around) (outer : List Env) (s : Shared) (H : Hp) (vs : List V) (Q : VK) (E : XK) (p : Addr × Obj), L2H.Hot1 A p → L2H.RoomH k (A.deeper (envOfC qual (defScope st) s.heap.objs.size f cdv)) → sp vs H Q E →
      ∃ t, PSs (L2H.cxH (L2N.CX P w) P w K mg base N qual (defScope st) f cdv A outer s H E p) (defBody st) t ∧ t { nx := fun _ H' => Q .non H', rt := Q } (start N vs) H) : L2H.FnH P w K mg base (L2N.CX P w) (k + 1) f fd ps sp := by
  obtain ⟨oc, od, kV, doc, pm, an, cdv, ct, osl, rfl, lk, hcd⟩ := F.ex
  exact L2H.fn_ofH lk hcd S len fun A outer s H vs Q E p hp hr hsp => hbody cdv A outer s H vs Q E p hp hr hsp
end Wm
set_option Elab.async false
set_option linter.all false
set_option maxRecDepth 100000
set_option maxHeartbeats 4000000
namespace Wm
open PySem PySem.Spec PyProof.Rows L2
open Rep (rep)
open Own (own)
variable [TabT]
/-! ### kinds of results -/
structure Kd (wd : Wd) (α : Type) where
  rel : Hp → Hp → Hp → V → α → Prop
  stay : ∀ {B H G H' G' : Hp} {v : V} {a : α}, rel B H G v a → Fr H G H' G' → rel B H' G' v a
  back : ∀ {B B' H G : Hp} {v : V} {a : α}, Same B B' → rel B' H G v a → rel B H G v a
def kF {wd : Wd} {α : Type} [Rep α] : Kd wd α := ⟨fun _ _ G v a => rep wd G v a, fun h f => Rep.mono f.g h, fun _ h => h⟩
def kO {wd : Wd} {β : Type} [Own β] : Kd wd β :=
  ⟨fun B H G v b => ∃ p o, v = .ref p ∧ B p = none ∧ G p = none ∧ H p = some o ∧ own wd G o b,
   fun ⟨p, o, e, n, g, h, w⟩ f => ⟨p, o, e, n, f.out h g, f.h.get h (Own.pl w), Own.mono f.g w⟩,
   fun s ⟨p, o, e, n, g, h, w⟩ => ⟨p, o, e, s.free n, g, h, w⟩⟩
def kB {wd : Wd} {β : Type} [Own β] : Kd wd β :=
  ⟨fun _ H G v b => ∃ p o, v = .ref p ∧ H p = some o ∧ own wd G o b, fun ⟨p, o, e, h, w⟩ f => ⟨p, o, e, f.h.get h (Own.pl w), Own.mono f.g w⟩, fun _ h => h⟩
structure Fx where
  wd : Wd
  n : Sl
  W : WX
omit [TabT] in
abbrev Fx.blk (F : Fx) : Fx := { F with n := Sl.all F.n.n, W := fun _ _ _ _ => False }
def Post {wd : Wd} {α : Type} (W : WX) (k : Kd wd α) (σ : L2.St) (H G : Hp) (Q : VK) : Rs α → Prop
  | .ok a => ∀ H' G' v, Fr H G H' G' → k.rel H H' G' v a → Q v H'
  | .ex x => ∀ d H' G', Fr H G H' G' → RepX G' d x → W (.ref (wd.cm x.cls)) d σ H'
  | .no => False
section
variable {wd : Wd} {α β δ : Type} {W : WX} {k : Kd wd α} {k2 : Kd wd β} {σ : L2.St} {H G H' G' : Hp} {Q Q' : VK} {r : Rs α}
theorem Post.ext (h : Post W k σ H G Q r) (f : Fr H G H' G') : Post W k σ H' G' Q r := by
  cases r with
  | no => exact h
  | ex x => exact fun d H2 G2 s q => h d H2 G2 (f.trans s) q
  | ok a => exact fun H2 G2 v f2 q => h H2 G2 v (f.trans f2) (k.back f.h q)
theorem Post.imp (h : Post W k σ H G Q r) (i : ∀ v H', Q v H' → Q' v H') : Post W k σ H G Q' r := by
  cases r with
  | no => exact h
  | ex x => exact h
  | ok a => exact fun H2 G2 v f2 q => i v H2 (h H2 G2 v f2 q)
theorem Post.step {f : α → Rs β} (h : Post W k2 σ H G Q (r.bind f)) (k : Kd wd α) (i : ∀ v H1 G1 a, Fr H G H1 G1 → k.rel H H1 G1 v a → Post W k2 σ H1 G1 Q (f a) → Q' v H1) : Post W k σ H G Q' r := by
  cases r with
  | no => exact h
  | ex x => exact h
  | ok a => exact fun H2 G2 v f2 q => i v H2 G2 a f2 q (Post.ext h f2)
end
def tX (F : Fx) {α : Type} (k : Kd F.wd α) (c : Ctx) (m : Ctx.T c → Rs α) : TE := fun σ H Q => ∃ H0 G0 G os γ, Stt F.wd F.n H0 G0 σ H G os c γ ∧ Post F.W k σ H G Q (m γ)
section
variable {X : Cx} {t t' : TE}
omit [TabT] in
theorem pe_mono {e : Expr} (h : PE X e t) (i : ∀ σ H Q, t' σ H Q → t σ H Q) : PE X e t' := ⟨fun pins s σ H Q I q => h.run pins s σ H Q I (i σ H Q q)⟩
omit [TabT] in
theorem pt_mono {e : Expr} {t t' : TT} (h : PT X e t) (i : ∀ σ H Q, t' σ H Q → t σ H Q) : PT X e t' := ⟨fun pins s σ H Q I q => h.run pins s σ H Q I (i σ H Q q)⟩
omit [TabT] in
theorem pw_mono {e : Expr} {t t' : TT} (h : PW X e t) (i : ∀ σ H Q, t' σ H Q → t σ H Q) : PW X e t' := ⟨fun wh pins s σ H Q I q => h.run wh pins s σ H Q I (i σ H Q q)⟩
omit [TabT] in
theorem pa_mono {es : List Expr} {t t' : TA} (h : PA X es t) (i : ∀ σ H Q, t' σ H Q → t σ H Q) : PA X es t' := ⟨fun pos pins s σ H Q I q => h.run pos pins s σ H Q I (i σ H Q q)⟩
omit [TabT] in
theorem ps_mono {st : Stmt} {t t' : TS} (h : PS X st t) (i : ∀ D σ H, t' D σ H → t D σ H) : PS X st t' := ⟨fun pins s σ H D I q => h.run pins s σ H D I (i D σ H q)⟩
omit [TabT] in
theorem pss_mono {st : List Stmt} {t t' : TS} (h : PSs X st t) (i : ∀ D σ H, t' D σ H → t D σ H) : PSs X st t' := ⟨fun pins s σ H D I q => h.run pins s σ H D I (i D σ H q)⟩
end
/-! ### operations on values -/
def Sem1 {wd : Wd} {α δ : Type} (k1 : Kd wd α) (k3 : Kd wd δ) (r : V → Hp → VK → Prop) (f : α → Rs δ) : Prop :=
  ∀ {W : WX} {σ : L2.St} {B H G : Hp} {x : V} {a : α} {Q : VK}, SameL G H → k1.rel B H G x a → Post W k3 σ H G Q (f a) → r x H Q
def Sem2 {wd : Wd} {α β δ : Type} (k1 : Kd wd α) (k2 : Kd wd β) (k3 : Kd wd δ) (r : R2) (f : α → β → Rs δ) : Prop :=
  ∀ {W : WX} {σ : L2.St} {B1 B2 H G : Hp} {x y : V} {a : α} {b : β} {Q : VK}, SameL G H → k1.rel B1 H G x a → k2.rel B2 H G y b → Post W k3 σ H G Q (f a b) → r x y H Q
/-- .. that ask for the tables, too (calls of own defs) -/
def Sem1T {wd : Wd} {α δ : Type} (k1 : Kd wd α) (k3 : Kd wd δ) (r : V → Hp → VK → Prop) (f : α → Rs δ) : Prop :=
  ∀ {W : WX} {σ : L2.St} {B H G : Hp} {x : V} {a : α} {Q : VK}, LamX.Tabs TabT.T H → SameL G H → k1.rel B H G x a → Post W k3 σ H G Q (f a) → r x H Q
def Sem2T {wd : Wd} {α β δ : Type} (k1 : Kd wd α) (k2 : Kd wd β) (k3 : Kd wd δ) (r : R2) (f : α → β → Rs δ) : Prop :=
  ∀ {W : WX} {σ : L2.St} {B1 B2 H G : Hp} {x y : V} {a : α} {b : β} {Q : VK}, LamX.Tabs TabT.T H → SameL G H → k1.rel B1 H G x a → k2.rel B2 H G y b → Post W k3 σ H G Q (f a b) → r x y H Q
section
variable {X : Cx} {F : Fx} {c : Ctx} {α β δ : Type} {k1 : Kd F.wd α} {k2 : Kd F.wd β} {k3 : Kd F.wd δ} {a b : Expr} {ma : Ctx.T c → Rs α} {mb : Ctx.T c → Rs β} {pos p : Pos} {r : R2} {f : α → β → Rs δ}
theorem tX1 {r : V → Hp → VK → Prop} {f : α → Rs δ} (hr : Sem1 k1 k3 r f) {σ : L2.St} {H : Hp} {Q : VK} (h : tX F k3 c (fun γ => (ma γ).bind f) σ H Q) : tX F k1 c ma σ H fun x H1 => r x H1 Q := by
  obtain ⟨H0, G0, G, os, γ, st, p⟩ := h
  exact ⟨H0, G0, G, os, γ, st, p.step k1 fun x H1 G1 a fr ra p1 => hr fr.gh ra p1⟩
theorem tX2 (hr : Sem2 k1 k2 k3 r f) {σ : L2.St} {H : Hp} {Q : VK} (h : tX F k3 c (fun γ => (ma γ).bind fun x => (mb γ).bind fun y => f x y) σ H Q) : tOp r (tX F k1 c ma) (tX F k2 c mb) σ H Q := by
  obtain ⟨H0, G0, G, os, γ, st, p⟩ := h
  exact ⟨H0, G0, G, os, γ, st, p.step k1 fun x H1 G1 a fr ra p1 => ⟨H0, G0, G1, os, γ, st.ext fr, p1.step k2 fun y H2 G2 b fr2 rb p2 => hr fr2.gh (k1.stay ra fr2) rb p2⟩⟩
theorem e_op {op : Operator} (ho : OpR X (binaryOp op) r) (hr : Sem2 k1 k2 k3 r f) (ha : PE X a (tX F k1 c ma)) (hb : PE X b (tX F k2 c mb)) : PE X (.BinOp a op b pos) (tX F k3 c fun γ => (ma γ).bind fun x => (mb γ).bind fun y => f x y) :=
  pe_mono (pe_op ho ha hb) fun σ H Q h => tX2 hr h
theorem e_un {op : UnaryOp} {r : V → Hp → VK → Prop} {f : α → Rs δ} (ho : UnR X (unaryOp op) r) (hr : Sem1 k1 k3 r f) (ha : PE X a (tX F k1 c ma)) : PE X (.UnaryOp op a pos) (tX F k3 c fun γ => (ma γ).bind f) :=
  pe_mono (pe_un ho ha) fun σ H Q h => tX1 hr h
theorem e_ix (hr : IxR X r) (hs : Sem2 k1 k2 k3 r f) (ha : PE X a (tX F k1 c ma)) (hb : PE X b (tX F k2 c mb)) (hp : PlainIx b := by exact fun _ _ => rfl) : PE X (.Subscript a b pos) (tX F k3 c fun γ => (ma γ).bind fun x => (mb γ).bind fun y => f x y) :=
  pe_mono (pe_ix hr ha hb hp) fun σ H Q h => tX2 hs h
theorem e_cmp {op : CmpOp} (ho : OpR X (compareOp op) r) (hr : Sem2 k1 k2 k3 r f) (ha : PE X a (tX F k1 c ma)) (hb : PE X b (tX F k2 c mb)) (hm : behindInMarks op b = false := by first | exact nomark _ | rfl) : PE X (.Compare a [op] [b] pos) (tX F k3 c fun γ => (ma γ).bind fun x => (mb γ).bind fun y => f x y) :=
  pe_mono (pe_cmpR ho ha hb hm) fun σ H Q h => tX2 hr h
theorem e_b1 {x : Str} {id : String} {r : List V → Hp → VK → Prop} {f : α → Rs δ} (hc : CallR X (.builtin id) r) (hs : Sem1 k1 k3 (fun x => r [x]) f) (hg : Gl X x) (hm : X.mg x = none) (hv : bootBuiltins x = some (.builtin id)) (ha : PE X a (tX F k1 c ma)) (hn : x ≠ "__name__" := by decide)
    (hdb : (x == ("__debug__" : Str)) = false := by decide) (he : starEach (a :: []) X.env = (false, eval a X.env) :: starEach [] X.env := by rfl) (hpl : (backTo pos (starEach [] X.env)).any (·.1) = false := by rfl) : PE X (.Call (.Name x p) [a] [] pos) (tX F k3 c fun γ => (ma γ).bind f) :=
  pe_mono (pe_callB hc hg hm hv (pa_cons ha pa_nil he) hn hdb he hpl) fun σ H Q h => tX1 hs h
theorem tX1T {r : V → Hp → VK → Prop} {f : α → Rs δ} (hr : Sem1T k1 k3 r f) {σ : L2.St} {H : Hp} {Q : VK} (h : tX F k3 c (fun γ => (ma γ).bind f) σ H Q) : tX F k1 c ma σ H fun x H1 => r x H1 Q := by
  obtain ⟨H0, G0, G, os, γ, st, p⟩ := h
  exact ⟨H0, G0, G, os, γ, st, p.step k1 fun x H1 G1 a fr ra p1 => hr (fr.tb (st.f.tb st.t)) fr.gh ra p1⟩
theorem tX2T (hr : Sem2T k1 k2 k3 r f) {σ : L2.St} {H : Hp} {Q : VK} (h : tX F k3 c (fun γ => (ma γ).bind fun x => (mb γ).bind fun y => f x y) σ H Q) : tOp r (tX F k1 c ma) (tX F k2 c mb) σ H Q := by
  obtain ⟨H0, G0, G, os, γ, st, p⟩ := h
  exact ⟨H0, G0, G, os, γ, st, p.step k1 fun x H1 G1 a fr ra p1 => ⟨H0, G0, G1, os, γ, st.ext fr, p1.step k2 fun y H2 G2 b fr2 rb p2 => hr (fr2.tb (fr.tb (st.f.tb st.t))) fr2.gh (k1.stay ra fr2) rb p2⟩⟩
theorem e_opT {op : Operator} (ho : OpR X (binaryOp op) r) (hr : Sem2T k1 k2 k3 r f) (ha : PE X a (tX F k1 c ma)) (hb : PE X b (tX F k2 c mb)) : PE X (.BinOp a op b pos) (tX F k3 c fun γ => (ma γ).bind fun x => (mb γ).bind fun y => f x y) :=
  pe_mono (pe_op ho ha hb) fun σ H Q h => tX2T hr h
theorem e_cmpT {op : CmpOp} (ho : OpR X (compareOp op) r) (hr : Sem2T k1 k2 k3 r f) (ha : PE X a (tX F k1 c ma)) (hb : PE X b (tX F k2 c mb)) (hm : behindInMarks op b = false := by first | exact nomark _ | rfl) : PE X (.Compare a [op] [b] pos) (tX F k3 c fun γ => (ma γ).bind fun x => (mb γ).bind fun y => f x y) :=
  pe_mono (pe_cmpR ho ha hb hm) fun σ H Q h => tX2T hr h
theorem e_b1T {x : Str} {id : String} {r : List V → Hp → VK → Prop} {f : α → Rs δ} (hc : CallR X (.builtin id) r) (hs : Sem1T k1 k3 (fun x => r [x]) f) (hg : Gl X x) (hm : X.mg x = none) (hv : bootBuiltins x = some (.builtin id)) (ha : PE X a (tX F k1 c ma)) (hn : x ≠ "__name__" := by decide)
    (hdb : (x == ("__debug__" : Str)) = false := by decide) (he : starEach (a :: []) X.env = (false, eval a X.env) :: starEach [] X.env := by rfl) (hpl : (backTo pos (starEach [] X.env)).any (·.1) = false := by rfl) : PE X (.Call (.Name x p) [a] [] pos) (tX F k3 c fun γ => (ma γ).bind f) :=
  pe_mono (pe_callB hc hg hm hv (pa_cons ha pa_nil he) hn hdb he hpl) fun σ H Q h => tX1T hs h
theorem e_t1 {x : Str} {T : String} {r : List V → Hp → VK → Prop} {f : α → Rs δ} (hc : CallR X (.type T) r) (hs : Sem1 k1 k3 (fun x => r [x]) f) (hg : Gl X x) (hm : X.mg x = none) (hv : bootBuiltins x = some (.type T)) (ha : PE X a (tX F k1 c ma)) (hn : x ≠ "__name__" := by decide)
    (hdb : (x == ("__debug__" : Str)) = false := by decide) (he : starEach (a :: []) X.env = (false, eval a X.env) :: starEach [] X.env := by rfl) (hpl : (backTo pos (starEach [] X.env)).any (·.1) = false := by rfl) : PE X (.Call (.Name x p) [a] [] pos) (tX F k3 c fun γ => (ma γ).bind f) :=
  pe_mono (pe_callTy hc hg hm hv (pa_cons ha pa_nil he) hn hdb he hpl) fun σ H Q h => tX1 hs h
/-! ### constants and names -/
theorem e_c {α : Type} [Rep α] {e : Expr} {v : V} (h : PE X e (tC v)) (z : α) (r : ∀ G, rep F.wd G v z) : PE X e (tX F kF c fun _ => .ok z) :=
  pe_mono h fun σ H Q ⟨H0, G0, G, os, γ, st, p⟩ => p H G v (Fr.refl st.f.gh) (r G)
theorem e_int {i : Int} {j pos} : PE X (.Constant (.int i) j pos) (tX F kF c fun _ => .ok i) := e_c pe_int i fun _ => rfl
theorem e_bl {b : Bool} {j pos} : PE X (.Constant (.bool b) j pos) (tX F kF c fun _ => .ok b) := e_c pe_bl b fun _ => rfl
theorem e_str {x : Str} {j pos} (h : SOk x := by decide +kernel) : PE X (.Constant (.str x) j pos) (tX F kF c fun _ => .ok x) := e_c pe_str x fun _ => ⟨rfl, h⟩
theorem e_non {j pos} : PE X (.Constant .none j pos) (tX F kF c fun _ => .ok ()) := e_c pe_non () fun _ => rfl
theorem e_nonO {α : Type} [Rep α] {j pos} : PE X (.Constant .none j pos) (tX F kF c fun _ => .ok (none : Option α)) := e_c pe_non none fun _ => rfl
theorem e_gi {x : Str} {i : Int} {t : Tok} (hg : Gl X x) (hm : X.mg x = some (.int i t)) (hd : (x == ("__debug__" : Str)) = false := by decide) : PE X (.Name x pos) (tX F kF c fun _ => .ok i) := e_c (pe_glob hg hm (v := .int i) ⟨t, rfl⟩ hd) i fun _ => rfl
theorem e_gs {x z : Str} {t : Tok} (hg : Gl X x) (hm : X.mg x = some (.str z t)) (h : SOk z := by decide +kernel) (hd : (x == ("__debug__" : Str)) = false := by decide) : PE X (.Name x pos) (tX F kF c fun _ => .ok z) := e_c (pe_glob hg hm (v := .str z) ⟨t, rfl⟩ hd) z fun _ => ⟨rfl, h⟩
theorem e_var {α : Type} [Rep α] {i : Nat} (v : Var c (.fz i α)) {x : Str} (hN : X.N[i]? = some x := by rfl) (hv : Vis X.env.scope x := by first | exact Or.inl rfl | exact Or.inr (Or.inl rfl) | exact Or.inr (Or.inr rfl))
    (hd : (x == ("__debug__" : Str)) = false := by decide) (hcd : (x == ("__classdict__" : Str)) = false := by decide) : PE X (.Name x pos) (tX F kF c fun γ => .ok (v.get γ)) :=
  pe_mono (pe_var hN hv hd hcd) fun σ H Q ⟨H0, G0, G, os, γ, st, p⟩ => by
    obtain ⟨x, h1, h2⟩ := v.fz st.r
    exact ⟨x, h1, p H G x (Fr.refl st.f.gh) h2⟩
theorem e_varW {β : Type} [Own β] {i : Nat} (v : Var c (.ow i β)) {x : Str} (hN : X.N[i]? = some x := by rfl) (hv : Vis X.env.scope x := by first | exact Or.inl rfl | exact Or.inr (Or.inl rfl) | exact Or.inr (Or.inr rfl))
    (hd : (x == ("__debug__" : Str)) = false := by decide) (hcd : (x == ("__classdict__" : Str)) = false := by decide) : PE X (.Name x pos) (tX F kB c fun γ => .ok (v.get γ)) :=
  pe_mono (pe_var hN hv hd hcd) fun σ H Q ⟨H0, G0, G, os, γ, st, p⟩ => by
    obtain ⟨q, o, _, h1, h2, h3⟩ := v.ow st.r
    exact ⟨.ref q, h1, p H G _ (Fr.refl st.f.gh) ⟨q, o, rfl, h2, h3⟩⟩
theorem e_varB {β : Type} [Own β] {i : Nat} (v : Var c (.bo i β)) {x : Str} (hN : X.N[i]? = some x := by rfl) (hv : Vis X.env.scope x := by first | exact Or.inl rfl | exact Or.inr (Or.inl rfl) | exact Or.inr (Or.inr rfl))
    (hd : (x == ("__debug__" : Str)) = false := by decide) (hcd : (x == ("__classdict__" : Str)) = false := by decide) : PE X (.Name x pos) (tX F kB c fun γ => .ok (v.get γ)) :=
  pe_mono (pe_var hN hv hd hcd) fun σ H Q ⟨H0, G0, G, os, γ, st, p⟩ => by
    obtain ⟨q, o, h1, h2, h3⟩ := v.bo st.r
    exact ⟨.ref q, h1, p H G _ (Fr.refl st.f.gh) ⟨q, o, rfl, st.f.h.get h2 (Own.pl h3), h3⟩⟩
/-! ### from one kind to another -/
theorem e_fb {β : Type} [Own β] [LkO β] {e : Expr} {m : Ctx.T c → Rs β} (h : PE X e (tX F kF c m)) : PE X e (tX F kB c m) :=
  pe_mono h fun σ H Q ⟨H0, G0, G, os, γ, st, p⟩ => ⟨H0, G0, G, os, γ, st, by
    cases e : m γ with
    | no => rw [e] at p; exact p
    | ex x => rw [e] at p; exact p
    | ok b =>
      rw [e] at p
      exact fun H' G' v f ⟨q, o, e1, e2, e3⟩ => p H' G' v f (let ⟨o', k1, k2⟩ := f.gh.own e2 e3; ⟨q, o', e1, k1, k2⟩)⟩
theorem e_ob {β : Type} [Own β] {e : Expr} {m : Ctx.T c → Rs β} (h : PE X e (tX F kO c m)) : PE X e (tX F kB c m) :=
  pe_mono h fun σ H Q ⟨H0, G0, G, os, γ, st, p⟩ => ⟨H0, G0, G, os, γ, st, by
    cases e : m γ with
    | no => rw [e] at p; exact p
    | ex x => rw [e] at p; exact p
    | ok b =>
      rw [e] at p
      exact fun H' G' v f ⟨q, o, e1, e2, e3, e4, e5⟩ => p H' G' v f ⟨q, o, e1, e4, e5⟩⟩
theorem e_of {β : Type} [Own β] {e : Expr} {m : Ctx.T c → Rs β} (h : PE X e (tX F kO c m)) : PE X e (tX F kF c m) :=
  pe_mono h fun σ H Q ⟨H0, G0, G, os, γ, st, p⟩ => ⟨H0, G0, G, os, γ, st, by
    cases e : m γ with
    | no => rw [e] at p; exact p
    | ex x => rw [e] at p; exact p
    | ok b =>
      rw [e] at p
      exact fun H' G' v f ⟨q, o, e1, e2, e3, e4, e5⟩ => p H' (upd G' q o) v (f.freeze e2 e3 e4) ⟨q, o, e1, upd_same, Own.mono (Same.upd' (Same.refl G') e3) e5⟩⟩
/-- an option that is there -/
theorem e_some {α : Type} [Rep α] {e : Expr} {m : Ctx.T c → Rs α} (h : PE X e (tX F kF c m)) : PE X e (tX F kF c fun γ => (m γ).bind fun a => .ok (some a)) :=
  pe_mono h fun σ H Q ⟨H0, G0, G, os, γ, st, p⟩ => ⟨H0, G0, G, os, γ, st, p.step kF fun v H1 G1 a fr ra p1 => p1 H1 G1 v (Fr.refl fr.gh) ra⟩
end
/-! ### the operators -/
section
variable {wd : Wd}
theorem m_I0 {g : Int → Int → V} {δ : Type} [Rep δ] {f : Int → Int → δ} (h : ∀ i j G, rep wd G (g i j) (f i j)) : Sem2 (wd := wd) kF kF kF (rI0 g) (fun i j => .ok (f i j)) := by
  intro W σ B1 B2 H G x y a b Q gh hx hy p
  exact ⟨a, b, hx, hy, p H G _ (Fr.refl gh) (h a b G)⟩
theorem m_I {C : Int → Int → Prop} [∀ i j, Decidable (C i j)] {g : Int → Int → V} {δ : Type} [Rep δ] {f : Int → Int → δ} (h : ∀ i j G, rep wd G (g i j) (f i j)) : Sem2 (wd := wd) kF kF kF (rI C g) (fun i j => if C i j then .ok (f i j) else .no) := by
  intro W σ B1 B2 H G x y a b Q gh hx hy p
  dsimp only at p
  by_cases hc : C a b
  · rw [if_pos hc] at p
    exact ⟨a, b, hx, hy, hc, p H G _ (Fr.refl gh) (h a b G)⟩
  · rw [if_neg hc] at p
    exact p.elim
theorem m_U {g : Int → V} {δ : Type} [Rep δ] {f : Int → δ} (h : ∀ i G, rep wd G (g i) (f i)) : Sem1 (wd := wd) kF kF (rU g) (fun i => .ok (f i)) := by
  intro W σ B H G x a Q gh hx p
  exact ⟨a, hx, p H G _ (Fr.refl gh) (h a G)⟩
omit [TabT] in
instance : DecidableRel CMul := fun i j => inferInstanceAs (Decidable ((-(2 ^ 64) < i ∧ i < 2 ^ 64) ∨ (-(2 ^ 64) < j ∧ j < 2 ^ 64)))
omit [TabT] in
instance : DecidableRel CMulW := fun i j => inferInstanceAs (Decidable (i.natAbs.log2 + j.natAbs.log2 < 1000000))
omit [TabT] in
instance : DecidableRel CDiv := fun i j => inferInstanceAs (Decidable (0 < j ∧ j < 1073741824))
omit [TabT] in
instance : DecidableRel CDivW := fun i j => inferInstanceAs (Decidable (0 < j ∧ j.natAbs.log2 < 9000))
omit [TabT] in
instance : DecidableRel CPow := fun i j => inferInstanceAs (Decidable (0 ≤ j ∧ j ≤ 1000000 ∧ i.natAbs < 2 ^ 64))
end
end Wm
set_option Elab.async false
set_option linter.all false
set_option maxRecDepth 100000
set_option maxHeartbeats 4000000
namespace Wm
open PySem PySem.Spec PyProof.Rows L2
open Rep (rep)
open Own (own)
variable [TabT]
/-! ### statements -/
def PostN (F : Fx) (H0 G0 : Hp) (c : Ctx) (D : Ends) : Rs (Ctx.T c) → Prop
  | .ok γ => ∀ σ H G os, Stt F.wd F.n H0 G0 σ H G os c γ → D.nx σ H
  | .ex x => ∀ d σ H G, F.n.P σ → Fr H0 G0 H G → RepX G d x → F.W (.ref (F.wd.cm x.cls)) d σ H
  | .no => False
def PostT (F : Fx) {ρ : Type} (k : Kd F.wd ρ) (H0 G0 : Hp) (D : Ends) : Rs ρ → Prop
  | .ok r => ∀ H G v, Fr H0 G0 H G → k.rel H0 H G v r → D.rt v H
  | .ex x => ∀ d σ H G, F.n.P σ → Fr H0 G0 H G → RepX G d x → F.W (.ref (F.wd.cm x.cls)) d σ H
  | .no => False
def PostG (F : Fx) {ρ : Type} (k : Kd F.wd ρ) (H0 G0 : Hp) (c : Ctx) (D : Ends) : Rs (Ctx.T c ⊕ ρ) → Prop
  | .ok (.inl γ) => ∀ σ H G os, Stt F.wd F.n H0 G0 σ H G os c γ → D.nx σ H
  | .ok (.inr r) => ∀ H G v, Fr H0 G0 H G → k.rel H0 H G v r → D.rt v H
  | .ex x => ∀ d σ H G, F.n.P σ → Fr H0 G0 H G → RepX G d x → F.W (.ref (F.wd.cm x.cls)) d σ H
  | .no => False
/-- the statements' readings: what follows; a return; both -/
def tS (F : Fx) (c c' : Ctx) (m : Ctx.T c → Rs (Ctx.T c')) : TS := fun D σ H => ∃ H0 G0 G os γ, Stt F.wd F.n H0 G0 σ H G os c γ ∧ PostN F H0 G0 c' D (m γ)
def tT (F : Fx) {ρ : Type} (k : Kd F.wd ρ) (c : Ctx) (m : Ctx.T c → Rs ρ) : TS := fun D σ H => ∃ H0 G0 G os γ, Stt F.wd F.n H0 G0 σ H G os c γ ∧ PostT F k H0 G0 D (m γ)
def tG (F : Fx) {ρ : Type} (k : Kd F.wd ρ) (c c' : Ctx) (m : Ctx.T c → Rs (Ctx.T c' ⊕ ρ)) : TS := fun D σ H => ∃ H0 G0 G os γ, Stt F.wd F.n H0 G0 σ H G os c γ ∧ PostG F k H0 G0 c' D (m γ)
section
variable {F : Fx} {α ρ : Type} {k : Kd F.wd α} {kr : Kd F.wd ρ} {H0 G0 H G : Hp} {σ : L2.St} {c c' : Ctx} {D D' : Ends} {Q : VK} {r : Rs α}
theorem PostN.step {f : α → Rs (Ctx.T c')} {n9 : Ctx} {os9 : List Addr} {γ9 : Ctx.T n9} (h : PostN F H0 G0 c' D (r.bind f)) (s : Stt F.wd F.n H0 G0 σ H G os9 n9 γ9) (k : Kd F.wd α) (i : ∀ v H1 G1 a, Fr H G H1 G1 → k.rel H H1 G1 v a → PostN F H0 G0 c' D (f a) → Q v H1) : Post F.W k σ H G Q r := by
  cases r with
  | no => exact h
  | ex x => exact fun d H2 G2 q z => h d σ H2 G2 s.len (s.f.trans q) z
  | ok a => exact fun H2 G2 v f2 q => i v H2 G2 a f2 q h
theorem PostT.step {f : α → Rs ρ} {n9 : Ctx} {os9 : List Addr} {γ9 : Ctx.T n9} (h : PostT F kr H0 G0 D (r.bind f)) (s : Stt F.wd F.n H0 G0 σ H G os9 n9 γ9) (k : Kd F.wd α) (i : ∀ v H1 G1 a, Fr H G H1 G1 → k.rel H H1 G1 v a → PostT F kr H0 G0 D (f a) → Q v H1) : Post F.W k σ H G Q r := by
  cases r with
  | no => exact h
  | ex x => exact fun d H2 G2 q z => h d σ H2 G2 s.len (s.f.trans q) z
  | ok a => exact fun H2 G2 v f2 q => i v H2 G2 a f2 q h
theorem PostG.step {f : α → Rs (Ctx.T c' ⊕ ρ)} {n9 : Ctx} {os9 : List Addr} {γ9 : Ctx.T n9} (h : PostG F kr H0 G0 c' D (r.bind f)) (s : Stt F.wd F.n H0 G0 σ H G os9 n9 γ9) (k : Kd F.wd α) (i : ∀ v H1 G1 a, Fr H G H1 G1 → k.rel H H1 G1 v a → PostG F kr H0 G0 c' D (f a) → Q v H1) : Post F.W k σ H G Q r := by
  cases r with
  | no => exact h
  | ex x => exact fun d H2 G2 q z => h d σ H2 G2 s.len (s.f.trans q) z
  | ok a => exact fun H2 G2 v f2 q => i v H2 G2 a f2 q h
theorem PostN.seqN {r : Rs (Ctx.T c)} {f : Ctx.T c → Rs (Ctx.T c')} (h : PostN F H0 G0 c' D (r.bind f)) (i : ∀ σ H G os γ, Stt F.wd F.n H0 G0 σ H G os c γ → PostN F H0 G0 c' D (f γ) → D'.nx σ H) : PostN F H0 G0 c D' r := by
  cases r with
  | no => exact h
  | ex x => exact h
  | ok γ => exact fun σ H G os st => i σ H G os γ st h
theorem PostT.seqN {r : Rs (Ctx.T c)} {f : Ctx.T c → Rs ρ} (h : PostT F kr H0 G0 D (r.bind f)) (i : ∀ σ H G os γ, Stt F.wd F.n H0 G0 σ H G os c γ → PostT F kr H0 G0 D (f γ) → D'.nx σ H) : PostN F H0 G0 c D' r := by
  cases r with
  | no => exact h
  | ex x => exact h
  | ok γ => exact fun σ H G os st => i σ H G os γ st h
theorem PostG.seqN {r : Rs (Ctx.T c)} {f : Ctx.T c → Rs (Ctx.T c' ⊕ ρ)} (h : PostG F kr H0 G0 c' D (r.bind f)) (i : ∀ σ H G os γ, Stt F.wd F.n H0 G0 σ H G os c γ → PostG F kr H0 G0 c' D (f γ) → D'.nx σ H) : PostN F H0 G0 c D' r := by
  cases r with
  | no => exact h
  | ex x => exact h
  | ok γ => exact fun σ H G os st => i σ H G os γ st h
end
/-! ### blocks -/
section
variable {X : Cx} {F : Fx} {α ρ : Type} {k : Kd F.wd α} {kr : Kd F.wd ρ} {c c1 c' : Ctx} {st : Stmt} {rest sts : List Stmt}
theorem b_nil (s : Sub c c') : PSs X [] (tS F c c' fun γ => .ok (s.proj γ)) :=
  pss_mono pss_nil fun D σ H ⟨H0, G0, G, os, γ, st, p⟩ => by
    obtain ⟨os', _, q⟩ := st.sub s
    exact p σ H G os' q
theorem b_nilG (s : Sub c c') : PSs X [] (tG F kr c c' fun γ => .ok (.inl (s.proj γ))) :=
  pss_mono pss_nil fun D σ H ⟨H0, G0, G, os, γ, st, p⟩ => by
    obtain ⟨os', _, q⟩ := st.sub s
    exact p σ H G os' q
theorem b_cons {m1 : Ctx.T c → Rs (Ctx.T c1)} {m2 : Ctx.T c1 → Rs (Ctx.T c')} (h1 : PS X st (tS F c c1 m1)) (h2 : PSs X rest (tS F c1 c' m2)) : PSs X (st :: rest) (tS F c c' fun γ => (m1 γ).bind m2) :=
  pss_mono (pss_cons h1 h2) fun D σ H ⟨H0, G0, G, os, γ, s, p⟩ => ⟨H0, G0, G, os, γ, s, p.seqN fun σ H G os γ s2 p2 => ⟨H0, G0, G, os, γ, s2, p2⟩⟩
theorem b_consT {m1 : Ctx.T c → Rs (Ctx.T c1)} {m2 : Ctx.T c1 → Rs ρ} (h1 : PS X st (tS F c c1 m1)) (h2 : PSs X rest (tT F kr c1 m2)) : PSs X (st :: rest) (tT F kr c fun γ => (m1 γ).bind m2) :=
  pss_mono (pss_cons h1 h2) fun D σ H ⟨H0, G0, G, os, γ, s, p⟩ => ⟨H0, G0, G, os, γ, s, p.seqN fun σ H G os γ s2 p2 => ⟨H0, G0, G, os, γ, s2, p2⟩⟩
theorem b_consG {m1 : Ctx.T c → Rs (Ctx.T c1)} {m2 : Ctx.T c1 → Rs (Ctx.T c' ⊕ ρ)} (h1 : PS X st (tS F c c1 m1)) (h2 : PSs X rest (tG F kr c1 c' m2)) : PSs X (st :: rest) (tG F kr c c' fun γ => (m1 γ).bind m2) :=
  pss_mono (pss_cons h1 h2) fun D σ H ⟨H0, G0, G, os, γ, s, p⟩ => ⟨H0, G0, G, os, γ, s, p.seqN fun σ H G os γ s2 p2 => ⟨H0, G0, G, os, γ, s2, p2⟩⟩
omit [TabT] in
omit [TabT] in
omit [TabT] in
/-- a statement that may return, then the rest -/
def Rs.left {γ ρ : Type} (r : Rs (γ ⊕ ρ)) (f : γ → Rs ρ) : Rs ρ := r.bind fun z => match z with | .inl g => f g | .inr x => .ok x
omit [TabT] in
def Rs.leftG {γ δ ρ : Type} (r : Rs (γ ⊕ ρ)) (f : γ → Rs (δ ⊕ ρ)) : Rs (δ ⊕ ρ) := r.bind fun z => match z with | .inl g => f g | .inr x => .ok (.inr x)
theorem b_goT {m1 : Ctx.T c → Rs (Ctx.T c1 ⊕ ρ)} {m2 : Ctx.T c1 → Rs ρ} (h1 : PS X st (tG F kr c c1 m1)) (h2 : PSs X rest (tT F kr c1 m2)) : PSs X (st :: rest) (tT F kr c fun γ => (m1 γ).left m2) :=
  pss_mono (pss_cons h1 h2) fun D σ H ⟨H0, G0, G, os, γ, s, p⟩ => ⟨H0, G0, G, os, γ, s, by
    dsimp only [Rs.left] at p
    cases e : m1 γ with
    | no => rw [e] at p; exact p
    | ex x => rw [e] at p; exact p
    | ok z =>
      rw [e] at p
      cases z with
      | inl g => exact fun σ H G os s2 => ⟨H0, G0, G, os, g, s2, p⟩
      | inr x => exact p⟩
theorem b_goG {m1 : Ctx.T c → Rs (Ctx.T c1 ⊕ ρ)} {m2 : Ctx.T c1 → Rs (Ctx.T c' ⊕ ρ)} (h1 : PS X st (tG F kr c c1 m1)) (h2 : PSs X rest (tG F kr c1 c' m2)) : PSs X (st :: rest) (tG F kr c c' fun γ => (m1 γ).leftG m2) :=
  pss_mono (pss_cons h1 h2) fun D σ H ⟨H0, G0, G, os, γ, s, p⟩ => ⟨H0, G0, G, os, γ, s, by
    dsimp only [Rs.leftG] at p
    cases e : m1 γ with
    | no => rw [e] at p; exact p
    | ex x => rw [e] at p; exact p
    | ok z =>
      rw [e] at p
      cases z with
      | inl g => exact fun σ H G os s2 => ⟨H0, G0, G, os, g, s2, p⟩
      | inr x => exact p⟩
theorem b_subT {m : Ctx.T c1 → Rs ρ} (s : Sub c c1) (h : PSs X sts (tT F kr c1 m)) : PSs X sts (tT F kr c fun γ => m (s.proj γ)) :=
  pss_mono h fun D σ H ⟨H0, G0, G, os, γ, st, p⟩ => by
    obtain ⟨os', _, q⟩ := st.sub s
    exact ⟨H0, G0, G, os', _, q, p⟩
theorem b_subS {m : Ctx.T c1 → Rs (Ctx.T c')} (s : Sub c c1) (h : PSs X sts (tS F c1 c' m)) : PSs X sts (tS F c c' fun γ => m (s.proj γ)) :=
  pss_mono h fun D σ H ⟨H0, G0, G, os, γ, st, p⟩ => by
    obtain ⟨os', _, q⟩ := st.sub s
    exact ⟨H0, G0, G, os', _, q, p⟩
theorem b_subG {m : Ctx.T c1 → Rs (Ctx.T c' ⊕ ρ)} (s : Sub c c1) (h : PSs X sts (tG F kr c1 c' m)) : PSs X sts (tG F kr c c' fun γ => m (s.proj γ)) :=
  pss_mono h fun D σ H ⟨H0, G0, G, os, γ, st, p⟩ => by
    obtain ⟨os', _, q⟩ := st.sub s
    exact ⟨H0, G0, G, os', _, q, p⟩
theorem b_frzT {m : Ctx.T c1 → Rs ρ} (s : Frz c c1) (h : PSs X sts (tT F kr c1 m)) : PSs X sts (tT F kr c fun γ => m (s.proj γ)) :=
  pss_mono h fun D σ H ⟨H0, G0, G, os, γ, st, p⟩ => by
    obtain ⟨os', G', q⟩ := st.frz s
    exact ⟨H0, G0, G', os', _, q, p⟩
theorem b_frzS {m : Ctx.T c1 → Rs (Ctx.T c')} (s : Frz c c1) (h : PSs X sts (tS F c1 c' m)) : PSs X sts (tS F c c' fun γ => m (s.proj γ)) :=
  pss_mono h fun D σ H ⟨H0, G0, G, os, γ, st, p⟩ => by
    obtain ⟨os', G', q⟩ := st.frz s
    exact ⟨H0, G0, G', os', _, q, p⟩
theorem b_frzG {m : Ctx.T c1 → Rs (Ctx.T c' ⊕ ρ)} (s : Frz c c1) (h : PSs X sts (tG F kr c1 c' m)) : PSs X sts (tG F kr c c' fun γ => m (s.proj γ)) :=
  pss_mono h fun D σ H ⟨H0, G0, G, os, γ, st, p⟩ => by
    obtain ⟨os', G', q⟩ := st.frz s
    exact ⟨H0, G0, G', os', _, q, p⟩
/-- a terminal block as one that may return -/
theorem b_tg {m : Ctx.T c → Rs ρ} (h : PSs X sts (tT F kr c m)) : PSs X sts (tG F kr c c' fun γ => (m γ).bind fun x => .ok (.inr x)) :=
  pss_mono h fun D σ H ⟨H0, G0, G, os, γ, s, p⟩ => ⟨H0, G0, G, os, γ, s, by
    cases e : m γ with
    | no => dsimp only at p; rw [e] at p; exact p
    | ex x => dsimp only at p; rw [e] at p; exact p
    | ok z => dsimp only at p; rw [e] at p; exact p⟩
theorem b_sg {m : Ctx.T c → Rs (Ctx.T c')} (h : PSs X sts (tS F c c' m)) : PSs X sts (tG F kr c c' fun γ => (m γ).bind fun x => .ok (.inl x)) :=
  pss_mono h fun D σ H ⟨H0, G0, G, os, γ, s, p⟩ => ⟨H0, G0, G, os, γ, s, by
    cases e : m γ with
    | no => dsimp only at p; rw [e] at p; exact p
    | ex x => dsimp only at p; rw [e] at p; exact p
    | ok z => dsimp only at p; rw [e] at p; exact p⟩
/-! ### tests -/
def tQ (F : Fx) (c : Ctx) (m : Ctx.T c → Rs Bool) : TT := fun σ H Q => tX F kF c m σ H fun x H' => ∃ b, x = .bl b ∧ Q b H'
theorem q_val {e : Expr} {m : Ctx.T c → Rs Bool} (h : PE X e (tX F kF c m)) (he : ∀ whole, isTrue e X.env whole = (do let v ← whole; standAt e.pos; holding [v] (truthy v)) := by intro _; rfl) : PT X e (tQ F c m) := pt_mono (pt_val h he) fun _ _ _ q => q
theorem q_cmp {α β : Type} {k1 : Kd F.wd α} {k2 : Kd F.wd β} {a b : Expr} {ma : Ctx.T c → Rs α} {mb : Ctx.T c → Rs β} {pos : Pos} {r : R2} {f : α → β → Rs Bool} {op : CmpOp} (ho : OpR X (compareOp op) r) (hr : Sem2 k1 k2 kF r f) (ha : PE X a (tX F k1 c ma)) (hb : PE X b (tX F k2 c mb))
    (hm : behindInMarks op b = false := by first | exact nomark _ | rfl) : PT X (.Compare a [op] [b] pos) (tQ F c fun γ => (ma γ).bind fun x => (mb γ).bind fun y => f x y) :=
  pt_mono (pt_cmpR ho ha hb hm) fun σ H Q h => tX2 hr h
theorem q_cmpT {α β : Type} {k1 : Kd F.wd α} {k2 : Kd F.wd β} {a b : Expr} {ma : Ctx.T c → Rs α} {mb : Ctx.T c → Rs β} {pos : Pos} {r : R2} {f : α → β → Rs Bool} {op : CmpOp} (ho : OpR X (compareOp op) r) (hr : Sem2T k1 k2 kF r f) (ha : PE X a (tX F k1 c ma)) (hb : PE X b (tX F k2 c mb))
    (hm : behindInMarks op b = false := by first | exact nomark _ | rfl) : PT X (.Compare a [op] [b] pos) (tQ F c fun γ => (ma γ).bind fun x => (mb γ).bind fun y => f x y) :=
  pt_mono (pt_cmpR ho ha hb hm) fun σ H Q h => tX2T hr h
theorem q_not {a : Expr} {m : Ctx.T c → Rs Bool} {pos : Pos} (h : PT X a (tQ F c m)) : PT X (.UnaryOp .Not a pos) (tQ F c fun γ => (m γ).bind fun b => .ok (!b)) :=
  pt_mono (pt_not h) fun σ H Q ⟨H0, G0, G, os, γ, st, p⟩ => ⟨H0, G0, G, os, γ, st, p.step kF fun v H1 G1 b fr rb p1 => ⟨b, rb, by
    obtain ⟨b', e, q⟩ := p1 H1 G1 (.bl (!b)) (Fr.refl fr.gh) rfl
    cases e
    exact q⟩⟩
omit [TabT] in
theorem q_and1 {a : Expr} {t : TT} {pos : Pos} (h : PT X a t) : PW X (.BoolOp .And [a] pos) t := pw_and1 h
omit [TabT] in
theorem q_or1 {a : Expr} {t : TT} {pos : Pos} (h : PT X a t) : PW X (.BoolOp .Or [a] pos) t := pw_or1 h
theorem q_and {a b : Expr} {es : List Expr} {m1 m2 : Ctx.T c → Rs Bool} {pos : Pos} (h1 : PT X a (tQ F c m1)) (h2 : PW X (.BoolOp .And (b :: es) pos) (tQ F c m2)) : PW X (.BoolOp .And (a :: b :: es) pos) (tQ F c fun γ => (m1 γ).bind fun x => if x = true then m2 γ else .ok false) :=
  pw_mono (pw_and h1 h2) fun σ H Q ⟨H0, G0, G, os, γ, st, p⟩ => ⟨H0, G0, G, os, γ, st, p.step kF fun v H1 G1 b fr rb p1 => ⟨b, rb, by
    cases b with
    | true => exact ⟨H0, G0, G1, os, γ, st.ext fr, p1⟩
    | false =>
      obtain ⟨b', e, q⟩ := p1 H1 G1 (.bl false) (Fr.refl fr.gh) rfl
      cases e
      exact q⟩⟩
theorem q_or {a b : Expr} {es : List Expr} {m1 m2 : Ctx.T c → Rs Bool} {pos : Pos} (h1 : PT X a (tQ F c m1)) (h2 : PW X (.BoolOp .Or (b :: es) pos) (tQ F c m2)) : PW X (.BoolOp .Or (a :: b :: es) pos) (tQ F c fun γ => (m1 γ).bind fun x => if x = true then .ok true else m2 γ) :=
  pw_mono (pw_or h1 h2) fun σ H Q ⟨H0, G0, G, os, γ, st, p⟩ => ⟨H0, G0, G, os, γ, st, p.step kF fun v H1 G1 b fr rb p1 => ⟨b, rb, by
    cases b with
    | false => exact ⟨H0, G0, G1, os, γ, st.ext fr, p1⟩
    | true =>
      obtain ⟨b', e, q⟩ := p1 H1 G1 (.bl true) (Fr.refl fr.gh) rfl
      cases e
      exact q⟩⟩
/-- .. as values -/
theorem e_and {a b : Expr} {es : List Expr} {m1 m2 : Ctx.T c → Rs Bool} {pos : Pos} (h1 : PE X a (tX F kF c m1)) (h2 : PE X (.BoolOp .And (b :: es) pos) (tX F kF c m2)) : PE X (.BoolOp .And (a :: b :: es) pos) (tX F kF c fun γ => (m1 γ).bind fun x => if x = true then m2 γ else .ok false) :=
  pe_mono (pe_and h1 h2) fun σ H Q ⟨H0, G0, G, os, γ, st, p⟩ => ⟨H0, G0, G, os, γ, st, p.step kF fun v H1 G1 b fr rb p1 => ⟨b, rb, by
    cases b with
    | true => exact ⟨H0, G0, G1, os, γ, st.ext fr, p1⟩
    | false => exact p1 H1 G1 (.bl false) (Fr.refl fr.gh) rfl⟩⟩
theorem e_or {a b : Expr} {es : List Expr} {m1 m2 : Ctx.T c → Rs Bool} {pos : Pos} (h1 : PE X a (tX F kF c m1)) (h2 : PE X (.BoolOp .Or (b :: es) pos) (tX F kF c m2)) : PE X (.BoolOp .Or (a :: b :: es) pos) (tX F kF c fun γ => (m1 γ).bind fun x => if x = true then .ok true else m2 γ) :=
  pe_mono (pe_or h1 h2) fun σ H Q ⟨H0, G0, G, os, γ, st, p⟩ => ⟨H0, G0, G, os, γ, st, p.step kF fun v H1 G1 b fr rb p1 => ⟨b, rb, by
    cases b with
    | false => exact ⟨H0, G0, G1, os, γ, st.ext fr, p1⟩
    | true => exact p1 H1 G1 (.bl true) (Fr.refl fr.gh) rfl⟩⟩
omit [TabT] in
theorem e_one {op} {a : Expr} {pos : Pos} {t : TE} (h : PE X a t) : PE X (.BoolOp op [a] pos) t := pe_one h
theorem e_not {a : Expr} {m : Ctx.T c → Rs Bool} {pos : Pos} (h : PE X a (tX F kF c m)) : PE X (.UnaryOp .Not a pos) (tX F kF c fun γ => (m γ).bind fun b => .ok (!b)) :=
  pe_mono (pe_not h) fun σ H Q ⟨H0, G0, G, os, γ, st, p⟩ => ⟨H0, G0, G, os, γ, st, p.step kF fun v H1 G1 b fr rb p1 => ⟨b, rb, p1 H1 G1 (.bl (!b)) (Fr.refl fr.gh) rfl⟩⟩
theorem e_if {t a b : Expr} {mt : Ctx.T c → Rs Bool} {m1 m2 : Ctx.T c → Rs α} {pos : Pos} (ht : PT X t (tQ F c mt)) (ha : PE X a (tX F k c m1)) (hb : PE X b (tX F k c m2)) : PE X (.IfExp t a b pos) (tX F k c fun γ => (mt γ).bind fun x => if x = true then m1 γ else m2 γ) :=
  pe_mono (pe_ifExp ht ha hb) fun σ H Q ⟨H0, G0, G, os, γ, st, p⟩ => ⟨H0, G0, G, os, γ, st, p.step kF fun v H1 G1 b fr rb p1 => ⟨b, rb, by
    cases b with
    | false => exact ⟨H0, G0, G1, os, γ, st.ext fr, p1⟩
    | true => exact ⟨H0, G0, G1, os, γ, st.ext fr, p1⟩⟩⟩
/-! ### small statements -/
theorem t_ret {e : Expr} {m : Ctx.T c → Rs ρ} {pos : Pos} (h : PE X e (tX F kr c m)) : PSs X [.Return (some e) pos] (tT F kr c m) :=
  pss_mono (pss_one (ps_ret h)) fun D σ H ⟨H0, G0, G, os, γ, st, p⟩ => ⟨H0, G0, G, os, γ, st, by
    cases e : m γ with
    | no => rw [e] at p; exact p
    | ex x => rw [e] at p; exact fun d H2 G2 q z => p d σ H2 G2 st.len (st.f.trans q) z
    | ok z => rw [e] at p; exact fun H2 G2 v f q => p H2 G2 v (st.f.trans f) (kr.back st.f.h q)⟩
/-- return of an owned name -/
theorem t_retW {β : Type} [Own β] {i : Nat} {pos pos' : Pos} (v : Var c (.ow i β)) {x : Str} (hN : X.N[i]? = some x := by rfl) (hv : Vis X.env.scope x := by first | exact Or.inl rfl | exact Or.inr (Or.inl rfl) | exact Or.inr (Or.inr rfl))
    (hd : (x == ("__debug__" : Str)) = false := by decide) (hcd : (x == ("__classdict__" : Str)) = false := by decide) : PSs X [.Return (some (.Name x pos')) pos] (tT F kO c fun γ => .ok (v.get γ)) :=
  pss_mono (pss_one (ps_ret (pe_var hN hv hd hcd))) fun D σ H ⟨H0, G0, G, os, γ, st, p⟩ => by
    obtain ⟨q, o, h0, h1, h2, h3⟩ := v.ow st.r
    exact ⟨.ref q, h1, p H G _ st.f ⟨q, o, rfl, (st.fr q h0).2, (st.fr q h0).1, h2, h3⟩⟩
theorem s_if {t : Expr} {a b : List Stmt} {mt : Ctx.T c → Rs Bool} {m1 m2 : Ctx.T c → Rs (Ctx.T c')} {pos : Pos} (ht : PT X t (tQ F c mt)) (ha : PSs X a (tS F c c' m1)) (hb : PSs X b (tS F c c' m2)) : PS X (.If t a b pos) (tS F c c' fun γ => (mt γ).bind fun x => if x = true then m1 γ else m2 γ) :=
  ps_mono (ps_if ht ha hb) fun D σ H ⟨H0, G0, G, os, γ, st, p⟩ => ⟨H0, G0, G, os, γ, st, p.step st kF fun v H1 G1 b fr rb p1 => ⟨b, rb, by
    cases b with
    | false => exact ⟨H0, G0, G1, os, γ, st.ext fr, p1⟩
    | true => exact ⟨H0, G0, G1, os, γ, st.ext fr, p1⟩⟩⟩
theorem s_ifG {t : Expr} {a b : List Stmt} {mt : Ctx.T c → Rs Bool} {m1 m2 : Ctx.T c → Rs (Ctx.T c' ⊕ ρ)} {pos : Pos} (ht : PT X t (tQ F c mt)) (ha : PSs X a (tG F kr c c' m1)) (hb : PSs X b (tG F kr c c' m2)) : PS X (.If t a b pos) (tG F kr c c' fun γ => (mt γ).bind fun x => if x = true then m1 γ else m2 γ) :=
  ps_mono (ps_if ht ha hb) fun D σ H ⟨H0, G0, G, os, γ, st, p⟩ => ⟨H0, G0, G, os, γ, st, p.step st kF fun v H1 G1 b fr rb p1 => ⟨b, rb, by
    cases b with
    | false => exact ⟨H0, G0, G1, os, γ, st.ext fr, p1⟩
    | true => exact ⟨H0, G0, G1, os, γ, st.ext fr, p1⟩⟩⟩
/-- if t: A (which returns); the rest -/
theorem b_ifT {t : Expr} {a : List Stmt} {mt : Ctx.T c → Rs Bool} {m1 m2 : Ctx.T c → Rs ρ} {pos : Pos} (ht : PT X t (tQ F c mt)) (ha : PSs X a (tT F kr c m1)) (hb : PSs X rest (tT F kr c m2)) : PSs X (.If t a [] pos :: rest) (tT F kr c fun γ => (mt γ).bind fun x => if x = true then m1 γ else m2 γ) :=
  pss_mono (pss_cons (ps_if ht ha pss_nil) hb) fun D σ H ⟨H0, G0, G, os, γ, st, p⟩ => ⟨H0, G0, G, os, γ, st, p.step st kF fun v H1 G1 b fr rb p1 => ⟨b, rb, by
    cases b with
    | false => exact ⟨H0, G0, G1, os, γ, st.ext fr, p1⟩
    | true =>
      refine ⟨H0, G0, G1, os, γ, st.ext fr, ?_⟩
      cases e : m1 γ with
      | no => rw [if_pos rfl, e] at p1; exact p1
      | ex x => rw [if_pos rfl, e] at p1; exact p1
      | ok z => rw [if_pos rfl, e] at p1; exact p1⟩⟩
theorem b_ifG {t : Expr} {a : List Stmt} {mt : Ctx.T c → Rs Bool} {m1 : Ctx.T c → Rs ρ} {m2 : Ctx.T c → Rs (Ctx.T c' ⊕ ρ)} {pos : Pos} (ht : PT X t (tQ F c mt)) (ha : PSs X a (tT F kr c m1)) (hb : PSs X rest (tG F kr c c' m2)) :
    PSs X (.If t a [] pos :: rest) (tG F kr c c' fun γ => (mt γ).bind fun x => if x = true then (m1 γ).bind fun z => .ok (.inr z) else m2 γ) :=
  pss_mono (pss_cons (ps_if ht ha pss_nil) hb) fun D σ H ⟨H0, G0, G, os, γ, st, p⟩ => ⟨H0, G0, G, os, γ, st, p.step st kF fun v H1 G1 b fr rb p1 => ⟨b, rb, by
    cases b with
    | false => exact ⟨H0, G0, G1, os, γ, st.ext fr, p1⟩
    | true =>
      refine ⟨H0, G0, G1, os, γ, st.ext fr, ?_⟩
      rw [if_pos rfl] at p1
      cases e : m1 γ with
      | no => rw [e] at p1; exact p1
      | ex x => rw [e] at p1; exact p1
      | ok z => rw [e] at p1; exact p1⟩⟩
/-- if t: A else: B, both return -/
theorem b_ifTT {t : Expr} {a b : List Stmt} {mt : Ctx.T c → Rs Bool} {m1 m2 : Ctx.T c → Rs ρ} {pos : Pos} (ht : PT X t (tQ F c mt)) (ha : PSs X a (tT F kr c m1)) (hb : PSs X b (tT F kr c m2)) : PSs X [.If t a b pos] (tT F kr c fun γ => (mt γ).bind fun x => if x = true then m1 γ else m2 γ) :=
  pss_mono (pss_one (ps_if ht ha hb)) fun D σ H ⟨H0, G0, G, os, γ, st, p⟩ => ⟨H0, G0, G, os, γ, st, p.step st kF fun v H1 G1 b fr rb p1 => ⟨b, rb, by
    cases b with
    | false => exact ⟨H0, G0, G1, os, γ, st.ext fr, p1⟩
    | true => exact ⟨H0, G0, G1, os, γ, st.ext fr, p1⟩⟩⟩
/-! ### stores -/
/-- a name is stored: it comes ahead of the others -/
theorem R.push {wd : Wd} {H0 G0 H G : Hp} {σ : L2.St} {n : Sl} {α : Type} [Rep α] {j : Nat} {x : V} {a : α} {os : List Addr} {γ : Ctx.T c'} (st : Stt wd n H0 G0 σ H G os c' γ) (hj : n.lt j) (hn : Ctx.not j c' = true) (w : rep wd G x a) :
    Stt wd n H0 G0 (σ.set j (some x)) H G os (.fz j α :: c') (a, γ) :=
  ⟨st.len.set hj, st.f, st.nd, st.fr, ⟨⟨x, List.getElem?_set_self (by rw [st.len.1]; exact hj.1), w⟩, st.r.set hn⟩, st.t⟩
theorem R.pushO {wd : Wd} {H0 G0 H G : Hp} {σ : L2.St} {n : Sl} {β : Type} [Own β] {j : Nat} {p : Addr} {o : HO} {b : β} {os : List Addr} {γ : Ctx.T c'} (st : Stt wd n H0 G0 σ H G os c' γ) (hj : n.lt j) (hn : Ctx.not j c' = true) (hp : p ∉ os) (h0 : H0 p = none) (g : G p = none) (h : H p = some o) (w : own wd G o b) :
    Stt wd n H0 G0 (σ.set j (some (.ref p))) H G (p :: os) (.ow j β :: c') (b, γ) :=
  ⟨st.len.set hj, st.f, List.nodup_cons.mpr ⟨hp, st.nd⟩, fun q hq => by
    rcases List.mem_cons.mp hq with e | e
    · rw [e]; exact ⟨g, h0⟩
    · exact st.fr q e, ⟨p, o, os, rfl, List.getElem?_set_self (by rw [st.len.1]; exact hj.1), h, w, st.r.set hn⟩, st.t⟩
theorem s_setT [Rep α] {st : Stmt} {te : TE} {m : Ctx.T c → Rs α} {j : Nat} (h : PS X st (tAsg te (gName j))) (he : ∀ σ H Q, tX F kF c m σ H Q → te σ H Q) (s : Sub c c') (hj : F.n.lt j) (hn : Ctx.not j c' = true) : PS X st (tS F c (.fz j α :: c') fun γ => (m γ).bind fun a => .ok (a, s.proj γ)) :=
  ps_mono h fun D σ H ⟨H0, G0, G, os, γ, st, p⟩ => he _ _ _ ⟨H0, G0, G, os, γ, st, p.step st kF fun v H1 G1 a fr ra p1 => by
    obtain ⟨os', _, q⟩ := (st.ext fr).sub s
    exact p1 _ _ _ _ (R.push q hj hn ra)⟩
theorem s_setTO {β : Type} [Own β] {st : Stmt} {te : TE} {m : Ctx.T c → Rs β} {j : Nat} (h : PS X st (tAsg te (gName j))) (he : ∀ σ H Q, tX F kO c m σ H Q → te σ H Q) (s : Sub c c') (hj : F.n.lt j) (hn : Ctx.not j c' = true) : PS X st (tS F c (.ow j β :: c') fun γ => (m γ).bind fun a => .ok (a, s.proj γ)) :=
  ps_mono h fun D σ H ⟨H0, G0, G, os, γ, st, p⟩ => he _ _ _ ⟨H0, G0, G, os, γ, st, p.step st kO fun v H1 G1 a fr ⟨q, o, ev, n, g, hq, w⟩ p1 => by
    obtain ⟨os', hs, st'⟩ := (st.ext fr).sub s
    subst ev
    refine p1 _ _ _ _ (R.pushO st' hj hn (fun z => ?_) (st.f.h.free n) g hq w)
    obtain ⟨o2, h2, _⟩ := st.r.there q (hs.subset z)
    rw [n] at h2
    cases h2⟩
/-- a name of the same kind is stored anew, in its place -/
theorem s_updT [Rep α] {st : Stmt} {te : TE} {m : Ctx.T c → Rs α} {j : Nat} (h : PS X st (tAsg te (gName j))) (he : ∀ σ H Q, tX F kF c m σ H Q → te σ H Q) (v : Var c (.fz j α)) (hj : F.n.lt j) (hn : (c.map Ent.slot).Nodup) : PS X st (tS F c c fun γ => (m γ).bind fun a => .ok (v.put γ a)) :=
  ps_mono h fun D σ H ⟨H0, G0, G, os, γ, st, p⟩ => he _ _ _ ⟨H0, G0, G, os, γ, st, p.step st kF fun x H1 G1 a fr ra p1 => by
    have q := st.ext fr
    exact p1 _ _ _ _ ⟨q.len.set hj, q.f, q.nd, q.fr, v.restore hn ra (by rw [q.len.1]; exact hj.1) q.r, q.t⟩⟩
end
end Wm
set_option Elab.async false
set_option linter.all false
set_option maxRecDepth 100000
set_option maxHeartbeats 4000000
namespace Wm
open PySem PySem.Spec PyProof.Rows L2
open Rep (rep)
open Own (own)
variable [TabT]
/-! ### what is walked -/
/-- from any heap that holds B the iterator J walks xs -/
structure Wk (wd : Wd) (J : It) (B : Hp) (G1 : Hp) {α : Type} [Rep α] (xs : List α) : Prop where
  stop : ∀ i H, SameL B H → xs.length ≤ i → J.stop i H
  go : ∀ i H a, SameL B H → xs[i]? = some a → J.go i H
  yld : ∀ i H G x H' a, SameL B H → Same G1 G → SameL G H → xs[i]? = some a → J.yld i H x H' → ∃ G', Fr H G H' G' ∧ rep wd G' x a
/-- the base: the frozen part (g), the whole heap as the walk begins (h), the heap at the def's entry (z) -/
inductive Bs where
  | g | h | z
omit [TabT] in
@[reducible] def Bs.at (b : Bs) (G H H0 : Hp) : Hp := match b with
  | .g => G
  | .h => H
  | .z => H0
def tI (F : Fx) (fr : Bs) {α : Type} [Rep α] (c : Ctx) (m : Ctx.T c → Rs (List α)) : TI := fun σ H Rr => ∃ H0 G0 G os γ, Stt F.wd F.n H0 G0 σ H G os c γ ∧
  match m γ with
  | .ok xs => ∀ H' G' J, Fr H G H' G' → Wk F.wd J (fr.at G' H' H0) G' xs → Rr J H'
  | .ex x => ∀ d H' G', Fr H G H' G' → RepX G' d x → F.W (.ref (F.wd.cm x.cls)) d σ H'
  | .no => False
omit [TabT] in
theorem pi_mono {X : Cx} {tg it : Expr} {t t' : TI} (h : PI X tg it t) (i : ∀ σ H Q, t' σ H Q → t σ H Q) : PI X tg it t' := ⟨fun pins s σ H Q I q => h.run pins s σ H Q I (i σ H Q q)⟩
section
variable {X : Cx} {F : Fx} {c : Ctx} {α β : Type} {tg e : Expr}
theorem tI_of [Rep α] {β : Type} {fr : Bs} {k : Kd F.wd β} {m : Ctx.T c → Rs β} {f : β → Rs (List α)} {σ : L2.St} {H : Hp} {Rr : It → Hp → Prop} {Q : VK} (h : tI F fr c (fun γ => (m γ).bind f) σ H Rr)
    (i : ∀ v H0 H1 G1 b, Same H0 H1 → SameL G1 H1 → k.rel H H1 G1 v b → (match f b with | .ok xs => ∀ J, Wk F.wd J (fr.at G1 H1 H0) G1 xs → Rr J H1 | .ex _ => True | .no => False) → Q v H1) (nx : ∀ b x, f b ≠ .ex x) : tX F k c m σ H Q := by
  obtain ⟨H0, G0, G, os, γ, st, p⟩ := h
  refine ⟨H0, G0, G, os, γ, st, ?_⟩
  dsimp only at p
  cases e : m γ with
  | no => rw [e] at p; exact p
  | ex x => rw [e] at p; exact p
  | ok b =>
    rw [e] at p
    refine fun H1 G1 v f1 r => i v H0 H1 G1 b (st.f.h.trans f1.h) f1.gh r ?_
    have p' : match f b with | .ok xs => ∀ H' G' J, Fr H G H' G' → Wk F.wd J (fr.at G' H' H0) G' xs → Rr J H' | .ex x => ∀ d H' G', Fr H G H' G' → RepX G' d x → F.W (.ref (F.wd.cm x.cls)) d σ H' | .no => False := p
    cases e2 : f b with
    | no => rw [e2] at p'; exact p'
    | ex x => exact trivial
    | ok xs =>
      rw [e2] at p'
      exact fun J w => p' H1 G1 J f1 w
theorem wk_list {K : PySem.W.Frag} {wd : Wd} (hK : wd.K = K) [Rep α] {p : Addr} {vs : List V} {B G1 : Hp} {xs : List α} (hp : B p = some (.lst vs)) (r : reps wd G1 vs xs) : Wk wd (Itl K p) B G1 xs where
  stop := fun i H s hi => ⟨vs, .of (s.v hp), by rw [r.len]; exact hi⟩
  go := fun i H a s ha => by
    obtain ⟨v, hv, _⟩ := r.get ha
    exact ⟨vs, v, .of (s.v hp), hv⟩
  yld := fun i H G x H' a s g gh ha ⟨e, y⟩ => by
    subst e
    obtain ⟨v, hv, hr⟩ := r.get ha
    have := y vs (.of (s.v hp))
    rw [hv] at this
    cases this
    exact ⟨G, Fr.refl gh, Rep.mono g hr⟩
/-- a frozen list; any list that is only read meanwhile -/
theorem i_list [Rep α] {m : Ctx.T c → Rs (List α)} (hK : F.wd.K = X.K) (h : PE X e (tX F kF c m)) : PI X tg e (tI F .g c fun γ => (m γ).bind .ok) :=
  pi_mono (pi_list h) fun σ H Rr q => tI_of q (fun v H0 H1 G1 b h0 gh ⟨p, o, e1, e2, vs, e3, e4, e5⟩ w => by
    subst e3
    exact ⟨p, e1, ⟨vs, .of (gh.v e2)⟩, w _ (wk_list hK e2 e5)⟩) fun _ _ z => nomatch z
theorem i_listB [Rep α] {m : Ctx.T c → Rs (List α)} (hK : F.wd.K = X.K) (h : PE X e (tX F kB c m)) : PI X tg e (tI F .h c fun γ => (m γ).bind .ok) :=
  pi_mono (pi_list h) fun σ H Rr q => tI_of q (fun v H0 H1 G1 b h0 gh ⟨p, o, e1, e2, vs, e3, e4, e5⟩ w => by
    subst e3
    exact ⟨p, e1, ⟨vs, .of e2⟩, w _ (wk_list hK e2 e5)⟩) fun _ _ z => nomatch z
theorem i_bo [Rep α] {i : Nat} (v : Var c (.bo i (List α))) {x : Str} {pos : Pos} (hK : F.wd.K = X.K) (hN : X.N[i]? = some x := by rfl) (hv : Vis X.env.scope x := by first | exact Or.inl rfl | exact Or.inr (Or.inl rfl) | exact Or.inr (Or.inr rfl))
    (hd : (x == ("__debug__" : Str)) = false := by decide) (hcd : (x == ("__classdict__" : Str)) = false := by decide) : PI X tg (.Name x pos) (tI F .z c fun γ => .ok (v.get γ)) :=
  pi_mono (pi_list (pe_var hN hv hd hcd)) fun σ H Rr ⟨H0, G0, G, os, γ, st, p⟩ => by
    obtain ⟨q, o, h1, h2, vs, e3, e4, r⟩ := v.bo st.r
    subst e3
    exact ⟨.ref q, h1, q, rfl, ⟨vs, .of (st.f.h.v h2)⟩, p H G _ (Fr.refl st.f.gh) (wk_list hK h2 r)⟩
theorem i_tup [Rep α] {fr : Bs} {m : Ctx.T c → Rs (Tup α)} (hfr : fr = .g ∨ fr = .h) (hK : F.wd.K = X.K) (h : PE X e (tX F kF c m)) : PI X tg e (tI F fr c fun γ => (m γ).bind fun t => .ok t.items) :=
  pi_mono (pi_tup h) fun σ H Rr q => tI_of q (fun v H0 H1 G1 b h0 gh ⟨p, o, e1, e2, vs, e3, e4, r⟩ w => by
    subst e3
    refine ⟨p, e1, ⟨vs, .of (gh.v e2)⟩, w _ ?_⟩
    have hp : ∀ H, SameL (fr.at G1 H1 H0) H → H p = some (.tup vs) := fun H s => by
      cases hfr with
      | inl q => subst q; exact s.v e2
      | inr q => subst q; exact s.v (gh.v e2)
    exact {
      stop := fun i H s hi => ⟨vs, .of (hp H s), by rw [r.len]; exact hi⟩
      go := fun i H a s ha => by
        obtain ⟨v, hv, _⟩ := r.get ha
        exact ⟨vs, v, .of (hp H s), hv⟩
      yld := fun i H G x H' a s g gh ha ⟨e, y⟩ => by
        subst e
        obtain ⟨v, hv, hr⟩ := r.get ha
        have := y vs (.of (hp _ s))
        rw [hv] at this
        cases this
        exact ⟨G, Fr.refl gh, Rep.mono g hr⟩ }) fun _ _ z => nomatch z
omit [TabT] in
def rng (lo hi : Int) : List Int := (List.range (hi - lo).toNat).map fun (i : Nat) => lo + (i : Int)
omit [TabT] in
theorem rng_len (lo hi : Int) : (rng lo hi).length = (hi - lo).toNat := by unfold rng; rw [List.length_map, List.length_range]
omit [TabT] in
theorem rng_get {lo hi : Int} {i : Nat} {a : Int} (h : (rng lo hi)[i]? = some a) : i < (hi - lo).toNat ∧ a = lo + i := by
  unfold rng at h
  rw [List.getElem?_map] at h
  by_cases hi' : i < (hi - lo).toNat
  · rw [List.getElem?_range hi'] at h
    exact ⟨hi', (Option.some.inj h).symm⟩
  · rw [List.getElem?_eq_none (by rw [List.length_range]; omega)] at h
    cases h
omit [TabT] in
omit [TabT] in
/-- range's bounds; ok: also as a list -/
def Rng (lo hi : Int) : Rs (List Int) := if -4611686018427387904 ≤ lo ∧ lo ≤ 4611686018427387903 ∧ -4611686018427387904 ≤ hi ∧ hi ≤ 4611686018427387903 then .ok (rng lo hi) else .no
theorem wk_rng {wd : Wd} {lo hi : Int} {B G1 : Hp} : Wk wd (Itr lo (hi - lo).toNat) B G1 (rng lo hi) where
  stop := fun i H s h => by rw [rng_len] at h; exact h
  go := fun i H a s h => (rng_get h).1
  yld := fun i H G x H' a s g gh h ⟨e, y⟩ => by
    subst e
    exact ⟨G, Fr.refl gh, by rw [y, (rng_get h).2]; rfl⟩
theorem i_rng1 {fr : Bs} {m : Ctx.T c → Rs Int} {p pos : Pos} (hg : Gl X "range") (hm : X.mg "range" = none) (h : PE X e (tX F kF c m)) (he : starEach (e :: []) X.env = (false, eval e X.env) :: starEach [] X.env := by rfl) (hs : starEach [e] X.env = [(false, eval e X.env)] := by rfl) :
    PI X tg (.Call (.Name "range" p) [e] [] pos) (tI F fr c fun γ => (m γ).bind fun n => Rng 0 n) :=
  pi_mono (pi_range1 hg hm (pa_cons h pa_nil he) hs) fun σ H Rr q => tI_of (k := kF) q (fun v H0 H1 G1 b h0 gh r w => by
    unfold Rng at w
    by_cases hb : -4611686018427387904 ≤ (0 : Int) ∧ (0 : Int) ≤ 4611686018427387903 ∧ -4611686018427387904 ≤ b ∧ b ≤ 4611686018427387903
    · rw [if_pos hb] at w
      refine ⟨b, by rw [show v = V.int b from r], by omega, by omega, ?_⟩
      have := w _ (wk_rng (wd := F.wd) (lo := 0) (hi := b))
      rwa [Int.sub_zero] at this
    · rw [if_neg hb] at w
      exact w.elim) fun b x => by unfold Rng; split <;> exact fun z => nomatch z
theorem i_rng2 {fr : Bs} {e2 : Expr} {m m2 : Ctx.T c → Rs Int} {p pos : Pos} (hg : Gl X "range") (hm : X.mg "range" = none) (h : PE X e (tX F kF c m)) (h2 : PE X e2 (tX F kF c m2)) (he : starEach (e :: e2 :: []) X.env = (false, eval e X.env) :: starEach (e2 :: []) X.env := by rfl) (he2 : starEach (e2 :: []) X.env = (false, eval e2 X.env) :: starEach [] X.env := by rfl) (hs : starEach [e, e2] X.env = [(false, eval e X.env), (false, eval e2 X.env)] := by rfl) (hs2 : starEach [e2] X.env = [(false, eval e2 X.env)] := by rfl) :
    PI X tg (.Call (.Name "range" p) [e, e2] [] pos) (tI F fr c fun γ => (m γ).bind fun a => (m2 γ).bind fun b => Rng a b) :=
  pi_mono (pi_range2 hg hm (pa_cons h (pa_cons h2 pa_nil he2) he) hs hs2) fun σ H Rr q => by
    obtain ⟨H0, G0, G, os, γ, st, p⟩ := q
    refine ⟨H0, G0, G, os, γ, st, ?_⟩
    dsimp only at p
    cases e1 : m γ with
    | no => rw [e1] at p; exact p
    | ex x => rw [e1] at p; exact p
    | ok a =>
      rw [e1] at p
      refine fun H1 G1 v f1 r => ⟨H0, G0, G1, os, γ, st.ext f1, ?_⟩
      cases e2 : m2 γ with
      | no => rw [e2] at p; exact p
      | ex x =>
        rw [e2] at p
        exact fun d H2 G2 s z => p d H2 G2 (f1.trans s) z
      | ok b =>
        simp only [e2] at p
        dsimp only [Rs.bind] at p
        refine fun H2 G2 w f2 r2 => ⟨a, b, by rw [show v = V.int a from r, show w = V.int b from r2], ?_⟩
        unfold Rng at p
        by_cases hb : -4611686018427387904 ≤ a ∧ a ≤ 4611686018427387903 ∧ -4611686018427387904 ≤ b ∧ b ≤ 4611686018427387903
        · rw [if_pos hb] at p
          exact ⟨⟨by omega, by omega, by omega, by omega⟩, p H2 G2 _ (f1.trans f2) wk_rng⟩
        · rw [if_neg hb] at p
          exact p.elim
omit [TabT] in
omit [TabT] in
/-- enumerate of a frozen list -/
def enumI {α : Type} (xs : List α) : List (Int × α) := (xs.zipIdx 0).map fun p => ((p.2 : Int), p.1)
omit [TabT] in
theorem enumI_get {α : Type} {xs : List α} {i : Nat} {q : Int × α} : (enumI xs)[i]? = some q ↔ q.1 = (i : Int) ∧ xs[i]? = some q.2 := by
  unfold enumI
  rw [List.getElem?_map, List.getElem?_zipIdx]
  cases e : xs[i]? with
  | none => simp
  | some x =>
    simp only [Option.map_some, Nat.zero_add, Option.some.injEq]
    constructor
    · intro h; rw [← h]; exact ⟨rfl, rfl⟩
    · intro h; obtain ⟨h1, h2⟩ := h; obtain ⟨q1, q2⟩ := q; simp only at h1 h2; rw [h1, h2]
omit [TabT] in
theorem enumI_len {α : Type} (xs : List α) : (enumI xs).length = xs.length := by unfold enumI; rw [List.length_map, List.length_zipIdx]
theorem i_enum [Rep α] {m : Ctx.T c → Rs (List α)} {p pos tpos : Pos} {elts : List Expr} {kk : Nat} (hK : F.wd.K = X.K) (hg : Gl X "enumerate") (hm : X.mg "enumerate" = none) (h : PE X e (tX F kF c m)) (he : starEach (e :: []) X.env = (false, eval e X.env) :: starEach [] X.env := by rfl) (hs : starEach [e] X.env = [(false, eval e X.env)] := by rfl) :
    PI X (.Tuple elts kk tpos) (.Call (.Name "enumerate" p) [e] [] pos) (tI F .g c fun γ => (m γ).bind fun xs => .ok (enumI xs)) :=
  pi_mono (pi_enum hg hm (pa_cons h pa_nil he) hs) fun σ H Rr q => tI_of (k := kF) q (fun v H0 H1 G1 b h0 gh ⟨p, o, e1, e2, vs, e3, e4, r⟩ w => by
    subst e3
    refine ⟨p, vs, by rw [e1], .of (gh.v e2), w _ ?_⟩
    exact {
      stop := fun i H s hi => ⟨vs, .of (s.v e2), by rw [r.len]; rw [enumI_len] at hi; exact hi⟩
      go := fun i H a s ha => by
        obtain ⟨v, hv, _⟩ := r.get (enumI_get.mp ha).2
        exact ⟨vs, v, .of (s.v e2), hv⟩
      yld := fun i H G x H' a s g gh ha ⟨T, y, ex, nT, eH, hy⟩ => by
        subst eH
        obtain ⟨a1, a2⟩ := enumI_get.mp ha
        obtain ⟨v, hv, hr⟩ := r.get a2
        obtain rfl : v = y := Option.some.inj (hv.symm.trans (hy vs (.of (s.v e2))))
        refine ⟨upd G T _, (Fr.alloc gh nT).freeze nT (gh.free nT) upd_same, T, _, ex, upd_same, .int (i : Nat), v, rfl, by rw [a1]; rfl, ?_⟩
        exact Rep.mono (Same.upd' g ((g.transL gh).free nT)) hr }) fun _ _ z => nomatch z
omit [TabT] in
def chars (x : Str) : List Str := x.cps.toList.map fun c => ⟨#[c]⟩
omit [TabT] in
theorem SOk.one {c : Nat} (h : c < 1114112) : SOk ⟨#[c]⟩ := ⟨by show 1 ≤ 16777216; decide, fun d hd => by
  have : d = c := by simpa using hd
  rw [this]; exact h⟩
theorem i_str {fr : Bs} {m : Ctx.T c → Rs Str} (h : PE X e (tX F kF c m)) : PI X tg e (tI F fr c fun γ => (m γ).bind fun x => .ok (chars x)) :=
  pi_mono (pi_str h) fun σ H Rr q => tI_of (k := kF) q (fun v H0 H1 G1 b h0 gh r w => ⟨b, r.1, w _ {
      stop := fun i H s hi => by
        unfold chars at hi
        rw [List.length_map, Array.length_toList] at hi
        exact hi
      go := fun i H a s ha => by
        have : i < (chars b).length := (List.getElem?_eq_some_iff.mp ha).1
        unfold chars at this
        rw [List.length_map, Array.length_toList] at this
        exact this
      yld := fun i H G x H' a s g gh ha ⟨eH, ch, hc, ex⟩ => by
        subst eH
        refine ⟨G, Fr.refl gh, ?_⟩
        unfold chars at ha
        rw [List.getElem?_map, Array.getElem?_toList, hc] at ha
        rw [ex, ← Option.some.inj ha]
        refine ⟨rfl, SOk.one (r.2.2 ch ?_)⟩
        rw [← Array.getElem?_toList] at hc
        exact List.mem_of_getElem? hc }⟩) fun _ _ z => nomatch z
end
/-! ### targets -/
def TgtOk (F : Fx) (g : TG) {α : Type} [Rep α] (c c1 : Ctx) (push : α → Ctx.T c → Ctx.T c1) : Prop :=
  ∀ {H0 G0 : Hp} {σ : L2.St} {H G : Hp} {os : List Addr} {γ : Ctx.T c} {v : V} {a : α} {Q : L2.St → Hp → Prop}, Stt F.wd F.n H0 G0 σ H G os c γ → rep F.wd G v a → (∀ σ', Stt F.wd F.n H0 G0 σ' H G os c1 (push a γ) → Q σ' H) → g v σ H Q
section
variable {X : Cx} {F : Fx} {c c1 : Ctx} {α β ρ : Type}
theorem g_name [Rep α] {j : Nat} (hj : F.n.lt j) (hn : Ctx.not j c = true) : TgtOk F (gName j) (α := α) c (.fz j α :: c) fun a γ => (a, γ) := fun st r q => q _ (R.push st hj hn r)
theorem g_pair [Rep α] [Rep β] {i j : Nat} {K : PySem.W.Frag} (hi : F.n.lt i) (hj : F.n.lt j) (hn : Ctx.not i c = true) (hm : Ctx.not j (.fz i α :: c) = true) :
    TgtOk F (gTup K 2 (gCons (gName i) (gCons (gName j) gNil))) (α := α × β) c (.fz j β :: .fz i α :: c) fun a γ => (a.2, a.1, γ) := fun {H0 G0 σ H G os γ v a Q} st r q => by
  obtain ⟨p, o, e1, e2, v1, v2, e3, r1, r2⟩ := r
  subst e3
  exact ⟨p, [v1, v2], e1, .of (st.f.gh.v e2), rfl, v1, [v2], rfl, v2, [], rfl, rfl, q _ (R.push (R.push st hi hn r1) hj hm r2)⟩
/-! ### for -/
omit [TabT] in
theorem for_any {J : It} {g : TG} {tb : TS} {D : Ends} {σ : L2.St} {H : Hp} {n : Nat} (Pv : Nat → L2.St → Hp → Prop) (h0 : Pv 0 σ H)
    (hs : ∀ i σ H, i < n → Pv i σ H → J.go i H ∧ ∀ x H', J.yld i H x H' → g x σ H' fun σ2 H2 => tb { D with nx := Pv (i + 1), ct := Pv (i + 1), bk := D.nx } σ2 H2) (hd : ∀ σ H, Pv n σ H → J.stop n H ∧ D.nx σ H) :
    ∃ W : Nat → Nat → L2.St → Hp → Prop, (∃ m, W 0 m σ H) ∧ ∀ i m σ H, W i m σ H →
      (J.stop i H ∧ D.nx σ H) ∨ (J.go i H ∧ ∃ N : L2.St → Hp → Prop, (∀ σ' H', N σ' H' → ∃ m', m' < m ∧ W (i + 1) m' σ' H') ∧ ∀ x H', J.yld i H x H' → g x σ H' fun σ2 H2 => tb { D with nx := N, ct := N, bk := D.nx } σ2 H2) := by
  refine ⟨fun i m σ H => m = n - i ∧ i ≤ n ∧ Pv i σ H, ⟨n, by simp, Nat.zero_le _, h0⟩, ?_⟩
  rintro i m σ H ⟨rfl, hi, p⟩
  by_cases hlt : i < n
  · obtain ⟨q1, q2⟩ := hs i σ H hlt p
    exact .inr ⟨q1, Pv (i + 1), fun σ' H' p' => ⟨n - (i + 1), by omega, rfl, hlt, p'⟩, q2⟩
  · have e : i = n := by omega
    subst e
    exact .inl (hd σ H p)
omit [TabT] in
theorem drop_get {α : Type} {xs : List α} {i : Nat} (h : i < xs.length) : ∃ a, xs[i]? = some a ∧ xs.drop i = a :: xs.drop (i + 1) := by
  refine ⟨xs[i], List.getElem?_eq_getElem h, List.drop_eq_getElem_cons h⟩
theorem Fr.base {H0 G0 H G H' G' : Hp} (a : Fr H0 G0 H G) (b : Fr H0 G H' G') : Fr H0 G0 H' G' :=
  ⟨b.h, a.g.trans b.g, b.gh, fun x o e => by
    rcases b.new x o e with q | q
    · exact a.new x o q
    · exact .inr q, b.tb⟩
theorem Stt.rebase {wd : Wd} {n : Sl} {H0 G0 H G : Hp} {σ : L2.St} {os : List Addr} {γ : Ctx.T c} (s : Stt wd n H0 G0 σ H G os c γ) : Stt wd n H0 G σ H G os c γ :=
  ⟨s.len, ⟨s.f.h, Same.refl _, s.f.gh, fun _ _ e => .inl e, s.f.tb⟩, s.nd, s.fr, s.r, s.t⟩
theorem Stt.unbase {wd : Wd} {n : Sl} {H0 G0 H G H' G' : Hp} {σ : L2.St} {os : List Addr} {γ : Ctx.T c} (s : Stt wd n H0 G σ H' G' os c γ) (f : Fr H0 G0 H G) : Stt wd n H0 G0 σ H' G' os c γ :=
  ⟨s.len, f.base s.f, s.nd, s.fr, s.r, s.t⟩
theorem s_for [Rep α] {tg iter : Expr} {body : List Stmt} {pos : Pos} {g : TG} {mL : Ctx.T c → Rs (List α)} {mb : Ctx.T c1 → Rs (Ctx.T c)} {push : α → Ctx.T c → Ctx.T c1} (hp : PassesOwn (model X.prog X.w) X.A X.env X.xe) (hc : X.calm = true)
    {fr : Bs} (hfr : fr = .g ∨ fr = .z) (hi : PI X tg iter (tI F fr c mL)) (hg : PG X tg g) (ht : TgtOk F g c c1 push) (hb : PSs X body (tS F c1 c mb)) (hs : ∀ x, foldedSetIterable iter X.env x = pure x := by intro _; rfl) :
    PS X (.For tg iter body [] pos) (tS F c c fun γ => (mL γ).bind fun xs => Rs.fold (fun γ x => mb (push x γ)) γ xs) :=
  ps_mono (ps_for hp hc hi hg hb hs) fun D σ H ⟨H0, G0, G, os, γ, st, p⟩ => ⟨H0, G0, G, os, γ, st, by
    dsimp only at p
    cases e : mL γ with
    | no => rw [e] at p; exact p
    | ex x => rw [e] at p; exact fun d H2 G2 s z => p d σ H2 G2 st.len (st.f.trans s) z
    | ok xs =>
      rw [e] at p
      refine fun H1 G1 J f w => for_any (n := xs.length) (fun i σ' H' => ∃ G' os' γ', Stt F.wd F.n H0 G0 σ' H' G' os' c γ' ∧ Same G1 G' ∧ PostN F H0 G0 c D (Rs.fold (fun γ x => mb (push x γ)) γ' (xs.drop i)))
        ⟨G1, os, γ, st.ext f, Same.refl _, p⟩ ?_ ?_
      · rintro i σ' H' hi ⟨G', os', γ', st', sg, p'⟩
        obtain ⟨a, ha, hd⟩ := drop_get hi
        rw [hd] at p'
        have hB : SameL (fr.at G1 H1 H0) H' := by
          cases hfr with
          | inl q => subst q; exact sg.transL st'.f.gh
          | inr q => subst q; exact st'.f.h.l
        refine ⟨w.go i H' a hB ha, fun x H2 hy => ?_⟩
        obtain ⟨G2, f2, r2⟩ := w.yld i H' G' x H2 a hB sg st'.f.gh ha hy
        refine ht (st'.ext f2) r2 fun σ3 st3 => ⟨H0, G2, G2, os', _, st3.rebase, ?_⟩
        have p2 : PostN F H0 G0 c D ((mb (push a γ')).bind fun g' => Rs.fold (fun γ x => mb (push x γ)) g' (xs.drop (i + 1))) := p'
        cases e2 : mb (push a γ') with
        | no => rw [e2] at p2; exact p2
        | ex x => rw [e2] at p2; exact fun d σ4 H4 G4 l4 f4 z => p2 d σ4 H4 G4 l4 (st3.f.base f4) z
        | ok g' =>
          rw [e2] at p2
          exact fun σ4 H4 G4 os4 st4 => ⟨G4, os4, g', st4.unbase st3.f, sg.trans (f2.g.trans st4.f.g), p2⟩
      · rintro σ' H' ⟨G', os', γ', st', sg, p'⟩
        rw [List.drop_length] at p'
        have hB : SameL (fr.at G1 H1 H0) H' := by
          cases hfr with
          | inl q => subst q; exact sg.transL st'.f.gh
          | inr q => subst q; exact st'.f.h.l
        exact ⟨w.stop _ H' hB (Nat.le_refl _), p' _ _ _ _ st'⟩⟩
theorem s_forG [Rep α] {kr : Kd F.wd ρ} {tg iter : Expr} {body : List Stmt} {pos : Pos} {g : TG} {mL : Ctx.T c → Rs (List α)} {mb : Ctx.T c1 → Rs (Ctx.T c ⊕ ρ)} {push : α → Ctx.T c → Ctx.T c1} (hp : PassesOwn (model X.prog X.w) X.A X.env X.xe) (hc : X.calm = true)
    {fr : Bs} (hfr : fr = .g ∨ fr = .z) (hi : PI X tg iter (tI F fr c mL)) (hg : PG X tg g) (ht : TgtOk F g c c1 push) (hb : PSs X body (tG F kr c1 c mb)) (hs : ∀ x, foldedSetIterable iter X.env x = pure x := by intro _; rfl) :
    PS X (.For tg iter body [] pos) (tG F kr c c fun γ => (mL γ).bind fun xs => Rs.foldR (fun γ x => mb (push x γ)) γ xs) :=
  ps_mono (ps_for hp hc hi hg hb hs) fun D σ H ⟨H0, G0, G, os, γ, st, p⟩ => ⟨H0, G0, G, os, γ, st, by
    dsimp only at p
    cases e : mL γ with
    | no => rw [e] at p; exact p
    | ex x => rw [e] at p; exact fun d H2 G2 s z => p d σ H2 G2 st.len (st.f.trans s) z
    | ok xs =>
      rw [e] at p
      refine fun H1 G1 J f w => for_any (n := xs.length) (fun i σ' H' => ∃ G' os' γ', Stt F.wd F.n H0 G0 σ' H' G' os' c γ' ∧ Same G1 G' ∧ PostG F kr H0 G0 c D (Rs.foldR (fun γ x => mb (push x γ)) γ' (xs.drop i)))
        ⟨G1, os, γ, st.ext f, Same.refl _, p⟩ ?_ ?_
      · rintro i σ' H' hi ⟨G', os', γ', st', sg, p'⟩
        obtain ⟨a, ha, hd⟩ := drop_get hi
        rw [hd] at p'
        have hB : SameL (fr.at G1 H1 H0) H' := by
          cases hfr with
          | inl q => subst q; exact sg.transL st'.f.gh
          | inr q => subst q; exact st'.f.h.l
        refine ⟨w.go i H' a hB ha, fun x H2 hy => ?_⟩
        obtain ⟨G2, f2, r2⟩ := w.yld i H' G' x H2 a hB sg st'.f.gh ha hy
        refine ht (st'.ext f2) r2 fun σ3 st3 => ⟨H0, G2, G2, os', _, st3.rebase, ?_⟩
        simp only [Rs.foldR] at p'
        cases e2 : mb (push a γ') with
        | no => rw [e2] at p'; exact p'
        | ex x => rw [e2] at p'; exact fun d σ4 H4 G4 l4 f4 z => p' d σ4 H4 G4 l4 (st3.f.base f4) z
        | ok z =>
          rw [e2] at p'
          cases z with
          | inl g' => exact fun σ4 H4 G4 os4 st4 => ⟨G4, os4, g', st4.unbase st3.f, sg.trans (f2.g.trans st4.f.g), p'⟩
          | inr r => exact fun H4 G4 v f4 r4 => p' H4 G4 v (st3.f.base f4) r4
      · rintro σ' H' ⟨G', os', γ', st', sg, p'⟩
        rw [List.drop_length] at p'
        have hB : SameL (fr.at G1 H1 H0) H' := by
          cases hfr with
          | inl q => subst q; exact sg.transL st'.f.gh
          | inr q => subst q; exact st'.f.h.l
        exact ⟨w.stop _ H' hB (Nat.le_refl _), p' _ _ _ _ st'⟩⟩
/-! ### while -/
theorem s_while {t : Expr} {body : List Stmt} {pos : Pos} {mt : Ctx.T c → Rs Bool} {mb : Ctx.T c → Rs (Ctx.T c)} (hp : PassesOwn (model X.prog X.w) X.A X.env X.xe) (ht : PT X t (tQ F c mt)) (hb : PSs X body (tS F c c mb)) :
    PS X (.While t body [] pos) (tS F c c fun γ => Rs.whl mt mb γ) :=
  ps_mono (ps_while hp ht hb) fun D σ H ⟨H0, G0, G, os, γ, st, p⟩ => by
    dsimp only at p
    rcases Rs.whl_is (t := mt) (b := mb) (g := γ) with e | ⟨n, e⟩
    · rw [e] at p
      exact p.elim
    · rw [e] at p
      refine ⟨fun n σ' H' => ∃ G' os' γ', Stt F.wd F.n H0 G0 σ' H' G' os' c γ' ∧ PostN F H0 G0 c D (Rs.iter mt mb n γ'), ⟨n, G, os, γ, st, p⟩, ?_⟩
      rintro m σ' H' ⟨G', os', γ', st', p'⟩
      cases m with
      | zero => exact p'.elim
      | succ m =>
        refine ⟨H0, G0, G', os', γ', st', ?_⟩
        have p2 : PostN F H0 G0 c D ((mt γ').bind fun c => if c = true then (mb γ').bind (Rs.iter mt mb m) else .ok γ') := p'
        refine p2.step st' kF fun v H1 G1 b f1 r1 p3 => ⟨b, r1, ?_⟩
        cases b with
        | false => exact p3 _ _ _ _ (st'.ext f1)
        | true =>
          have p4 : PostN F H0 G0 c D ((mb γ').bind (Rs.iter mt mb m)) := p3
          refine ⟨fun σ' H' => ∃ G' os' γ', Stt F.wd F.n H0 G0 σ' H' G' os' c γ' ∧ PostN F H0 G0 c D (Rs.iter mt mb m γ'), fun σ2 H2 q => ⟨m, Nat.lt_succ_self m, q⟩, H0, G0, G1, os', γ', st'.ext f1, ?_⟩
          exact p4.seqN fun σ H G os γ s2 p5 => ⟨G, os, γ, s2, p5⟩
/-! ### comprehensions -/
omit [TabT] in
theorem comp_any {J : It} {g : TG} {tt : TT} {te : TE} {vs : List Nat} {σ : L2.St} {H1 : Hp} {D : Addr} {Qd : Hp → Prop} {n : Nat} (Pv : Nat → Hp → Prop) (h0 : Pv 0 (upd H1 D (.lst [])))
    (hs : ∀ i H, i < n → Pv i H → J.go i H ∧ ∀ x H', J.yld i H x H' → g x (wipe σ vs) H' fun σ2 H2 => wipe σ2 vs = wipe σ vs ∧ tt σ2 H2 fun b H3 =>
      if b = true then te σ2 H3 fun y H4 => ∃ acc, H4 D = some (.lst acc) ∧ acc.length < sizeLine ∧ Pv (i + 1) (upd H4 D (.lst (acc ++ [y]))) else Pv (i + 1) H3) (hd : ∀ H, Pv n H → J.stop n H ∧ Qd H) :
    ∃ W : Nat → Nat → Hp → Prop, (∃ m, W 0 m (upd H1 D (.lst []))) ∧ ∀ i m H, W i m H →
      (J.stop i H ∧ Qd H) ∨ (J.go i H ∧ ∃ Nx : Hp → Prop, (∀ H', Nx H' → ∃ m', m' < m ∧ W (i + 1) m' H') ∧ ∀ x H', J.yld i H x H' → g x (wipe σ vs) H' fun σ2 H2 => wipe σ2 vs = wipe σ vs ∧ tt σ2 H2 fun b H3 =>
        if b = true then te σ2 H3 fun y H4 => ∃ acc, H4 D = some (.lst acc) ∧ acc.length < sizeLine ∧ Nx (upd H4 D (.lst (acc ++ [y]))) else Nx H3) := by
  refine ⟨fun i m H => m = n - i ∧ i ≤ n ∧ Pv i H, ⟨n, by simp, Nat.zero_le _, h0⟩, ?_⟩
  rintro i m H ⟨rfl, hi, p⟩
  by_cases hlt : i < n
  · obtain ⟨q1, q2⟩ := hs i H hlt p
    exact .inr ⟨q1, Pv (i + 1), fun H' p' => ⟨n - (i + 1), by omega, rfl, hlt, p'⟩, q2⟩
  · have e : i = n := by omega
    subst e
    exact .inl (hd H p)
/-- the target within a comprehension: as TgtOk, and the block's names are the slots vs -/
def TgtC (F : Fx) (g : TG) (vs : List Nat) {α : Type} [Rep α] (c c1 : Ctx) (push : α → Ctx.T c → Ctx.T c1) : Prop :=
  ∀ {H0 G0 : Hp} {σ : L2.St} {H G : Hp} {os : List Addr} {γ : Ctx.T c} {v : V} {a : α} {Q : L2.St → Hp → Prop}, Stt F.wd F.n H0 G0 σ H G os c γ → rep F.wd G v a → (∀ σ', wipe σ' vs = wipe σ vs → Stt F.wd F.n H0 G0 σ' H G os c1 (push a γ) → Q σ' H) → g v σ H Q
theorem gc_name [Rep α] {j : Nat} (hj : F.n.lt j) (hn : Ctx.not j c = true) : TgtC F (gName j) [j] (α := α) c (.fz j α :: c) fun a γ => (a, γ) := fun {H0 G0 σ H G os γ v a Q} st r q => q _ (by unfold wipe wipe; rw [List.set_set]) (R.push st hj hn r)
theorem gc_pair [Rep α] [Rep β] {i j : Nat} {K : PySem.W.Frag} (hi : F.n.lt i) (hj : F.n.lt j) (hij : i ≠ j) (hn : Ctx.not i c = true) (hm : Ctx.not j (.fz i α :: c) = true) :
    TgtC F (gTup K 2 (gCons (gName i) (gCons (gName j) gNil))) [i, j] (α := α × β) c (.fz j β :: .fz i α :: c) fun a γ => (a.2, a.1, γ) := fun {H0 G0 σ H G os γ v a Q} st r q => by
  obtain ⟨p, o, e1, e2, v1, v2, e3, r1, r2⟩ := r
  subst e3
  refine ⟨p, [v1, v2], e1, .of (st.f.gh.v e2), rfl, v1, [v2], rfl, v2, [], rfl, rfl, q _ ?_ (R.push (R.push st hi hn r1) hj hm r2)⟩
  unfold wipe wipe wipe
  rw [List.set_set, List.set_comm _ _ hij, List.set_set]
  
omit [TabT] in
theorem wipe_get (σ : L2.St) (i : Nat) : ∀ vs : List Nat, (wipe σ vs)[i]? = if i ∈ vs then (if i < σ.length then some none else none) else σ[i]?
  | [] => by rw [if_neg (by simp)]; rfl
  | v :: vs => by
    have ih := wipe_get σ i vs
    unfold wipe
    by_cases h : v = i
    · subst h
      rw [if_pos List.mem_cons_self]
      by_cases hl : v < σ.length
      · rw [if_pos hl, List.getElem?_set_self (by rw [wipe_length]; exact hl)]
      · rw [if_neg hl, List.getElem?_eq_none (by rw [List.length_set, wipe_length]; omega)]
    · rw [List.getElem?_set_ne h, ih]
      by_cases hm : i ∈ vs
      · rw [if_pos hm, if_pos (List.mem_cons_of_mem _ hm)]
      · rw [if_neg hm, if_neg fun z => (List.mem_cons.mp z).elim (fun q => h q.symm) hm]
omit [TabT] in
theorem wipe_idem (σ : L2.St) (vs : List Nat) : wipe (wipe σ vs) vs = wipe σ vs := by
  apply List.ext_getElem?
  intro i
  rw [wipe_get (wipe σ vs) i vs, wipe_get σ i vs, wipe_length]
  by_cases h : i ∈ vs
  · rw [if_pos h, if_pos h]
  · rw [if_neg h, if_neg h]
omit [TabT] in
def Ctx.nots : List Nat → Ctx → Bool
  | [], _ => true
  | j :: js, c => Ctx.not j c && Ctx.nots js c
omit [TabT] in
theorem R.wipe {wd : Wd} {H0 H G : Hp} {σ : L2.St} : ∀ {vs : List Nat} {c : Ctx} {γ : Ctx.T c} {os : List Addr}, Ctx.nots vs c = true → R wd H0 σ H G c γ os → R wd H0 (L2.wipe σ vs) H G c γ os
  | [], c, γ, os, _, h => h
  | v :: vs, c, γ, os, n, h => by
    have n' : (Ctx.not v c && Ctx.nots vs c) = true := n
    rw [Bool.and_eq_true] at n'
    exact (R.wipe n'.2 h).set n'.1
theorem lc_of [Rep α] [Rep β] {fr : Bs} {g : TG} {vs : List Nat} {c2 : Ctx} {mL : Ctx.T c → Rs (List α)} {mt : Ctx.T c2 → Rs Bool} {me : Ctx.T c2 → Rs β} {push : α → Ctx.T c1 → Ctx.T c2} (s : Sub c c1) (hn : Ctx.nots vs c1 = true) (ht : TgtC F.blk g vs c1 c2 push)
    {σ : L2.St} {H : Hp} {Q : VK} (h : tX F kO c (fun γ => (mL γ).bind fun xs => if xs.length ≤ 16777216 then Rs.comp (fun x => mt (push x (s.proj γ))) (fun x => me (push x (s.proj γ))) xs else .no) σ H Q) :
    tLc (tI F fr c mL) g (tQ F.blk c2 mt) (tX F.blk kF c2 me) vs σ H Q := by
  obtain ⟨H0, G0, G, os, γ, st, p⟩ := h
  refine ⟨H0, G0, G, os, γ, st, ?_⟩
  dsimp only at p
  cases e : mL γ with
  | no => rw [e] at p; exact p
  | ex x => rw [e] at p; exact p
  | ok xs =>
    rw [e] at p
    have p1 : Post F.W (kO (wd := F.wd)) σ H G Q (if xs.length ≤ 16777216 then Rs.comp (fun x => mt (push x (s.proj γ))) (fun x => me (push x (s.proj γ))) xs else .no) := p
    by_cases hz : xs.length ≤ 16777216
    · rw [if_pos hz] at p1
      intro H1 G1 J f w Dl nD
      have st1 := st.ext f
      obtain ⟨os', hs, st2⟩ := st1.sub s
      have gD : G1 Dl = none := f.gh |> fun _ => st1.f.gh.free nD
      have hB : SameL (fr.at G1 H1 H0) H1 := by
        cases fr with
        | g => exact st1.f.gh
        | h => exact SameL.refl _
        | z => exact st1.f.h.l
      -- behind i turns: the list so far and what is still wanted
      refine comp_any (n := xs.length) (fun i H' => ∃ (G' : Hp) (ws : List V) (ys : List β), Same H1 H' ∧ Fr H1 G1 H' G' ∧ G' Dl = none ∧ H' Dl = some (.lst ws) ∧ ws.length ≤ i ∧ reps F.wd G' ws ys ∧
          Post F.W (kO (wd := F.wd)) σ H G Q ((Rs.comp (fun x => mt (push x (s.proj γ))) (fun x => me (push x (s.proj γ))) (xs.drop i)).bind fun zs => .ok (ys ++ zs)))
        ⟨G1, [], [], (Fr.alloc st1.f.gh nD).h, Fr.alloc st1.f.gh nD, gD, upd_same, Nat.le_refl _, trivial, ?_⟩ ?_ ?_
      · cases e3 : Rs.comp (fun x => mt (push x (s.proj γ))) (fun x => me (push x (s.proj γ))) xs with
        | no => rw [List.drop_zero, e3]; rw [e3] at p1; exact p1
        | ex x => rw [List.drop_zero, e3]; rw [e3] at p1; exact p1
        | ok zs => rw [List.drop_zero, e3]; rw [e3] at p1; exact p1
      · rintro i H' hi ⟨G', ws, ys, s1, f1, g1, h1, l1, r1, p2⟩
        obtain ⟨a, ha, hd⟩ := drop_get hi
        rw [hd] at p2
        refine ⟨w.go i H' a (hB.trans s1) ha, fun x H2 hy => ?_⟩
        obtain ⟨G2, f2, r2⟩ := w.yld i H' G' x H2 a (hB.trans s1) f1.g f1.gh ha hy
        have f12 := f1.trans f2
        have stw : Stt F.blk.wd F.blk.n H0 G0 (L2.wipe σ vs) H2 G2 os' c1 (s.proj γ) := by
          have q := st2.ext f12
          exact ⟨⟨by rw [wipe_length]; exact q.len.1, trivial⟩, q.f, q.nd, q.fr, R.wipe hn q.r, q.t⟩
        refine ht stw r2 fun σ3 ew st3 => ⟨ew.trans (wipe_idem σ vs), H0, G0, G2, os', _, st3, ?_⟩
        have p3 : Post F.W (kO (wd := F.wd)) σ H G Q (((mt (push a (s.proj γ))).nox.bind fun b => if b = true then (me (push a (s.proj γ))).nox.bind fun y => (Rs.comp (fun x => mt (push x (s.proj γ))) (fun x => me (push x (s.proj γ))) (xs.drop (i + 1))).bind fun ys => .ok (y :: ys)
            else Rs.comp (fun x => mt (push x (s.proj γ))) (fun x => me (push x (s.proj γ))) (xs.drop (i + 1))).bind fun zs => .ok (ys ++ zs)) := p2
        cases e4 : mt (push a (s.proj γ)) with
        | no => rw [e4] at p3; exact p3
        | ex x => rw [e4] at p3; exact p3.elim
        | ok b =>
          rw [e4] at p3
          intro H3 G3 v3 f3 r3
          refine ⟨b, r3, ?_⟩
          have f13 := f12.trans f3
          have D3 : H3 Dl = some (.lst ws) := (f2.trans f3).h.v h1
          have G3D : G3 Dl = none := (f2.trans f3).out h1 g1
          cases b with
          | false => exact ⟨G3, ws, ys, f13.h, f13, G3D, D3, Nat.le_succ_of_le l1, r1.mono (f2.trans f3).g, p3⟩
          | true =>
            refine ⟨H0, G0, G3, os', _, st3.ext f3, ?_⟩
            have p4 : Post F.W (kO (wd := F.wd)) σ H G Q (((me (push a (s.proj γ))).nox.bind fun y => (Rs.comp (fun x => mt (push x (s.proj γ))) (fun x => me (push x (s.proj γ))) (xs.drop (i + 1))).bind fun ys => .ok (y :: ys)).bind fun zs => .ok (ys ++ zs)) := p3
            cases e5 : me (push a (s.proj γ)) with
            | no => rw [e5] at p4; exact p4
            | ex x => rw [e5] at p4; exact p4.elim
            | ok y =>
              rw [e5] at p4
              intro H4 G4 v4 f4 r4
              have f14 := f13.trans f4
              have D4 : H4 Dl = some (.lst ws) := f4.h.v D3
              have G4D : G4 Dl = none := f4.out D3 G3D
              refine ⟨ws, D4, by rw [sizeLine_eq]; omega, G4, ws ++ [v4], ys ++ [y], Same.upd' f14.h nD, ⟨Same.upd' f14.h nD, f14.g, fun b o q => ?_, f14.new, fun t => tabs_upd (f14.tb t) D4 Pl.lst⟩, G4D, upd_same, by rw [List.length_append]; exact Nat.succ_le_succ l1, (r1.mono ((f2.trans f3).trans f4).g).snoc r4, ?_⟩
              · rw [upd_ne (ne_of_none q G4D)]
                exact f14.gh b o q
              · have p5 : Post F.W (kO (wd := F.wd)) σ H G Q (((Rs.comp (fun x => mt (push x (s.proj γ))) (fun x => me (push x (s.proj γ))) (xs.drop (i + 1))).bind fun ys => .ok (y :: ys)).bind fun zs => .ok (ys ++ zs)) := p4
                cases e6 : Rs.comp (fun x => mt (push x (s.proj γ))) (fun x => me (push x (s.proj γ))) (xs.drop (i + 1)) with
                | no => rw [e6] at p5; exact p5
                | ex x => rw [e6] at p5; exact p5
                | ok zs =>
                  rw [e6] at p5
                  show Post F.W (kO (wd := F.wd)) σ H G Q (.ok ((ys ++ [y]) ++ zs))
                  rw [List.append_assoc]
                  exact p5
      · rintro H' ⟨G', ws, ys, s1, f1, g1, h1, l1, r1, p2⟩
        refine ⟨w.stop _ H' (hB.trans s1) (Nat.le_refl _), ?_⟩
        rw [List.drop_length] at p2
        have p3 : Post F.W (kO (wd := F.wd)) σ H G Q (.ok (ys ++ [])) := p2
        rw [List.append_nil] at p3
        exact p3 H' G' _ (f.trans f1) ⟨Dl, _, rfl, f.h.free nD, g1, h1, ws, rfl, by rw [sizeLine_eq]; omega, r1⟩
    · rw [if_neg hz] at p1
      exact p1.elim
/-- no test -/
theorem pts_yes {X : Cx} {F : Fx} {c : Ctx} : PTs X [] (tQ F.blk c fun _ => .ok true) :=
  ⟨fun pins s σ H Q I h => by
    obtain ⟨H0, G0, G, os, γ, st, p⟩ := h
    obtain ⟨b, e, q⟩ := p H G (.bl true) (Fr.refl st.f.gh) rfl
    cases e
    exact pts_nil.run pins s σ H Q I q⟩
end
end Wm
set_option Elab.async false
set_option linter.all false
set_option maxRecDepth 100000
set_option maxHeartbeats 4000000
namespace Wm
open PySem PySem.Spec PyProof.Rows L2
open Rep (rep)
open Own (own)
variable [TabT]
/-! ### arguments -/
omit [TabT] in
def RA (wd : Wd) (H G : Hp) : Nat → (Γ : Ctx) → Ctx.T Γ → List V → Prop
  | _, [], _, vs => vs = []
  | j, @Ent.fz i α r :: Γ, g, vs => ∃ v vs', vs = v :: vs' ∧ i = j ∧ r.rep wd G v g.1 ∧ RA wd H G (j + 1) Γ g.2 vs'
  | j, @Ent.bo i β r :: Γ, g, vs => ∃ p o vs', vs = .ref p :: vs' ∧ i = j ∧ H p = some o ∧ r.own wd G o g.1 ∧ RA wd H G (j + 1) Γ g.2 vs'
  | _, @Ent.ow _ _ _ :: _, _, _ => False
  | _, @Ent.oo _ _ _ :: _, _, _ => False
  | _, @Ent.sf _ _ _ _ :: _, _, _ => False
omit [TabT] in
theorem RA.len {wd : Wd} {H G : Hp} : ∀ {j : Nat} {Γ : Ctx} {g : Ctx.T Γ} {vs : List V}, RA wd H G j Γ g vs → vs.length = Γ.length
  | _, [], _, vs, h => by rw [show vs = [] from h]; rfl
  | j, @Ent.fz i α r :: Γ, g, vs, h => by
    obtain ⟨v, vs', rfl, _, _, h⟩ := h
    exact congrArg (· + 1) (RA.len h)
  | j, @Ent.bo i α r :: Γ, g, vs, h => by
    obtain ⟨p, o, vs', rfl, _, _, _, h⟩ := h
    exact congrArg (· + 1) (RA.len h)
  | j, @Ent.ow i α r :: Γ, g, vs, h => h.elim
  | j, @Ent.oo i α r :: Γ, g, vs, h => h.elim
  | j, @Ent.sf i α r x :: Γ, g, vs, h => h.elim
omit [TabT] in
theorem RA.ext {wd : Wd} {H G H' G' : Hp} (h : Same H H') (g : Same G G') : ∀ {j : Nat} {Γ : Ctx} {a : Ctx.T Γ} {vs : List V}, RA wd H G j Γ a vs → RA wd H' G' j Γ a vs
  | _, [], _, vs, q => q
  | j, @Ent.fz i α r :: Γ, a, vs, q => by
    obtain ⟨v, vs', e, e2, e3, q⟩ := q
    exact ⟨v, vs', e, e2, r.mono g e3, RA.ext h g q⟩
  | j, @Ent.bo i α r :: Γ, a, vs, q => by
    obtain ⟨p, o, vs', e, e2, e3, e4, q⟩ := q
    exact ⟨p, o, vs', e, e2, h.get e3 (r.pl e4), r.mono g e4, RA.ext h g q⟩
  | j, @Ent.ow i α r :: Γ, a, vs, q => q.elim
  | j, @Ent.oo i α r :: Γ, a, vs, q => q.elim
  | j, @Ent.sf i α r x :: Γ, a, vs, q => q.elim
omit [TabT] in
theorem RA.r {wd : Wd} {H G : Hp} {σ : L2.St} : ∀ {j : Nat} {Γ : Ctx} {a : Ctx.T Γ} {vs : List V}, (∀ k v, vs[k]? = some v → σ[j + k]? = some (some v)) → RA wd H G j Γ a vs → R wd H σ H G Γ a []
  | _, [], _, vs, _, q => rfl
  | j, @Ent.fz i α r :: Γ, a, vs, k, q => by
    obtain ⟨v, vs', e, e2, e3, q⟩ := q
    subst e; subst e2
    exact ⟨⟨v, by have := k 0 v rfl; rwa [Nat.add_zero] at this, e3⟩, RA.r (fun n w hw => by have := k (n + 1) w hw; rwa [Nat.add_comm n 1, ← Nat.add_assoc] at this) q⟩
  | j, @Ent.bo i α r :: Γ, a, vs, k, q => by
    obtain ⟨p, o, vs', e, e2, e3, e4, q⟩ := q
    subst e; subst e2
    exact ⟨⟨p, o, by have := k 0 _ rfl; rwa [Nat.add_zero] at this, e3, e4⟩, RA.r (fun n w hw => by have := k (n + 1) w hw; rwa [Nat.add_comm n 1, ← Nat.add_assoc] at this) q⟩
  | j, @Ent.ow i α r :: Γ, a, vs, k, q => q.elim
  | j, @Ent.oo i α r :: Γ, a, vs, k, q => q.elim
  | j, @Ent.sf i α r x :: Γ, a, vs, k, q => q.elim
/-- lists of values: of arguments, of items -/
def tM (F : Fx) {δ : Type} (rel : Hp → Hp → List V → δ → Prop) (c : Ctx) (m : Ctx.T c → Rs δ) : TA := fun σ H Q => ∃ H0 G0 G os γ, Stt F.wd F.n H0 G0 σ H G os c γ ∧
  match m γ with
  | .ok a => ∀ H' G' vs, Fr H G H' G' → rel H' G' vs a → Q vs H'
  | .ex x => ∀ d H' G', Fr H G H' G' → RepX G' d x → F.W (.ref (F.wd.cm x.cls)) d σ H'
  | .no => False
abbrev tA (F : Fx) (c : Ctx) (j : Nat) (Γ : Ctx) (m : Ctx.T c → Rs (Ctx.T Γ)) : TA := tM F (fun H G vs g => RA F.wd H G j Γ g vs) c m
abbrev tL (F : Fx) {α : Type} [Rep α] (n : Nat) (c : Ctx) (m : Ctx.T c → Rs (List α)) : TA := tM F (fun _ G vs as => vs.length = n ∧ reps F.wd G vs as) c m
section
variable {X : Cx} {F : Fx} {c : Ctx} {α β δ ε ρ : Type} {e : Expr} {es : List Expr}
theorem tM_cons {k : Kd F.wd α} {rel : Hp → Hp → List V → δ → Prop} {rel' : Hp → Hp → List V → ε → Prop} {m : Ctx.T c → Rs α} {ms : Ctx.T c → Rs δ} {f : α → δ → ε} (ok : ∀ {B H' G' : Hp} {v : V} {a : α} {vs : List V} {g : δ}, k.rel B H' G' v a → rel H' G' vs g → rel' H' G' (v :: vs) (f a g))
    {σ : L2.St} {H : Hp} {Q : List V → Hp → Prop} (h : tM F rel' c (fun γ => (m γ).bind fun a => (ms γ).bind fun g => .ok (f a g)) σ H Q) : tX F k c m σ H fun v H1 => tM F rel c ms σ H1 fun vs H2 => Q (v :: vs) H2 := by
  obtain ⟨H0, G0, G, os, γ, st, p⟩ := h
  refine ⟨H0, G0, G, os, γ, st, ?_⟩
  dsimp only at p
  cases e : m γ with
  | no => rw [e] at p; exact p
  | ex x => rw [e] at p; exact p
  | ok a =>
    rw [e] at p
    refine fun H1 G1 v f1 r => ⟨H0, G0, G1, os, γ, st.ext f1, ?_⟩
    dsimp only [Rs.bind] at p
    cases e2 : ms γ with
    | no => rw [e2] at p; exact p
    | ex x => rw [e2] at p; exact fun d H2 G2 s z => p d H2 G2 (f1.trans s) z
    | ok g =>
      rw [e2] at p
      exact fun H2 G2 vs f2 r2 => p H2 G2 (v :: vs) (f1.trans f2) (ok (k.stay r f2) r2)
theorem tM_nil {rel : Hp → Hp → List V → δ → Prop} {g : δ} (ok : ∀ H G, rel H G [] g) : PA X [] (tM F rel c fun _ => .ok g) :=
  pa_mono pa_nil fun σ H Q ⟨H0, G0, G, os, γ, st, p⟩ => p H G [] (Fr.refl st.f.gh) (ok H G)
theorem a_nil {j : Nat} : PA X [] (tA F c j [] fun _ => .ok ()) := tM_nil fun _ _ => rfl
theorem a_cons [Rep α] {j : Nat} {Γ : Ctx} {m : Ctx.T c → Rs α} {ms : Ctx.T c → Rs (Ctx.T Γ)} (h : PE X e (tX F kF c m)) (hs : PA X es (tA F c (j + 1) Γ ms)) (he : starEach (e :: es) X.env = (false, eval e X.env) :: starEach es X.env := by rfl) :
    PA X (e :: es) (tA F c j (.fz j α :: Γ) fun γ => (m γ).bind fun a => (ms γ).bind fun g => .ok (a, g)) :=
  pa_mono (pa_cons h hs he) fun σ H Q q => tM_cons (f := fun a g => (a, g)) (fun r1 r2 => ⟨_, _, rfl, rfl, r1, r2⟩) q
theorem a_consB [Own β] {j : Nat} {Γ : Ctx} {m : Ctx.T c → Rs β} {ms : Ctx.T c → Rs (Ctx.T Γ)} (h : PE X e (tX F kB c m)) (hs : PA X es (tA F c (j + 1) Γ ms)) (he : starEach (e :: es) X.env = (false, eval e X.env) :: starEach es X.env := by rfl) :
    PA X (e :: es) (tA F c j (.bo j β :: Γ) fun γ => (m γ).bind fun a => (ms γ).bind fun g => .ok (a, g)) :=
  pa_mono (pa_cons h hs he) fun σ H Q q => tM_cons (f := fun a g => (a, g)) (fun ⟨p, o, e1, e2, e3⟩ r2 => ⟨p, o, _, by rw [e1], rfl, e2, e3, r2⟩) q
theorem l_nil [Rep α] : PA X [] (tL F (α := α) 0 c fun _ => .ok []) := tM_nil fun _ _ => ⟨rfl, trivial⟩
theorem l_cons [Rep α] {n : Nat} {m : Ctx.T c → Rs α} {ms : Ctx.T c → Rs (List α)} (h : PE X e (tX F kF c m)) (hs : PA X es (tL F n c ms)) (he : starEach (e :: es) X.env = (false, eval e X.env) :: starEach es X.env := by rfl) :
    PA X (e :: es) (tL F (n + 1) c fun γ => (m γ).bind fun a => (ms γ).bind fun g => .ok (a :: g)) :=
  pa_mono (pa_cons h hs he) fun σ H Q q => tM_cons (f := fun a g => a :: g) (fun r1 r2 => ⟨congrArg (· + 1) r2.1, r1, r2.2⟩) q
theorem tM_post {k : Kd F.wd ρ} {rel : Hp → Hp → List V → δ → Prop} {m : Ctx.T c → Rs δ} {f : δ → Rs ρ} {σ : L2.St} {H : Hp} {Q : VK} {Q' : List V → Hp → Prop} (h : tX F k c (fun γ => (m γ).bind f) σ H Q)
    (i : ∀ vs H1 G1 g, SameL G1 H1 → rel H1 G1 vs g → Post F.W k σ H1 G1 Q (f g) → Q' vs H1) : tM F rel c m σ H Q' := by
  obtain ⟨H0, G0, G, os, γ, st, p⟩ := h
  refine ⟨H0, G0, G, os, γ, st, ?_⟩
  dsimp only at p
  cases e : m γ with
  | no => rw [e] at p; exact p
  | ex x => rw [e] at p; exact p
  | ok a =>
    rw [e] at p
    exact fun H1 G1 vs f1 r => i vs H1 G1 a f1.gh r (Post.ext (show Post F.W k σ H G Q (f a) from p) f1)
/-- .. the tables too -/
theorem tM_postT {k : Kd F.wd ρ} {rel : Hp → Hp → List V → δ → Prop} {m : Ctx.T c → Rs δ} {f : δ → Rs ρ} {σ : L2.St} {H : Hp} {Q : VK} {Q' : List V → Hp → Prop} (h : tX F k c (fun γ => (m γ).bind f) σ H Q)
    (i : ∀ vs H1 G1 g, SameL G1 H1 → LamX.Tabs TabT.T H1 → rel H1 G1 vs g → Post F.W k σ H1 G1 Q (f g) → Q' vs H1) : tM F rel c m σ H Q' := by
  obtain ⟨H0, G0, G, os, γ, st, p⟩ := h
  refine ⟨H0, G0, G, os, γ, st, ?_⟩
  dsimp only at p
  cases e : m γ with
  | no => rw [e] at p; exact p
  | ex x => rw [e] at p; exact p
  | ok a =>
    rw [e] at p
    exact fun H1 G1 vs f1 r => i vs H1 G1 a f1.gh (f1.tb (st.f.tb st.t)) r (Post.ext (show Post F.W k σ H G Q (f a) from p) f1)
/-! ### displays -/
omit [TabT] in
theorem small_n {n : Nat} (h : n ≤ 1000) : n ≤ sizeLine := Nat.le_trans h (by decide)
theorem e_lst [Rep α] {n : Nat} {m : Ctx.T c → Rs (List α)} {pos : Pos} (h : PA X es (tL F n c m)) (hn : n ≤ 1000 := by decide) : PE X (.List es pos) (tX F kO c fun γ => (m γ).bind .ok) :=
  pe_mono (pe_lst h) fun σ H Q q => tM_post q fun vs H1 G1 g gh ⟨l, r⟩ p => ⟨by rw [l]; exact small_n hn, fun d nd => p _ _ _ (Fr.alloc gh nd) ⟨d, _, rfl, nd, gh.free nd, upd_same, vs, rfl, by rw [l]; exact small_n hn, r⟩⟩
theorem e_tup [Rep α] {n : Nat} {m : Ctx.T c → Rs (List α)} {pos : Pos} {x1} (h : PA X es (tL F n c m)) (hn : n ≤ 1000 := by decide) : PE X (.Tuple es x1 pos) (tX F kF c fun γ => (m γ).bind fun as => .ok (Tup.mk as)) :=
  pe_mono (pe_tup h) fun σ H Q q => tM_post q fun vs H1 G1 g gh ⟨l, r⟩ p => ⟨by rw [l]; exact small_n hn, fun d nd => p _ _ _ ((Fr.alloc gh nd).freeze nd (gh.free nd) upd_same) ⟨d, _, rfl, upd_same, vs, rfl, by rw [l]; exact small_n hn, r.mono (Same.upd' (Same.refl _) (gh.free nd))⟩⟩
theorem e_pair [Rep α] [Rep β] {a b : Expr} {ma : Ctx.T c → Rs α} {mb : Ctx.T c → Rs β} {pos : Pos} {x1} (ha : PE X a (tX F kF c ma)) (hb : PE X b (tX F kF c mb)) (he : starEach (a :: b :: []) X.env = (false, eval a X.env) :: starEach (b :: []) X.env := by rfl) (he2 : starEach (b :: []) X.env = (false, eval b X.env) :: starEach [] X.env := by rfl) :
    PE X (.Tuple [a, b] x1 pos) (tX F kF c fun γ => (ma γ).bind fun x => (mb γ).bind fun y => .ok (x, y)) :=
  pe_mono (pe_tup (pa_cons ha (pa_cons hb pa_nil he2) he)) fun σ H Q ⟨H0, G0, G, os, γ, st, p⟩ => ⟨H0, G0, G, os, γ, st, p.step kF fun v H1 G1 x f1 r1 p1 => ⟨H0, G0, G1, os, γ, st.ext f1, p1.step kF fun w H2 G2 y f2 r2 p2 => ⟨by show 2 ≤ sizeLine; decide, fun d nd => by
    have s := Same.upd' (o := HO.tup [v, w]) (Same.refl G2) (f2.gh.free nd)
    exact p2 _ _ _ ((Fr.alloc f2.gh nd).freeze nd (f2.gh.free nd) upd_same) ⟨d, _, rfl, upd_same, v, w, rfl, Rep.mono (f2.g.trans s) r1, Rep.mono s r2⟩⟩⟩⟩
theorem e_t3 {γ' : Type} [Rep α] [Rep β] [Rep γ'] {a b d : Expr} {ma : Ctx.T c → Rs α} {mb : Ctx.T c → Rs β} {md : Ctx.T c → Rs γ'} {pos : Pos} {x1} (ha : PE X a (tX F kF c ma)) (hb : PE X b (tX F kF c mb)) (hd : PE X d (tX F kF c md)) (he : starEach (a :: b :: d :: []) X.env = (false, eval a X.env) :: starEach (b :: d :: []) X.env := by rfl) (he2 : starEach (b :: d :: []) X.env = (false, eval b X.env) :: starEach (d :: []) X.env := by rfl) (he3 : starEach (d :: []) X.env = (false, eval d X.env) :: starEach [] X.env := by rfl) :
    PE X (.Tuple [a, b, d] x1 pos) (tX F kF c fun γ => (ma γ).bind fun x => (mb γ).bind fun y => (md γ).bind fun z => .ok (T3.mk x y z)) :=
  pe_mono (pe_tup (pa_cons ha (pa_cons hb (pa_cons hd pa_nil he3) he2) he)) fun σ H Q ⟨H0, G0, G, os, γ, st, p⟩ => ⟨H0, G0, G, os, γ, st, p.step kF fun v H1 G1 x f1 r1 p1 => ⟨H0, G0, G1, os, γ, st.ext f1, p1.step kF fun w H2 G2 y f2 r2 p2 => ⟨H0, G0, G2, os, γ, (st.ext f1).ext f2, p2.step kF fun u H3 G3 z f3 r3 p3 => ⟨by show 3 ≤ sizeLine; decide, fun d nd => by
    have s := Same.upd' (o := HO.tup [v, w, u]) (Same.refl G3) (f3.gh.free nd)
    exact p3 _ _ _ ((Fr.alloc f3.gh nd).freeze nd (f3.gh.free nd) upd_same) ⟨d, _, rfl, upd_same, v, w, u, rfl, Rep.mono ((f2.g.trans f3.g).trans s) r1, Rep.mono (f3.g.trans s) r2, Rep.mono s r3⟩⟩⟩⟩⟩
theorem e_fst [Rep α] [Rep β] {a : Expr} {m : Ctx.T c → Rs (α × β)} {j : Nat} {p2 pos : Pos} (hK : F.wd.K = X.K) (h : PE X a (tX F kF c m)) (hp : PlainIx (.Constant (.int 0) j p2) := by exact fun _ _ => rfl) : PE X (.Subscript a (.Constant (.int 0) j p2) pos) (tX F kF c fun γ => (m γ).bind fun x => .ok x.1) :=
  pe_mono (pe_ix ix_tup h pe_int hp) fun σ H Q ⟨H0, G0, G, os, γ, st, p⟩ => ⟨H0, G0, G, os, γ, st, p.step kF fun v H1 G1 x f1 ⟨q, o, e1, e2, v1, v2, e3, r1, r2⟩ p1 => by
    subst e3
    exact ⟨q, _, 0, v1, e1, rfl, .of (f1.gh.v e2), rfl, p1 _ _ _ (Fr.refl f1.gh) r1⟩⟩
theorem e_snd [Rep α] [Rep β] {a : Expr} {m : Ctx.T c → Rs (α × β)} {j : Nat} {p2 pos : Pos} (hK : F.wd.K = X.K) (h : PE X a (tX F kF c m)) (hp : PlainIx (.Constant (.int 1) j p2) := by exact fun _ _ => rfl) : PE X (.Subscript a (.Constant (.int 1) j p2) pos) (tX F kF c fun γ => (m γ).bind fun x => .ok x.2) :=
  pe_mono (pe_ix ix_tup h pe_int hp) fun σ H Q ⟨H0, G0, G, os, γ, st, p⟩ => ⟨H0, G0, G, os, γ, st, p.step kF fun v H1 G1 x f1 ⟨q, o, e1, e2, v1, v2, e3, r1, r2⟩ p1 => by
    subst e3
    exact ⟨q, _, 1, v2, e1, rfl, .of (f1.gh.v e2), rfl, p1 _ _ _ (Fr.refl f1.gh) r2⟩⟩
/-! ### comprehensions as expressions, as stores -/
theorem e_lc [Rep α] [Rep β] {fr : Bs} {elt tg iter : Expr} {ifs : List Expr} {scope : Scope} {own : List (Str × Nat)} {pos : Pos} {g : TG} {c1 c2 : Ctx} {mL : Ctx.T c → Rs (List α)} {mt : Ctx.T c2 → Rs Bool} {me : Ctx.T c2 → Rs β} {push : α → Ctx.T c1 → Ctx.T c2} (hc : X.calm = true) (hN : X.N.Nodup) (hi : PI X tg iter (tI F fr c mL)) (ok : BlkOk X.N X.env.scope scope own)
    (s : Sub c c1) (hn : Ctx.nots (own.map (·.2)) c1 = true) (ht : TgtC F.blk g (own.map (·.2)) c1 c2 push)
    (hg : ∀ (s : Shared) (H : Hp) (C : Addr) (cl : List (Str × Addr)) (fp : List Addr), PG (X.blk s H scope (compEnvC scope cl C X.env) fp) tg g) (hts : ∀ (s : Shared) (H : Hp) (C : Addr) (cl : List (Str × Addr)) (fp : List Addr), PTs (X.blk s H scope (compEnvC scope cl C X.env) fp) ifs (tQ F.blk c2 mt))
    (he : ∀ (s : Shared) (H : Hp) (C : Addr) (cl : List (Str × Addr)) (fp : List Addr), PE (X.blk s H scope (compEnvC scope cl C X.env) fp) elt (tX F.blk kF c2 me)) (hs : ∀ x, foldedSetIterable iter X.env x = pure x := by intro _; rfl) :
    PE X (.ListComp elt [⟨tg, iter, ifs, 0⟩] scope pos) (tX F kO c fun γ => (mL γ).bind fun xs => if xs.length ≤ 16777216 then Rs.comp (fun x => mt (push x (s.proj γ))) (fun x => me (push x (s.proj γ))) xs else .no) :=
  pe_mono (pe_lc hc hN hi ok hg hts he hs) fun σ H Q h => lc_of s hn ht h
theorem s_lc [Rep α] [Rep β] {fr : Bs} {y : Str} {py spos : Pos} {j : Nat} {elt tg iter : Expr} {ifs : List Expr} {scope : Scope} {own : List (Str × Nat)} {pos : Pos} {g : TG} {c1 c2 c' : Ctx} {mL : Ctx.T c → Rs (List α)} {mt : Ctx.T c2 → Rs Bool} {me : Ctx.T c2 → Rs β} {push : α → Ctx.T c1 → Ctx.T c2} (hc : X.calm = true) (hN : X.N.Nodup)
    (hy : X.N[j]? = some y) (hyl : X.env.scope.names.lookup y = some .local) (hsw : swapsWith (.ListComp elt [⟨tg, iter, ifs, 0⟩] scope pos) (some (.Name y py)) spos.line X.env = pure true) (hi : PI X tg iter (tI F fr c mL)) (ok : BlkOk X.N X.env.scope scope own)
    (s : Sub c c1) (hn : Ctx.nots (own.map (·.2)) c1 = true) (ht : TgtC F.blk g (own.map (·.2)) c1 c2 push)
    (hg : ∀ (s : Shared) (H : Hp) (C : Addr) (cl : List (Str × Addr)) (fp : List Addr), PG (X.blk s H scope (compEnvC scope cl C X.env) fp) tg g) (hts : ∀ (s : Shared) (H : Hp) (C : Addr) (cl : List (Str × Addr)) (fp : List Addr), PTs (X.blk s H scope (compEnvC scope cl C X.env) fp) ifs (tQ F.blk c2 mt))
    (he : ∀ (s : Shared) (H : Hp) (C : Addr) (cl : List (Str × Addr)) (fp : List Addr), PE (X.blk s H scope (compEnvC scope cl C X.env) fp) elt (tX F.blk kF c2 me)) (s' : Sub c c') (hj : F.n.lt j) (hn' : Ctx.not j c' = true) (hs : ∀ x, foldedSetIterable iter X.env x = pure x := by intro _; rfl) :
    PS X (.Assign [.Name y py] (.ListComp elt [⟨tg, iter, ifs, 0⟩] scope pos) spos) (tS F c (.ow j (List β) :: c') fun γ => ((mL γ).bind fun xs => if xs.length ≤ 16777216 then Rs.comp (fun x => mt (push x (s.proj γ))) (fun x => me (push x (s.proj γ))) xs else .no).bind fun a => .ok (a, s'.proj γ)) :=
  s_setTO (m := fun γ => (mL γ).bind fun xs => if xs.length ≤ 16777216 then Rs.comp (fun x => mt (push x (s.proj γ))) (fun x => me (push x (s.proj γ))) xs else .no) (ps_setLc hc hN hy hyl hsw hi ok hg hts he hs) (fun σ H Q h => lc_of s hn ht h) s' hj hn'
/-! ### plain stores -/
theorem s_set [Rep α] {c' : Ctx} {m : Ctx.T c → Rs α} {j : Nat} {x : Str} {pos pos' : Pos} (hN : X.N.Nodup) (h : PE X e (tX F kF c m)) (s : Sub c c') (hj : F.n.lt j) (hn : Ctx.not j c' = true) (hi : X.N[j]? = some x := by rfl) (hx : Loc X.env.scope x := by first | exact .inl rfl | exact .inr rfl) (hs : swapsWith e (some (.Name x pos')) pos.line X.env = pure false := by rfl) (hf : X.fn x = true ∨ X.env.scope.names.lookup x = some .local := by first | exact .inl rfl | exact .inr rfl) :
    PS X (.Assign [.Name x pos'] e pos) (tS F c (.fz j α :: c') fun γ => (m γ).bind fun a => .ok (a, s.proj γ)) := s_setT (ps_set hN hi hx h hs hf) (fun _ _ _ q => q) s hj hn
theorem s_setO [Own β] {c' : Ctx} {m : Ctx.T c → Rs β} {j : Nat} {x : Str} {pos pos' : Pos} (hN : X.N.Nodup) (h : PE X e (tX F kO c m)) (s : Sub c c') (hj : F.n.lt j) (hn : Ctx.not j c' = true) (hi : X.N[j]? = some x := by rfl) (hx : Loc X.env.scope x := by first | exact .inl rfl | exact .inr rfl) (hs : swapsWith e (some (.Name x pos')) pos.line X.env = pure false := by rfl) (hf : X.fn x = true ∨ X.env.scope.names.lookup x = some .local := by first | exact .inl rfl | exact .inr rfl) :
    PS X (.Assign [.Name x pos'] e pos) (tS F c (.ow j β :: c') fun γ => (m γ).bind fun a => .ok (a, s.proj γ)) := s_setTO (ps_set hN hi hx h hs hf) (fun _ _ _ q => q) s hj hn
theorem s_upd [Rep α] {m : Ctx.T c → Rs α} {j : Nat} {x : Str} {pos pos' : Pos} (hN : X.N.Nodup) (h : PE X e (tX F kF c m)) (v : Var c (.fz j α)) (hj : F.n.lt j) (hn : (c.map Ent.slot).Nodup := by decide) (hi : X.N[j]? = some x := by rfl) (hx : Loc X.env.scope x := by first | exact .inl rfl | exact .inr rfl) (hs : swapsWith e (some (.Name x pos')) pos.line X.env = pure false := by rfl) (hf : X.fn x = true ∨ X.env.scope.names.lookup x = some .local := by first | exact .inl rfl | exact .inr rfl) :
    PS X (.Assign [.Name x pos'] e pos) (tS F c c fun γ => (m γ).bind fun a => .ok (v.put γ a)) := s_updT (ps_set hN hi hx h hs hf) (fun _ _ _ q => q) v hj hn
omit [TabT] in
/-- an owned name is given a new object -/
theorem Var.restoreO [Own β] {wd : Wd} {H0 H G : Hp} {σ : L2.St} {i : Nat} {p : Addr} {o : HO} {b : β} : ∀ {c : Ctx} (v : Var c (.ow i β)) {γ : Ctx.T c} {os : List Addr}, (c.map Ent.slot).Nodup → own wd G o b → H p = some o → i < σ.length → p ∉ os → os.Nodup → R wd H0 σ H G c γ os →
    ∃ os', R wd H0 (σ.set i (some (.ref p))) H G c (v.put γ b) os' ∧ os'.Nodup ∧ ∀ q ∈ os', q = p ∨ q ∈ os
  | @Ent.ow _ _ _ :: c, .z, γ, os, nd, w, hp, l, n, no, h => by
    obtain ⟨q, o1, os1, rfl, h1, h2, h3, h4⟩ := h
    refine ⟨p :: os1, ⟨p, o, os1, rfl, List.getElem?_set_self l, hp, w, h4.slots fun e he => List.getElem?_set_ne fun z => (List.nodup_cons.mp nd).1 (by rw [show Ent.slot _ = i from rfl, z]; exact List.mem_map_of_mem he)⟩,
      List.nodup_cons.mpr ⟨fun z => n (List.mem_cons_of_mem _ z), (List.nodup_cons.mp no).2⟩, fun r hr => (List.mem_cons.mp hr).elim .inl fun z => .inr (List.mem_cons_of_mem _ z)⟩
  | @Ent.fz j δ _ :: c, .s v, γ, os, nd, w, hp, l, n, no, h => by
    obtain ⟨os', h1, h2, h3⟩ := Var.restoreO v (List.nodup_cons.mp nd).2 w hp l n no h.2
    obtain ⟨y, e1, e2⟩ := h.1
    exact ⟨os', ⟨⟨y, by rw [List.getElem?_set_ne (show i ≠ j from fun q => (List.nodup_cons.mp nd).1 (by show j ∈ c.map Ent.slot; rw [← q]; exact v.inSlots))]; exact e1, e2⟩, h1⟩, h2, h3⟩
  | @Ent.bo j δ _ :: c, .s v, γ, os, nd, w, hp, l, n, no, h => by
    obtain ⟨os', h1, h2, h3⟩ := Var.restoreO v (List.nodup_cons.mp nd).2 w hp l n no h.2
    obtain ⟨y, o2, e1, e2⟩ := h.1
    exact ⟨os', ⟨⟨y, o2, by rw [List.getElem?_set_ne (show i ≠ j from fun q => (List.nodup_cons.mp nd).1 (by show j ∈ c.map Ent.slot; rw [← q]; exact v.inSlots))]; exact e1, e2⟩, h1⟩, h2, h3⟩
  | @Ent.ow j δ _ :: c, .s v, γ, os, nd, w, hp, l, n, no, h => by
    obtain ⟨q, o1, os1, rfl, h1, h2, h3, h4⟩ := h
    obtain ⟨os', k1, k2, k3⟩ := Var.restoreO v (List.nodup_cons.mp nd).2 w hp l (fun z => n (List.mem_cons_of_mem _ z)) (List.nodup_cons.mp no).2 h4
    refine ⟨q :: os', ⟨q, o1, os', rfl, by rw [List.getElem?_set_ne (show i ≠ j from fun q => (List.nodup_cons.mp nd).1 (by show j ∈ c.map Ent.slot; rw [← q]; exact v.inSlots))]; exact h1, h2, h3, k1⟩, List.nodup_cons.mpr ⟨fun z => ?_, k2⟩, fun r hr => ?_⟩
    · rcases k3 q z with e | e
      · exact n (by rw [e]; exact List.mem_cons_self)
      · exact (List.nodup_cons.mp no).1 e
    · rcases List.mem_cons.mp hr with e | e
      · exact .inr (by rw [e]; exact List.mem_cons_self)
      · exact (k3 r e).elim .inl fun z => .inr (List.mem_cons_of_mem _ z)
  | @Ent.oo j δ _ :: c, .s v, γ, os, nd, w, hp, l, n, no, h => by
    have ne : i ≠ j := fun q => (List.nodup_cons.mp nd).1 (by show j ∈ c.map Ent.slot; rw [← q]; exact v.inSlots)
    rcases h with ⟨e0, h1, h⟩ | ⟨b', q, o1, os1, e0, rfl, h1, h2, h3, h4⟩
    · obtain ⟨os', k1, k2, k3⟩ := Var.restoreO v (List.nodup_cons.mp nd).2 w hp l n no h
      exact ⟨os', .inl ⟨e0, by rw [List.getElem?_set_ne ne]; exact h1, k1⟩, k2, k3⟩
    · obtain ⟨os', k1, k2, k3⟩ := Var.restoreO v (List.nodup_cons.mp nd).2 w hp l (fun z => n (List.mem_cons_of_mem _ z)) (List.nodup_cons.mp no).2 h4
      refine ⟨q :: os', .inr ⟨b', q, o1, os', e0, rfl, by rw [List.getElem?_set_ne ne]; exact h1, h2, h3, k1⟩, List.nodup_cons.mpr ⟨fun z => ?_, k2⟩, fun r hr => ?_⟩
      · rcases k3 q z with e | e
        · exact n (by rw [e]; exact List.mem_cons_self)
        · exact (List.nodup_cons.mp no).1 e
      · rcases List.mem_cons.mp hr with e | e
        · exact .inr (by rw [e]; exact List.mem_cons_self)
        · exact (k3 r e).elim .inl fun z => .inr (List.mem_cons_of_mem _ z)
  | @Ent.sf j δ _ x :: c, .s v, γ, os, nd, w, hp, l, n, no, h => by
    have ne : i ≠ j := fun q => (List.nodup_cons.mp nd).1 (by show j ∈ c.map Ent.slot; rw [← q]; exact v.inSlots)
    obtain ⟨o1, os1, rfl, h1, h2, h3, h4⟩ := h
    obtain ⟨os', k1, k2, k3⟩ := Var.restoreO v (List.nodup_cons.mp nd).2 w hp l (fun z => n (List.mem_cons_of_mem _ z)) (List.nodup_cons.mp no).2 h4
    refine ⟨x :: os', ⟨o1, os', rfl, by rw [List.getElem?_set_ne ne]; exact h1, h2, h3, k1⟩, List.nodup_cons.mpr ⟨fun z => ?_, k2⟩, fun r hr => ?_⟩
    · rcases k3 x z with e | e
      · exact n (by rw [e]; exact List.mem_cons_self)
      · exact (List.nodup_cons.mp no).1 e
    · rcases List.mem_cons.mp hr with e | e
      · exact .inr (by rw [e]; exact List.mem_cons_self)
      · exact (k3 r e).elim .inl fun z => .inr (List.mem_cons_of_mem _ z)
theorem s_updTO [Own β] {st : Stmt} {te : TE} {m : Ctx.T c → Rs β} {j : Nat} (h : PS X st (tAsg te (gName j))) (he : ∀ σ H Q, tX F kO c m σ H Q → te σ H Q) (v : Var c (.ow j β)) (hj : F.n.lt j) (hn : (c.map Ent.slot).Nodup := by decide) : PS X st (tS F c c fun γ => (m γ).bind fun a => .ok (v.put γ a)) :=
  ps_mono h fun D σ H ⟨H0, G0, G, os, γ, st, p⟩ => he _ _ _ ⟨H0, G0, G, os, γ, st, p.step st kO fun x H1 G1 a fr ⟨q, o, ev, n, g, hq, w⟩ p1 => by
    have s := st.ext fr
    subst ev
    have nq : q ∉ os := fun z => by
      obtain ⟨o2, h2, _⟩ := st.r.there q z
      rw [n] at h2
      cases h2
    obtain ⟨os', k1, k2, k3⟩ := Var.restoreO v hn w hq (by rw [s.len.1]; exact hj.1) nq s.nd s.r
    exact p1 _ _ _ _ ⟨s.len.set hj, s.f, k2, fun r hr => by
      rcases k3 r hr with e | e
      · rw [e]; exact ⟨g, st.f.h.free n⟩
      · exact s.fr r e, k1, s.t⟩⟩
theorem s_updO [Own β] {m : Ctx.T c → Rs β} {j : Nat} {x : Str} {pos pos' : Pos} (hN : X.N.Nodup) (h : PE X e (tX F kO c m)) (v : Var c (.ow j β)) (hj : F.n.lt j) (hn : (c.map Ent.slot).Nodup := by decide) (hi : X.N[j]? = some x := by rfl) (hx : Loc X.env.scope x := by first | exact .inl rfl | exact .inr rfl) (hs : swapsWith e (some (.Name x pos')) pos.line X.env = pure false := by rfl) (hf : X.fn x = true ∨ X.env.scope.names.lookup x = some .local := by first | exact .inl rfl | exact .inr rfl) :
    PS X (.Assign [.Name x pos'] e pos) (tS F c c fun γ => (m γ).bind fun a => .ok (v.put γ a)) := s_updTO (ps_set hN hi hx h hs hf) (fun _ _ _ q => q) v hj hn
theorem s_lcU [Rep α] [Rep β] {fr : Bs} {y : Str} {py spos : Pos} {j : Nat} {elt tg iter : Expr} {ifs : List Expr} {scope : Scope} {own : List (Str × Nat)} {pos : Pos} {g : TG} {c1 c2 : Ctx} {mL : Ctx.T c → Rs (List α)} {mt : Ctx.T c2 → Rs Bool} {me : Ctx.T c2 → Rs β} {push : α → Ctx.T c1 → Ctx.T c2} (hc : X.calm = true) (hN : X.N.Nodup)
    (hy : X.N[j]? = some y) (hyl : X.env.scope.names.lookup y = some .local) (hsw : swapsWith (.ListComp elt [⟨tg, iter, ifs, 0⟩] scope pos) (some (.Name y py)) spos.line X.env = pure true) (hi : PI X tg iter (tI F fr c mL)) (ok : BlkOk X.N X.env.scope scope own)
    (s : Sub c c1) (hn : Ctx.nots (own.map (·.2)) c1 = true) (ht : TgtC F.blk g (own.map (·.2)) c1 c2 push)
    (hg : ∀ (s : Shared) (H : Hp) (C : Addr) (cl : List (Str × Addr)) (fp : List Addr), PG (X.blk s H scope (compEnvC scope cl C X.env) fp) tg g) (hts : ∀ (s : Shared) (H : Hp) (C : Addr) (cl : List (Str × Addr)) (fp : List Addr), PTs (X.blk s H scope (compEnvC scope cl C X.env) fp) ifs (tQ F.blk c2 mt))
    (he : ∀ (s : Shared) (H : Hp) (C : Addr) (cl : List (Str × Addr)) (fp : List Addr), PE (X.blk s H scope (compEnvC scope cl C X.env) fp) elt (tX F.blk kF c2 me)) (v : Var c (.ow j (List β))) (hj : F.n.lt j) (hn' : (c.map Ent.slot).Nodup := by decide) (hs : ∀ x, foldedSetIterable iter X.env x = pure x := by intro _; rfl) :
    PS X (.Assign [.Name y py] (.ListComp elt [⟨tg, iter, ifs, 0⟩] scope pos) spos) (tS F c c fun γ => ((mL γ).bind fun xs => if xs.length ≤ 16777216 then Rs.comp (fun x => mt (push x (s.proj γ))) (fun x => me (push x (s.proj γ))) xs else .no).bind fun a => .ok (v.put γ a)) :=
  s_updTO (m := fun γ => (mL γ).bind fun xs => if xs.length ≤ 16777216 then Rs.comp (fun x => mt (push x (s.proj γ))) (fun x => me (push x (s.proj γ))) xs else .no) (ps_setLc hc hN hy hyl hsw hi ok hg hts he hs) (fun σ H Q h => lc_of s hn ht h) v hj hn'
/-- an expression whose value is dropped -/
theorem s_expr {k : Kd F.wd α} {m : Ctx.T c → Rs α} {pos : Pos} (h : PE X e (tX F k c m)) (hs : swapsWith e none pos.line X.env = pure false := by rfl) : PS X (.Expr e pos) (tS F c c fun γ => (m γ).bind fun _ => .ok γ) :=
  ps_mono (ps_expr h hs) fun D σ H ⟨H0, G0, G, os, γ, st, p⟩ => ⟨H0, G0, G, os, γ, st, p.step st k fun v H1 G1 a f1 r p1 => p1 _ _ _ _ (st.ext f1)⟩
/-- what is never come to -/
theorem b_never {kr : Kd F.wd ρ} {sts : List Stmt} : PSs X sts (tT F kr c fun _ => .no) := pss_mono pss_never fun D σ H ⟨H0, G0, G, os, γ, st, p⟩ => p
theorem b_neverG {kr : Kd F.wd ρ} {c' : Ctx} {sts : List Stmt} : PSs X sts (tG F kr c c' fun _ => .no) := pss_mono pss_never fun D σ H ⟨H0, G0, G, os, γ, st, p⟩ => p
theorem b_neverS {c' : Ctx} {sts : List Stmt} : PSs X sts (tS F c c' fun _ => .no) := pss_mono pss_never fun D σ H ⟨H0, G0, G, os, γ, st, p⟩ => p
/-- a store to any target -/
theorem s_asgG [Rep α] {c1 c' : Ctx} {st : Stmt} {g : TG} {m : Ctx.T c → Rs α} {push : α → Ctx.T c' → Ctx.T c1} (h : PS X st (tAsg (tX F kF c m) g)) (s : Sub c c') (ht : TgtOk F g c' c1 push) : PS X st (tS F c c1 fun γ => (m γ).bind fun a => .ok (push a (s.proj γ))) :=
  ps_mono h fun D σ H ⟨H0, G0, G, os, γ, st, p⟩ => ⟨H0, G0, G, os, γ, st, p.step st kF fun v H1 G1 a f1 r p1 => by
    obtain ⟨os', _, q⟩ := (st.ext f1).sub s
    exact ht q r fun σ' st' => p1 _ _ _ _ st'⟩
/-! ### changes of an owned list -/
theorem Stt.write [Own β] {wd : Wd} {n : Sl} {H0 G0 H G : Hp} {σ : L2.St} {os : List Addr} {γ : Ctx.T c} {i : Nat} (v : Var c (.ow i β)) (st : Stt wd n H0 G0 σ H G os c γ) : ∃ p o, σ[i]? = some (some (.ref p)) ∧ H p = some o ∧ own wd G o (v.get γ) ∧
    ∀ o' b, own wd G o' b → Stt wd n H0 G0 σ (upd H p o') G os c (v.put γ b) := by
  obtain ⟨p, o, h1, h2, h3, h4, h5⟩ := v.write st.nd st.r
  obtain ⟨gp, hp⟩ := st.fr p h1
  exact ⟨p, o, h2, h3, h4, fun o' b w => ⟨st.len, ⟨Same.upd' st.f.h hp, st.f.g, fun a u q => by rw [upd_ne (ne_of_none q gp)]; exact st.f.gh a u q, st.f.new, fun t => tabs_upd (st.f.tb t) h3 (Own.pl h4)⟩, st.nd, st.fr, h5 o' b w, st.t⟩⟩
omit [TabT] in
def setI (xs : List α) (k : Int) (a : α) : Rs (List α) := match ixN xs.length k with
  | some j => .ok (xs.set j a)
  | none => .no
omit [TabT] in
def appI (xs : List α) (a : α) : Rs (List α) := if xs.length < 16777216 then .ok (xs ++ [a]) else .no
theorem s_store [Rep α] {j : Nat} {i : Expr} {m : Ctx.T c → Rs α} {mi : Ctx.T c → Rs Int} {x : Str} {p1 p2 pos : Pos} (v : Var c (.ow j (List α))) (h : PE X e (tX F kF c m)) (hi : PE X i (tX F kF c mi)) (hN : X.N[j]? = some x := by rfl) (hv : Vis X.env.scope x := by first | exact Or.inl rfl | exact Or.inr (Or.inl rfl) | exact Or.inr (Or.inr rfl))
    (hd : (x == ("__debug__" : Str)) = false := by decide) (hcd : (x == ("__classdict__" : Str)) = false := by decide)
    (ha : ∀ v, assign (.Subscript (.Name x p1) i p2) X.env v = (do let ov ← holding [v] (eval (.Name x p1) X.env); let iv ← holding [v, ov] (eval i X.env); standAt p2; holding [v, ov, iv] (setItem ov iv v); release [v, ov, iv] []) := by intro _; rfl)
    (hs : swapsWithSole [.Subscript (.Name x p1) i p2] e pos.line X.env = pure false := by rfl) (hw : swappedStores [.Subscript (.Name x p1) i p2] e X.env = pure none := by rfl) (h1 : (assignEach [.Subscript (.Name x p1) i p2] X.env).map (·.2) = [assign (.Subscript (.Name x p1) i p2) X.env] := by rfl) :
    PS X (.Assign [.Subscript (.Name x p1) i p2] e pos) (tS F c c fun γ => (m γ).bind fun a => (mi γ).bind fun k => (setI (v.get γ) k a).bind fun ys => .ok (v.put γ ys)) :=
  ps_mono (ps_asg h (pg_sub (pe_var hN hv hd hcd) hi set_list ha) hs hw h1) fun D σ H ⟨H0, G0, G, os, γ, st, p⟩ => ⟨H0, G0, G, os, γ, st, p.step st kF fun va H1 G1 a f1 r1 p1 => by
    have st1 := st.ext f1
    obtain ⟨q, o, e1, e2, e3, e4⟩ := st1.write v
    refine ⟨.ref q, e1, H0, G0, G1, os, γ, st1, p1.step st1 kF fun vk H2 G2 k f2 r2 p2 => ?_⟩
    have st2 := st1.ext f2
    obtain ⟨q2, o2, d1, d2, ⟨vs, d3, d5, d6⟩, d4⟩ := st2.write v
    subst d3
    have eq : q2 = q := by rw [e1] at d1; injection d1 with d1; injection d1 with d1; injection d1 with d1; exact d1.symm
    subst eq
    have p3 : PostN F H0 G0 c D ((setI (v.get γ) k a).bind fun ys => .ok (v.put γ ys)) := p2
    unfold setI at p3
    cases ei : ixN (v.get γ).length k with
    | none => rw [ei] at p3; exact p3.elim
    | some j' =>
      rw [ei] at p3
      exact ⟨q2, vs, k, j', rfl, r2, d2, by rw [d6.len]; exact ei, p3 _ _ _ _ (d4 _ _ ⟨_, rfl, by rw [List.length_set]; exact d5, d6.set j' (Rep.mono f2.g r1)⟩)⟩⟩
theorem s_append [Rep α] {j : Nat} {m : Ctx.T c → Rs α} {x : Str} {p1 apos cpos pos : Pos} (v : Var c (.ow j (List α))) (h : PE X e (tX F kF c m)) (hN : X.N[j]? = some x := by rfl) (hv : Vis X.env.scope x := by first | exact Or.inl rfl | exact Or.inr (Or.inl rfl) | exact Or.inr (Or.inr rfl))
    (hd : (x == ("__debug__" : Str)) = false := by decide) (hcd : (x == ("__classdict__" : Str)) = false := by decide) (he : starEach (e :: []) X.env = (false, eval e X.env) :: starEach [] X.env := by rfl)
    (hbase : attributeBase (.Name x p1) "append" X.env (eval (.Name x p1) X.env) = eval (.Name x p1) X.env := by rfl)
    (hfew : ((backTo cpos (starEach (e :: []) X.env)).all (fun x => !x.1) && (backToKw cpos (keywordEach [] X.env)).all (fun x => x.1.isSome) && decide ((e :: []).length + ([] : List Keyword).length + (if ([] : List Keyword).isEmpty then 0 else 1) < 30)) = true := by rfl)
    (hline : (apos.endLine == cpos.line) = true := by rfl) (hplain : (backTo cpos (starEach [] X.env)).any (·.1) = false := by rfl) (hs : swapsWith (.Call (.Attribute (.Name x p1) "append" apos) [e] [] cpos) none pos.line X.env = pure false := by rfl) :
    PS X (.Expr (.Call (.Attribute (.Name x p1) "append" apos) [e] [] cpos) pos) (tS F c c fun γ => (m γ).bind fun a => (appI (v.get γ) a).bind fun ys => .ok (v.put γ ys)) :=
  ps_mono (ps_expr (pe_bm PySem.F.plainAttrs_list PySem.F.slot_list_append PySem.F.type_list_append mt_append (pe_var hN hv hd hcd) (pa_cons h pa_nil he) hbase hfew hline he hplain) hs) fun D σ H ⟨H0, G0, G, os, γ, st, p⟩ => by
    obtain ⟨q, o, e1, e2, ⟨vs, e3, e5, e6⟩, e4⟩ := st.write v
    subst e3
    refine ⟨.ref q, e1, .inl ⟨rfl, _, .of e2⟩, H0, G0, G, os, γ, st, p.step st kF fun va H1 G1 a f1 r1 p1 => ?_⟩
    have st1 := st.ext f1
    obtain ⟨q2, o2, d1, d2, ⟨vs2, d3, d5, d6⟩, d4⟩ := st1.write v
    subst d3
    have eq : q2 = q := by rw [e1] at d1; injection d1 with d1; injection d1 with d1; injection d1 with d1; exact d1.symm
    subst eq
    have p3 : PostN F H0 G0 c D ((appI (v.get γ) a).bind fun ys => .ok (v.put γ ys)) := p1
    unfold appI at p3
    by_cases hl : (v.get γ).length < 16777216
    · rw [if_pos hl] at p3
      exact ⟨q2, vs2, va, rfl, rfl, d2, by rw [d6.len, sizeLine_eq]; exact hl, p3 _ _ _ _ (d4 _ _ ⟨_, rfl, by rw [List.length_append, d6.len, sizeLine_eq]; exact hl, d6.snoc r1⟩)⟩
    · rw [if_neg hl] at p3
      exact p3.elim
end
/-! ### what a def promises, its call -/
def spF (wd : Wd) {ρ : Type} (k : Kd wd ρ) (Γ : Ctx) (m : Ctx.T Γ → Rs ρ) : Sp := fun vs H Q E => vs.length = Γ.length ∧ ∃ G γ, SameL G H ∧ LamX.Tabs TabT.T H ∧ RA wd H G 0 Γ γ vs ∧
  match m γ with
  | .ok r => ∀ H' G' v, Fr H G H' G' → k.rel H H' G' v r → Q v H'
  | .ex x => ∀ d H' G', Fr H G H' G' → RepX G' d x → E (.ref (wd.cm x.cls)) d H'
  | .no => False
section
variable {P : Program} {w : World} {K : PySem.W.Frag} {mg : Str → Option Value} {base : Heap}
omit [TabT] in
theorem start_get {N : List Str} {vs : List V} {k : Nat} {v : V} (h : vs[k]? = some v) : (L2.start N vs)[0 + k]? = some (some v) := by
  unfold L2.start
  rw [Nat.zero_add, List.getElem?_append_left (by rw [List.length_map]; exact (List.getElem?_eq_some_iff.mp h).1), List.getElem?_map, h]
  rfl
theorem fn_ok {ρ : Type} {wd : Wd} {kr : Kd wd ρ} {Γ : Ctx} {m : Ctx.T Γ → Rs ρ} {x qual : Str} {st : Stmt} {f : Addr} {fd : FuncData} {N ps : List Str} {k : Nat} (F : Fun K x qual st f fd) (S : FnScope N ps (defScope st)) (hl : Γ.length = ps.length)
    (body : ∀ (cdv : Value) (A : Around) (outer : List Env) (s : Shared) (H : Hp) (E : XK), Room k (A.deeper (envOfC qual (defScope st) s.heap.objs.size f cdv)) →
      PSs (cxOf (L2N.CX P w) P w K mg base N qual (defScope st) f cdv A outer s H E) (defBody st) (tT ⟨wd, Sl.all N.length, fun cls d _ H => E cls d H⟩ kr Γ m)) : FnOk P w K mg base (L2N.CX P w) (k + 1) f fd ps (spF wd kr Γ m) := by
  have hpl : ps.length ≤ N.length := by have := congrArg List.length S.pre; rw [List.length_take] at this; omega
  refine okN F S (fun vs H Q E h => h.1.trans hl) (fun cdv A outer s H vs Q E hr h => ⟨_, body cdv A outer s H E hr, ?_⟩)
  obtain ⟨h1, G, γ, gh, tb, ra, p⟩ := h
  refine ⟨H, G, G, [], γ, ⟨?_, Fr.refl gh, List.nodup_nil, fun _ z => (by cases z), RA.r (fun k v e => start_get e) ra, tb⟩, ?_⟩
  · refine ⟨?_, trivial⟩
    show _ = N.length
    unfold L2.start
    rw [List.length_append, List.length_map, List.length_replicate]
    omega
  · cases e : m γ with
    | no => rw [e] at p; exact p
    | ex x => rw [e] at p; exact fun d σ H' G' _ => p d H' G'
    | ok r => rw [e] at p; exact fun H' G' v f q => p H' G' v f q
/-- .. whose body only falls off its end -/
theorem fn_okN {wd : Wd} {Γ c' : Ctx} {m : Ctx.T Γ → Rs (Ctx.T c')} {x qual : Str} {st : Stmt} {f : Addr} {fd : FuncData} {N ps : List Str} {k : Nat} (F : Fun K x qual st f fd) (S : FnScope N ps (defScope st)) (hl : Γ.length = ps.length)
    (body : ∀ (cdv : Value) (A : Around) (outer : List Env) (s : Shared) (H : Hp) (E : XK), Room k (A.deeper (envOfC qual (defScope st) s.heap.objs.size f cdv)) →
      PSs (cxOf (L2N.CX P w) P w K mg base N qual (defScope st) f cdv A outer s H E) (defBody st) (tS ⟨wd, Sl.all N.length, fun cls d _ H => E cls d H⟩ Γ c' m)) : FnOk P w K mg base (L2N.CX P w) (k + 1) f fd ps (spF wd (kF (α := Unit)) Γ fun γ => (m γ).bind fun _ => .ok ()) := by
  have hpl : ps.length ≤ N.length := by have := congrArg List.length S.pre; rw [List.length_take] at this; omega
  refine okN F S (fun vs H Q E h => h.1.trans hl) (fun cdv A outer s H vs Q E hr h => ⟨_, body cdv A outer s H E hr, ?_⟩)
  obtain ⟨h1, G, γ, gh, tb, ra, p⟩ := h
  refine ⟨H, G, G, [], γ, ⟨?_, Fr.refl gh, List.nodup_nil, fun _ z => (by cases z), RA.r (fun k v e => start_get e) ra, tb⟩, ?_⟩
  · refine ⟨?_, trivial⟩
    show _ = N.length
    unfold L2.start
    rw [List.length_append, List.length_map, List.length_replicate]
    omega
  · dsimp only at p
    cases e : m γ with
    | no => rw [e] at p; exact p
    | ex x => rw [e] at p; exact fun d σ H' G' _ => p d H' G'
    | ok r => rw [e] at p; exact fun σ' H' G' os st => p H' G' .non st.f rfl
end
section
variable {X : Cx} {F : Fx} {c : Ctx} {α β δ ρ : Type} {e : Expr} {es : List Expr}
theorem sp_of {kr : Kd F.wd ρ} {Γ : Ctx} {m : Ctx.T Γ → Rs ρ} {ma : Ctx.T c → Rs (Ctx.T Γ)} {σ : L2.St} {H : Hp} {Q : VK} (h : tX F kr c (fun γ => (ma γ).bind m) σ H Q) : tA F c 0 Γ ma σ H fun vs H1 => spF F.wd kr Γ m vs H1 Q (WE F.W σ) :=
  tM_postT h fun vs H1 G1 g gh tb r p => ⟨r.len, G1, g, gh, tb, r, by
    cases e : m g with
    | no => rw [e] at p; exact p
    | ex x => rw [e] at p; exact p
    | ok z => rw [e] at p; exact p⟩
theorem e_call {kr : Kd F.wd ρ} {Γ : Ctx} {m : Ctx.T Γ → Rs ρ} {ma : Ctx.T c → Rs (Ctx.T Γ)} {x : Str} {p pos : Pos} {f : Addr} {fd : FuncData} {ps : List Str} {k : Nat} (tk : L2N.Takes X F.W) (Fn : FnOk X.prog X.w X.K X.mg X.base (L2N.CX X.prog X.w) k f fd ps (spF F.wd kr Γ m)) (hr : Room k X.A) (hm : X.mg x = some (.ref f)) (hk : PySem.W.keepIn X.K (.ref f) = true) (hb : Binds X.K fd ps [])
    (ha : PA X (e :: es) (tA F c 0 Γ ma)) (hg : Gl X x := by rfl) (hdb : (x == ("__debug__" : Str)) = false := by decide) (he : starEach (e :: es) X.env = (false, eval e X.env) :: starEach es X.env := by rfl) (hpl : (backTo pos (starEach es X.env)).any (·.1) = false := by rfl) :
    PE X (.Call (.Name x p) (e :: es) [] pos) (tX F kr c fun γ => (ma γ).bind m) :=
  pe_mono (pe_callS Fn hr hg hm hk hb (fun σ => L2N.passAt tk σ) ha hdb he hpl) fun σ H Q h => sp_of h
end
end Wm
set_option Elab.async false
set_option linter.all false
set_option maxRecDepth 100000
set_option maxHeartbeats 4000000
namespace Wm
open PySem PySem.Spec PyProof.Rows L2
open Rep (rep)
open Own (own)
variable [TabT]
/-! ### texts -/
omit [TabT] in
theorem Str.len_toList (a : Str) : a.length = a.cps.toList.length := by simp [Str.length]
omit [TabT] in
theorem SOk.len {a : Str} (h : SOk a) : a.length ≤ sizeLine := by rw [Str.len_toList, sizeLine_eq]; exact h.1
omit [TabT] in
theorem SOk.strOk {a : Str} (h : SOk a) : PyData.strOk a = true := by
  unfold PyData.strOk
  rw [Array.all_eq_true']
  intro c hc
  exact decide_eq_true (h.2 c (by simpa using hc))
/-! ### == by data -/
class PyEq (α : Type) [Rep α] [DecidableEq α] where
  d : α → PyData
  dep : Nat
  dp : ∀ {wd : Wd} {K : PySem.W.Frag} {H G : Hp} {v : V} {a : α}, SameL G H → rep wd G v a → Dp K H v (d a)
  lay : ∀ {wd : Wd} {G : Hp} {v : V} {a : α}, rep wd G v a → (d a).canLay0 = true
  depth : ∀ a, (d a).depth ≤ dep
  eqv : ∀ a b, PyData.eqv (d a) (d b) = decide (a = b)
omit [TabT] in
instance : PyEq Int where
  d := .int
  dep := 0
  dp := fun _ h => by rw [show _ = V.int _ from h]; exact .int _
  lay := fun _ => by unfold PyData.canLay0; rfl
  depth := fun a => by unfold PyData.depth; exact Nat.le_refl _
  eqv := fun a b => by unfold PyData.eqv; rw [Bool.beq_eq_decide_eq]
omit [TabT] in
instance : PyEq Bool where
  d := .bool
  dep := 0
  dp := fun _ h => by rw [show _ = V.bl _ from h]; exact .bl _
  lay := fun _ => by unfold PyData.canLay0; rfl
  depth := fun a => by unfold PyData.depth; exact Nat.le_refl _
  eqv := fun a b => by unfold PyData.eqv; rw [Bool.beq_eq_decide_eq]
omit [TabT] in
instance : PyEq Str where
  d := .str
  dep := 0
  dp := fun _ h => by rw [show _ = V.str _ from h.1]; exact .str _
  lay := fun h => by unfold PyData.canLay0; exact h.2.strOk
  depth := fun a => by unfold PyData.depth; exact Nat.le_refl _
  eqv := fun a b => by unfold PyData.eqv; rfl
section
variable {α β : Type} [Rep α] [DecidableEq α] [PyEq α] [Rep β] [DecidableEq β] [PyEq β]
omit [TabT] in
theorem dpAll {wd : Wd} {K : PySem.W.Frag} {H G : Hp} (s : SameL G H) : ∀ {vs : List V} {as : List α}, reps wd G vs as → DpAll K H vs (as.map PyEq.d)
  | [], [], _ => .nil
  | _ :: _, _ :: _, ⟨h, t⟩ => .cons (PyEq.dp s h) (dpAll s t)
  | [], _ :: _, h => h.elim
  | _ :: _, [], h => h.elim
omit [TabT] in
theorem layAll {wd : Wd} {G : Hp} : ∀ {vs : List V} {as : List α}, reps wd G vs as → PyData.canLayAll0 (as.map PyEq.d) = true
  | [], [], _ => by unfold PyData.canLayAll0; rfl
  | _ :: _, _ :: _, ⟨h, t⟩ => by
    show PyData.canLayAll0 (PyEq.d _ :: _) = true
    unfold PyData.canLayAll0
    rw [PyEq.lay h, layAll t]
    rfl
  | [], _ :: _, h => h.elim
  | _ :: _, [], h => h.elim
omit [TabT] in
theorem depthAll_le : ∀ as : List α, PyData.depthAll (as.map PyEq.d) ≤ PyEq.dep α
  | [] => by show PyData.depthAll [] ≤ _; unfold PyData.depthAll; exact Nat.zero_le _
  | a :: as => by
    show PyData.depthAll (PyEq.d a :: as.map PyEq.d) ≤ _
    unfold PyData.depthAll
    exact Nat.max_le.mpr ⟨PyEq.depth a, depthAll_le as⟩
omit [TabT] in
theorem eqvAll_of : ∀ as bs : List α, PyData.eqvAll (as.map PyEq.d) (bs.map PyEq.d) = decide (as = bs)
  | [], [] => by show PyData.eqvAll [] [] = _; unfold PyData.eqvAll; rfl
  | [], b :: bs => by show PyData.eqvAll [] (_ :: _) = _; unfold PyData.eqvAll; rfl
  | a :: as, [] => by show PyData.eqvAll (_ :: _) [] = _; unfold PyData.eqvAll; rfl
  | a :: as, b :: bs => by
    show PyData.eqvAll (PyEq.d a :: as.map PyEq.d) (PyEq.d b :: bs.map PyEq.d) = _
    unfold PyData.eqvAll
    rw [PyEq.eqv, eqvAll_of as bs]
    by_cases h1 : a = b
    · by_cases h2 : as = bs
      · rw [decide_eq_true h1, decide_eq_true h2, decide_eq_true (by rw [h1, h2])]; rfl
      · rw [decide_eq_true h1, decide_eq_false h2, decide_eq_false fun z => h2 (List.cons.inj z).2]; rfl
    · rw [decide_eq_false h1, decide_eq_false fun z => h1 (List.cons.inj z).1]; rfl
omit [TabT] in
instance : PyEq (List α) where
  d := fun as => .list (as.map PyEq.d)
  dep := PyEq.dep α + 1
  dp := fun s ⟨p, o, e1, e2, vs, e3, e4, r⟩ => by
    subst e1; subst e3
    exact .lst (.of (s.v e2)) (dpAll s r)
  lay := fun ⟨p, o, e1, e2, vs, e3, e4, r⟩ => by unfold PyData.canLay0; exact layAll r
  depth := fun as => by unfold PyData.depth; exact Nat.succ_le_succ (depthAll_le as)
  eqv := fun as bs => by unfold PyData.eqv; exact eqvAll_of as bs
omit [TabT] in
instance {α : Type} [DecidableEq α] : DecidableEq (Tup α) := fun a b => if h : a.items = b.items then .isTrue (by cases a; cases b; congr) else .isFalse fun z => h (by rw [z])
omit [TabT] in
instance : PyEq (Tup α) where
  d := fun as => .tuple (as.items.map PyEq.d)
  dep := PyEq.dep α + 1
  dp := fun s ⟨p, o, e1, e2, vs, e3, e4, r⟩ => by
    subst e1; subst e3
    exact .tup (.of (s.v e2)) (dpAll s r)
  lay := fun ⟨p, o, e1, e2, vs, e3, e4, r⟩ => by unfold PyData.canLay0; exact layAll r
  depth := fun as => by unfold PyData.depth; exact Nat.succ_le_succ (depthAll_le as.items)
  eqv := fun as bs => by
    unfold PyData.eqv
    rw [eqvAll_of]
    by_cases h : as.items = bs.items
    · rw [decide_eq_true h, decide_eq_true (by cases as; cases bs; congr)]
    · rw [decide_eq_false h, decide_eq_false fun z => h (by rw [z])]
omit [TabT] in
instance : PyEq (α × β) where
  d := fun x => .tuple [PyEq.d x.1, PyEq.d x.2]
  dep := max (PyEq.dep α) (PyEq.dep β) + 1
  dp := fun s ⟨p, o, e1, e2, v, w, e3, r1, r2⟩ => by
    subst e1; subst e3
    exact .tup (.of (s.v e2)) (.cons (PyEq.dp s r1) (.cons (PyEq.dp s r2) .nil))
  lay := fun ⟨p, o, e1, e2, v, w, e3, r1, r2⟩ => by
    unfold PyData.canLay0 PyData.canLayAll0 PyData.canLayAll0 PyData.canLayAll0
    rw [PyEq.lay r1, PyEq.lay r2]; rfl
  depth := fun x => by
    unfold PyData.depth PyData.depthAll PyData.depthAll PyData.depthAll
    have h1 := PyEq.depth x.1
    have h2 := PyEq.depth x.2
    omega
  eqv := fun x y => by
    unfold PyData.eqv PyData.eqvAll PyData.eqvAll PyData.eqvAll
    rw [PyEq.eqv, PyEq.eqv]
    obtain ⟨a, b⟩ := x
    obtain ⟨a', b'⟩ := y
    by_cases h1 : a = a'
    · by_cases h2 : b = b'
      · rw [decide_eq_true h1, decide_eq_true h2, decide_eq_true (by rw [h1, h2])]; rfl
      · rw [decide_eq_true h1, decide_eq_false h2, decide_eq_false fun z => h2 (Prod.mk.inj z).2]; rfl
    · rw [decide_eq_false h1, decide_eq_false fun z => h1 (Prod.mk.inj z).1]; rfl
omit [TabT] in
theorem shaped_of {wd : Wd} {G : Hp} {v : V} {a : α} (h : rep wd G v a) (hd : PyEq.dep α ≤ 64) : SeqAt.shaped (PyEq.d a) = true := by
  unfold SeqAt.shaped
  rw [PyEq.lay h, decide_eq_true (Nat.le_trans (PyEq.depth a) hd)]
  rfl
theorem m_eqD {wd : Wd} {K : PySem.W.Frag} (hd : PyEq.dep α ≤ 64 := by decide) : Sem2 (wd := wd) (α := α) (β := α) kF kF kF (rEqD K) (fun a b => .ok (decide (a = b))) := by
  intro W σ B1 B2 H G x y a b Q gh hx hy p
  refine ⟨_, _, PyEq.dp gh hx, PyEq.dp gh hy, shaped_of hx hd, shaped_of hy hd, ?_⟩
  rw [PyEq.eqv]
  exact p H G _ (Fr.refl gh) rfl
theorem m_neD {wd : Wd} {K : PySem.W.Frag} (hd : PyEq.dep α ≤ 64 := by decide) : Sem2 (wd := wd) (α := α) (β := α) kF kF kF (rNeD K) (fun a b => .ok (!decide (a = b))) := by
  intro W σ B1 B2 H G x y a b Q gh hx hy p
  refine ⟨_, _, PyEq.dp gh hx, PyEq.dp gh hy, shaped_of hx hd, shaped_of hy hd, ?_⟩
  rw [PyEq.eqv]
  exact p H G _ (Fr.refl gh) rfl
/-- lists that are only read: the cells in the heap, the items frozen -/
theorem dpB {wd : Wd} {K : PySem.W.Frag} {B H G : Hp} {v : V} {as : List α} (s : SameL G H) (h : (kB (wd := wd)).rel B H G v as) : Dp K H v (PyEq.d as) ∧ (PyEq.d as).canLay0 = true := by
  obtain ⟨p, o, e1, e2, vs, e3, e4, r⟩ := h
  subst e1; subst e3
  exact ⟨.lst (.of e2) (dpAll s r), by show PyData.canLay0 (.list _) = true; unfold PyData.canLay0; exact layAll r⟩
omit [TabT] in
theorem shapedB {as : List α} (h : (PyEq.d as).canLay0 = true) (hd : PyEq.dep (List α) ≤ 64) : SeqAt.shaped (PyEq.d as) = true := by
  unfold SeqAt.shaped
  rw [h, decide_eq_true (Nat.le_trans (PyEq.depth as) hd)]
  rfl
theorem m_eqB {wd : Wd} {K : PySem.W.Frag} (hd : PyEq.dep (List α) ≤ 64 := by decide) : Sem2 (wd := wd) (α := List α) (β := List α) kB kB kF (rEqD K) (fun a b => .ok (decide (a = b))) := by
  intro W σ B1 B2 H G x y a b Q gh hx hy p
  obtain ⟨h1, h2⟩ := dpB (K := K) gh hx
  obtain ⟨h3, h4⟩ := dpB (K := K) gh hy
  refine ⟨_, _, h1, h3, shapedB h2 hd, shapedB h4 hd, ?_⟩
  rw [PyEq.eqv]
  exact p H G _ (Fr.refl gh) rfl
theorem m_neB {wd : Wd} {K : PySem.W.Frag} (hd : PyEq.dep (List α) ≤ 64 := by decide) : Sem2 (wd := wd) (α := List α) (β := List α) kB kB kF (rNeD K) (fun a b => .ok (!decide (a = b))) := by
  intro W σ B1 B2 H G x y a b Q gh hx hy p
  obtain ⟨h1, h2⟩ := dpB (K := K) gh hx
  obtain ⟨h3, h4⟩ := dpB (K := K) gh hy
  refine ⟨_, _, h1, h3, shapedB h2 hd, shapedB h4 hd, ?_⟩
  rw [PyEq.eqv]
  exact p H G _ (Fr.refl gh) rfl
end
/-! ### ints, bools, texts -/
section
variable {wd : Wd} {K : PySem.W.Frag} {α β : Type}
theorem m_eqI : Sem2 (wd := wd) kF kF kF rEq (fun (a b : Int) => .ok (decide (a = b))) := by
  intro W σ B1 B2 H G x y a b Q gh hx hy p
  rw [show x = .int a from hx, show y = .int b from hy]
  refine ⟨rfl, ?_⟩
  rw [dec_int, Bool.beq_eq_decide_eq]
  exact p H G _ (Fr.refl gh) rfl
theorem m_neI : Sem2 (wd := wd) kF kF kF rNe (fun (a b : Int) => .ok (!decide (a = b))) := by
  intro W σ B1 B2 H G x y a b Q gh hx hy p
  rw [show x = .int a from hx, show y = .int b from hy]
  refine ⟨rfl, ?_⟩
  rw [dec_int, Bool.beq_eq_decide_eq]
  exact p H G _ (Fr.refl gh) rfl
theorem m_eqL : Sem2 (wd := wd) kF kF kF rEq (fun (a b : Bool) => .ok (decide (a = b))) := by
  intro W σ B1 B2 H G x y a b Q gh hx hy p
  rw [show x = .bl a from hx, show y = .bl b from hy]
  refine ⟨rfl, ?_⟩
  rw [dec_bl, Bool.beq_eq_decide_eq]
  exact p H G _ (Fr.refl gh) rfl
theorem m_neL : Sem2 (wd := wd) kF kF kF rNe (fun (a b : Bool) => .ok (!decide (a = b))) := by
  intro W σ B1 B2 H G x y a b Q gh hx hy p
  rw [show x = .bl a from hx, show y = .bl b from hy]
  refine ⟨rfl, ?_⟩
  rw [dec_bl, Bool.beq_eq_decide_eq]
  exact p H G _ (Fr.refl gh) rfl
theorem m_eqS : Sem2 (wd := wd) kF kF kF rEq (fun (a b : Str) => .ok (decide (a = b))) := by
  intro W σ B1 B2 H G x y a b Q gh hx hy p
  rw [show x = .str a from hx.1, show y = .str b from hy.1]
  refine ⟨rfl, ?_⟩
  rw [dec_str, show (a == b) = decide (a = b) from rfl]
  exact p H G _ (Fr.refl gh) rfl
theorem m_neS : Sem2 (wd := wd) kF kF kF rNe (fun (a b : Str) => .ok (!decide (a = b))) := by
  intro W σ B1 B2 H G x y a b Q gh hx hy p
  rw [show x = .str a from hx.1, show y = .str b from hy.1]
  refine ⟨rfl, ?_⟩
  rw [dec_str, show (a == b) = decide (a = b) from rfl]
  exact p H G _ (Fr.refl gh) rfl
theorem m_lt : Sem2 (wd := wd) kF kF kF (rI0 fun i j => .bl (decide (i < j))) (fun (a b : Int) => .ok (decide (a < b))) := m_I0 (f := fun a b => decide (a < b)) fun _ _ _ => rfl
theorem m_le : Sem2 (wd := wd) kF kF kF (rI0 fun i j => .bl (decide (i ≤ j))) (fun (a b : Int) => .ok (decide (a ≤ b))) := m_I0 (f := fun a b => decide (a ≤ b)) fun _ _ _ => rfl
theorem m_gt : Sem2 (wd := wd) kF kF kF (rI0 fun i j => .bl (decide (j < i))) (fun (a b : Int) => .ok (decide (b < a))) := m_I0 (f := fun a b => decide (b < a)) fun _ _ _ => rfl
theorem m_ge : Sem2 (wd := wd) kF kF kF (rI0 fun i j => .bl (decide (j ≤ i))) (fun (a b : Int) => .ok (decide (b ≤ a))) := m_I0 (f := fun a b => decide (b ≤ a)) fun _ _ _ => rfl
theorem m_add : Sem2 (wd := wd) kF kF kF (rI0 fun i j => .int (i + j)) (fun (a b : Int) => .ok (a + b)) := m_I0 fun _ _ _ => rfl
theorem m_sub : Sem2 (wd := wd) kF kF kF (rI0 fun i j => .int (i - j)) (fun (a b : Int) => .ok (a - b)) := m_I0 fun _ _ _ => rfl
theorem m_mul : Sem2 (wd := wd) kF kF kF (rI CMul fun i j => .int (i * j)) (fun (a b : Int) => if CMul a b then .ok (a * b) else .no) := m_I fun _ _ _ => rfl
theorem m_mulW : Sem2 (wd := wd) kF kF kF (rI CMulW fun i j => .int (i * j)) (fun (a b : Int) => if CMulW a b then .ok (a * b) else .no) := m_I fun _ _ _ => rfl
theorem m_div : Sem2 (wd := wd) kF kF kF (rI CDiv fun i j => .int (i / j)) (fun (a b : Int) => if CDiv a b then .ok (a / b) else .no) := m_I fun _ _ _ => rfl
theorem m_divW : Sem2 (wd := wd) kF kF kF (rI CDivW fun i j => .int (i / j)) (fun (a b : Int) => if CDivW a b then .ok (a / b) else .no) := m_I fun _ _ _ => rfl
theorem m_mod : Sem2 (wd := wd) kF kF kF (rI (fun _ j => 0 < j) fun i j => .int (i % j)) (fun (a b : Int) => if 0 < b then .ok (a % b) else .no) := m_I (C := fun _ j => 0 < j) (f := fun a b => a % b) fun _ _ _ => rfl
theorem m_pow : Sem2 (wd := wd) kF kF kF (rI CPow fun i j => .int (i ^ j.toNat)) (fun (a b : Int) => if CPow a b then .ok (a ^ b.toNat) else .no) := m_I (f := fun a b => a ^ b.toNat) fun _ _ _ => rfl
theorem m_and : Sem2 (wd := wd) kF kF kF (rI0 fun i j => .int (Builtin.bitAnd i j)) (fun (a b : Int) => .ok (Builtin.bitAnd a b)) := m_I0 fun _ _ _ => rfl
theorem m_neg : Sem1 (wd := wd) kF kF (rU fun i => .int (-i)) (fun (a : Int) => .ok (-a)) := m_U fun _ _ => rfl
theorem m_isN [Rep α] (h : ∀ {G v} {a : α}, rep wd G v a → v ≠ .non) : Sem2 (wd := wd) kF kF kF (fun x y H Q => y = .non ∧ Q (.bl (decide (x = .non))) H) (fun (a : Option α) (_ : Unit) => .ok a.isNone) := by
  intro W σ B1 B2 H G x y a b Q gh hx hy p
  refine ⟨hy, ?_⟩
  have e : decide (x = .non) = a.isNone := by
    cases a with
    | none => exact decide_eq_true hx
    | some a => exact decide_eq_false (h (a := a) hx)
  rw [e]
  exact p H G _ (Fr.refl gh) rfl
theorem m_notN [Rep α] (h : ∀ {G v} {a : α}, rep wd G v a → v ≠ .non) : Sem2 (wd := wd) kF kF kF (fun x y H Q => y = .non ∧ Q (.bl (!decide (x = .non))) H) (fun (a : Option α) (_ : Unit) => .ok a.isSome) := by
  intro W σ B1 B2 H G x y a b Q gh hx hy p
  refine ⟨hy, ?_⟩
  have e : (!decide (x = .non)) = a.isSome := by
    cases a with
    | none => rw [decide_eq_true (show x = .non from hx)]; rfl
    | some a => rw [decide_eq_false (h (a := a) hx)]; rfl
  rw [e]
  exact p H G _ (Fr.refl gh) rfl
omit [TabT] in
theorem nn_int {G v} {a : Int} (h : rep wd G v a) : v ≠ .non := by rw [show v = .int a from h]; exact nofun
omit [TabT] in
theorem nn_str {G v} {a : Str} (h : rep wd G v a) : v ≠ .non := by rw [show v = .str a from h.1]; exact nofun
omit [TabT] in
theorem nn_own [Own α] {G v} {a : α} (h : rep wd G v a) : v ≠ .non := by
  obtain ⟨p, o, e, _⟩ := h
  rw [e]; exact nofun
/-- int(..), bool(..), len(..) -/
theorem m_int : Sem1 (wd := wd) kF kF (fun x => (fun xs H Q => (∃ i, xs = [V.int i] ∧ Q (.int i) H) ∨ ∃ k, xs = [V.bl k] ∧ Q (.int (if k then 1 else 0)) H : List V → Hp → VK → Prop) [x]) (fun (a : Int) => .ok a) := by
  intro W σ B H G x a Q gh hx p
  rw [show x = .int a from hx]
  exact .inl ⟨a, rfl, p H G _ (Fr.refl gh) rfl⟩
theorem m_intB : Sem1 (wd := wd) kF kF (fun x => (fun xs H Q => (∃ i, xs = [V.int i] ∧ Q (.int i) H) ∨ ∃ k, xs = [V.bl k] ∧ Q (.int (if k then 1 else 0)) H : List V → Hp → VK → Prop) [x]) (fun (a : Bool) => .ok (if a = true then (1 : Int) else 0)) := by
  intro W σ B H G x a Q gh hx p
  rw [show x = .bl a from hx]
  exact .inr ⟨a, rfl, p H G _ (Fr.refl gh) (by cases a <;> rfl)⟩
theorem m_boolB : Sem1 (wd := wd) kF kF (fun x => (fun xs H Q => (∃ i, xs = [V.int i] ∧ Q (.bl (i != 0)) H) ∨ ∃ k, xs = [V.bl k] ∧ Q (.bl k) H : List V → Hp → VK → Prop) [x]) (fun (a : Bool) => .ok a) := by
  intro W σ B H G x a Q gh hx p
  rw [show x = .bl a from hx]
  exact .inr ⟨a, rfl, p H G _ (Fr.refl gh) rfl⟩
theorem m_lenL [Rep α] : Sem1 (wd := wd) kB kF (fun x => (fun xs H Q => ∃ p ys, xs = [V.ref p] ∧ (SqL K H p ys ∨ SqT K H p ys) ∧ Q (.int ys.length) H : List V → Hp → VK → Prop) [x]) (fun (a : List α) => .ok (a.length : Int)) := by
  intro W σ B H G x a Q gh ⟨q, o, e1, e2, vs, e3, e4, r⟩ p
  subst e1; subst e3
  exact ⟨q, vs, rfl, .inl (.of e2), p H G _ (Fr.refl gh) (by show V.int _ = V.int _; rw [r.len])⟩
theorem m_lenT [Rep α] : Sem1 (wd := wd) kF kF (fun x => (fun xs H Q => ∃ p ys, xs = [V.ref p] ∧ (SqL K H p ys ∨ SqT K H p ys) ∧ Q (.int ys.length) H : List V → Hp → VK → Prop) [x]) (fun (a : Tup α) => .ok (a.items.length : Int)) := by
  intro W σ B H G x a Q gh ⟨q, o, e1, e2, vs, e3, e4, r⟩ p
  subst e1; subst e3
  exact ⟨q, vs, rfl, .inr (.of (gh.v e2)), p H G _ (Fr.refl gh) (by show V.int _ = V.int _; rw [r.len])⟩
theorem m_lenS : Sem1 (wd := wd) kF kF (fun x => (fun xs H Q => ∃ z : Str, xs = [V.str z] ∧ z.length ≤ sizeLine ∧ Q (.int z.length) H : List V → Hp → VK → Prop) [x]) (fun (a : Str) => .ok (a.length : Int)) := by
  intro W σ B H G x a Q gh hx p
  rw [show x = .str a from hx.1]
  exact ⟨a, rfl, hx.2.len, p H G _ (Fr.refl gh) rfl⟩
theorem m_lenScript {cm : String → Addr} : Sem1 (wd := ⟨K, cm⟩) kF kF (fun x => (fun xs H Q => ∃ p ys, xs = [V.ref p] ∧ (SqL K H p ys ∨ SqT K H p ys) ∧ Q (.int ys.length) H : List V → Hp → VK → Prop) [x]) (fun (a : Script) => .ok (a.ns.length : Int)) := by
  intro W σ B H G x a Q gh ⟨q, e1, e2⟩ p
  subst e1
  exact ⟨q, _, rfl, .inl (gh.seq e2), p H G _ (Fr.refl gh) (by show V.int _ = V.int _; rw [List.length_map])⟩
/-! ### items -/
omit [TabT] in
def getI (xs : List α) (k : Int) : Rs α := match atI xs k with
  | some a => .ok a
  | none => .no
omit [TabT] in
theorem atI_rep [Rep α] {G : Hp} {vs : List V} {as : List α} {k : Int} {a : α} (r : reps wd G vs as) (h : atI as k = some a) : ∃ v, atI vs k = some v ∧ rep wd G v a := by
  unfold atI at h ⊢
  rw [r.len]
  cases e : ixN as.length k with
  | none => rw [e] at h; cases h
  | some j =>
    rw [e] at h
    obtain ⟨v, h1, h2⟩ := r.get h
    exact ⟨v, h1, h2⟩
theorem m_ixL [Rep α] : Sem2 (wd := wd) kB kF kF (rIxL K) (fun (a : List α) (k : Int) => getI a k) := by
  intro W σ B1 B2 H G x y a k Q gh ⟨q, o, e1, e2, vs, e3, e4, r⟩ hy p
  subst e1; subst e3
  have p' : Post W kF σ H G Q (getI a k) := p
  unfold getI at p'
  cases e : atI a k with
  | none => rw [e] at p'; exact p'.elim
  | some z =>
    rw [e] at p'
    obtain ⟨v, h1, h2⟩ := atI_rep r e
    exact ⟨q, vs, k, v, rfl, hy, .of e2, h1, p' H G _ (Fr.refl gh) h2⟩
theorem m_ixT [Rep α] : Sem2 (wd := wd) kF kF kF (rIxT K) (fun (a : Tup α) (k : Int) => getI a.items k) := by
  intro W σ B1 B2 H G x y a k Q gh ⟨q, o, e1, e2, vs, e3, e4, r⟩ hy p
  subst e1; subst e3
  have p' : Post W kF σ H G Q (getI a.items k) := p
  unfold getI at p'
  cases e : atI a.items k with
  | none => rw [e] at p'; exact p'.elim
  | some z =>
    rw [e] at p'
    obtain ⟨v, h1, h2⟩ := atI_rep r e
    exact ⟨q, vs, k, v, rfl, hy, .of (gh.v e2), h1, p' H G _ (Fr.refl gh) h2⟩
theorem m_ixScript {cm : String → Addr} : Sem2 (wd := ⟨K, cm⟩) kF kF kF (rIxL K) (fun (a : Script) (k : Int) => getI a.ns k) := by
  intro W σ B1 B2 H G x y a k Q gh ⟨q, e1, e2⟩ hy p
  subst e1
  have p' : Post W kF σ H G Q (getI a.ns k) := p
  unfold getI at p'
  cases e : atI a.ns k with
  | none => rw [e] at p'; exact p'.elim
  | some z =>
    rw [e] at p'
    obtain ⟨v, h1, h2⟩ := atI_rep (wd := ⟨K, cm⟩) (G := G) (reps.of_ints (as := a.ns)) e
    exact ⟨q, _, k, v, rfl, hy, gh.seq e2, h1, p' H G _ (Fr.refl gh) h2⟩
theorem m_ixS : Sem2 (wd := wd) kF kF kF rIxS (fun (a : Str) (k : Int) => getI (chars a) k) := by
  intro W σ B1 B2 H G x y a k Q gh hx hy p
  have p' : Post W kF σ H G Q (getI (chars a) k) := p
  unfold getI at p'
  cases e : atI (chars a) k with
  | none => rw [e] at p'; exact p'.elim
  | some z =>
    rw [e] at p'
    unfold chars atI at e
    rw [List.length_map] at e
    cases e2 : ixN a.cps.toList.length k with
    | none => rw [e2] at e; cases e
    | some j =>
      rw [e2] at e
      have e' : (a.cps.toList.map fun c => (⟨#[c]⟩ : Str))[j]? = some z := e
      rw [List.getElem?_map] at e'
      cases e3 : a.cps.toList[j]? with
      | none => rw [e3] at e'; cases e'
      | some ch =>
        rw [e3] at e'
        have ez : z = ⟨#[ch]⟩ := (Option.some.inj e').symm
        refine ⟨a, k, ch, hx.1, hy, hx.2.len, ?_, p' H G _ (Fr.refl gh) ?_⟩
        · unfold atI
          rw [e2]
          exact e3
        · rw [ez]
          exact ⟨rfl, SOk.one (hx.2.2 ch (List.mem_of_getElem? e3))⟩
end
end Wm
set_option Elab.async false
set_option linter.all false
set_option maxRecDepth 100000
set_option maxHeartbeats 4000000
namespace Wm
open PySem PySem.Spec PyProof.Rows L2
open Rep (rep)
open Own (own)
variable [TabT]
omit [TabT] in
theorem SOk.app {a b : Str} (h : SOk a) (k : SOk b) (l : a.length + b.length ≤ 16777216) : SOk (a ++ b) := by
  have e : (a ++ b).cps.toList = a.cps.toList ++ b.cps.toList := by show (a.cps ++ b.cps).toList = _; simp
  refine ⟨?_, ?_⟩
  · rw [e, List.length_append, ← Str.len_toList, ← Str.len_toList]; exact l
  · rw [e]
    intro c hc
    rcases List.mem_append.mp hc with z | z
    · exact h.2 c z
    · exact k.2 c z
omit [TabT] in
theorem SOk.cut {a : Str} (h : SOk a) (lo hi : Option Int) : SOk (cutS a lo hi) := by
  unfold cutS
  refine ⟨?_, fun c hc => ?_⟩
  · show (List.toArray _).toList.length ≤ _
    rw [List.toList_toArray, List.length_take, List.length_drop]
    have := h.1
    omega
  · have hc' : c ∈ (List.toArray _).toList := hc
    rw [List.toList_toArray] at hc'
    exact h.2 c (List.mem_of_mem_drop (List.mem_of_mem_take hc'))
omit [TabT] in
def oneCp (a : Str) : Option Nat := match a.cps.toList with
  | [c] => some c
  | _ => none
omit [TabT] in
theorem oneCp_eq {a : Str} {c : Nat} (h : oneCp a = some c) : a = ⟨#[c]⟩ := by
  unfold oneCp at h
  split at h
  · rename_i d e
    cases h
    obtain ⟨x⟩ := a
    have : x = #[c] := by
      apply Array.ext'
      exact e
    rw [this]
  · cases h
/-! ### slices -/
omit [TabT] in
def cutI {α : Type} (xs : List α) (lo hi : Option Int) : List α := (xs.drop (HT.sIx xs.length 0 lo)).take (HT.sIx xs.length xs.length hi - HT.sIx xs.length 0 lo)
def tP (F : Fx) (c : Ctx) (m : Ctx.T c → Rs (Option Int)) : TO := fun σ H Q => ∃ H0 G0 G os γ, Stt F.wd F.n H0 G0 σ H G os c γ ∧ match m γ with
  | .ok a => ∀ H' G', Fr H G H' G' → Q a H'
  | .ex x => ∀ d H' G', Fr H G H' G' → RepX G' d x → F.W (.ref (F.wd.cm x.cls)) d σ H'
  | .no => False
omit [TabT] in
theorem po_mono {X : Cx} {e : Option Expr} {t t' : TO} (h : PO X e t) (i : ∀ σ H Q, t' σ H Q → t σ H Q) : PO X e t' := ⟨fun pins s σ H Q I q => h.run pins s σ H Q I (i σ H Q q)⟩
section
variable {X : Cx} {F : Fx} {c : Ctx} {α β δ : Type} {e : Expr} {pos : Pos}
theorem p_none : PO X none (tP F c fun _ => .ok none) := po_mono po_none fun σ H Q ⟨H0, G0, G, os, γ, st, p⟩ => p H G (Fr.refl st.f.gh)
theorem p_some {m : Ctx.T c → Rs Int} (h : PE X e (tX F kF c m)) : PO X (some e) (tP F c fun γ => (m γ).bind fun i => .ok (some i)) :=
  po_mono (po_some h) fun σ H Q ⟨H0, G0, G, os, γ, st, p⟩ => ⟨H0, G0, G, os, γ, st, by
    dsimp only at p
    cases e : m γ with
    | no => rw [e] at p; exact p
    | ex x => rw [e] at p; exact p
    | ok a => rw [e] at p; exact fun H' G' v f r => ⟨a, r, p H' G' f⟩⟩
theorem e_sl {k1 : Kd F.wd α} {k3 : Kd F.wd δ} {r : V → Option Int → Option Int → Hp → VK → Prop} {f : α → Option Int → Option Int → Rs δ} {lo hi : Option Expr} {m : Ctx.T c → Rs α} {ml mh : Ctx.T c → Rs (Option Int)} {p2 : Pos} (hr : SlR X r)
    (hs : ∀ {W : WX} {σ : L2.St} {B H G : Hp} {x : V} {a : α} {l h : Option Int} {Q : VK}, SameL G H → k1.rel B H G x a → Post W k3 σ H G Q (f a l h) → r x l h H Q) (he : PE X e (tX F k1 c m)) (hl : PO X lo (tP F c ml)) (hu : PO X hi (tP F c mh)) :
    PE X (.Subscript e (.Slice lo hi none p2) pos) (tX F k3 c fun γ => (m γ).bind fun x => (ml γ).bind fun l => (mh γ).bind fun h => f x l h) :=
  pe_mono (pe_slice hr he hl hu) fun σ H Q ⟨H0, G0, G, os, γ, st, p⟩ => ⟨H0, G0, G, os, γ, st, p.step k1 fun v H1 G1 a f1 r1 p1 => ⟨H0, G0, G1, os, γ, st.ext f1, by
    cases e : ml γ with
    | no => rw [e] at p1; exact p1
    | ex x => rw [e] at p1; exact p1
    | ok l =>
      rw [e] at p1
      refine fun H2 G2 f2 => ⟨H0, G0, G2, os, γ, (st.ext f1).ext f2, ?_⟩
      have p2 := Post.ext p1 f2
      cases e2 : mh γ with
      | no => rw [e2] at p2; exact p2
      | ex x => rw [e2] at p2; exact p2
      | ok h =>
        rw [e2] at p2
        exact fun H3 G3 f3 => hs f3.gh (k1.stay r1 (f2.trans f3)) (Post.ext p2 f3)⟩⟩
theorem m_slL [Rep α] {K : PySem.W.Frag} {W : WX} {σ : L2.St} {B H G : Hp} {x : V} {a : List α} {l h : Option Int} {Q : VK} (gh : SameL G H) (hx : (kB (wd := F.wd)).rel B H G x a) (p : Post W (kO (wd := F.wd)) σ H G Q (.ok (cutI a l h))) : rSlL K x l h H Q := by
  obtain ⟨q, o, e1, e2, vs, e3, e4, r⟩ := hx
  subst e1; subst e3
  refine ⟨q, vs, rfl, .of e2, fun d nd => p _ _ _ (Fr.alloc gh nd) ⟨d, _, rfl, nd, gh.free nd, upd_same, _, rfl, ?_, ?_⟩⟩
  · exact Nat.le_trans (cutV_length vs l h) e4
  · unfold cutV cutI
    rw [r.len]
    exact (r.drop _).take _
theorem e_slL [Rep α] {lo hi : Option Expr} {m : Ctx.T c → Rs (List α)} {ml mh : Ctx.T c → Rs (Option Int)} {p2 : Pos} (he : PE X e (tX F kB c m)) (hl : PO X lo (tP F c ml)) (hu : PO X hi (tP F c mh)) :
    PE X (.Subscript e (.Slice lo hi none p2) pos) (tX F kO c fun γ => (m γ).bind fun x => (ml γ).bind fun l => (mh γ).bind fun h => .ok (cutI x l h)) :=
  e_sl sl_list (fun gh hx p => m_slL gh hx p) he hl hu
theorem m_slS {W : WX} {σ : L2.St} {B H G : Hp} {x : V} {a : Str} {l h : Option Int} {Q : VK} (gh : SameL G H) (hx : (kF (wd := F.wd)).rel B H G x a) (p : Post W (kF (wd := F.wd)) σ H G Q (.ok (cutS a l h))) : rSlS x l h H Q :=
  ⟨a, hx.1, hx.2.len, p H G _ (Fr.refl gh) ⟨rfl, hx.2.cut l h⟩⟩
theorem e_slS {lo hi : Option Expr} {m : Ctx.T c → Rs Str} {ml mh : Ctx.T c → Rs (Option Int)} {p2 : Pos} (he : PE X e (tX F kF c m)) (hl : PO X lo (tP F c ml)) (hu : PO X hi (tP F c mh)) :
    PE X (.Subscript e (.Slice lo hi none p2) pos) (tX F kF c fun γ => (m γ).bind fun x => (ml γ).bind fun l => (mh γ).bind fun h => .ok (cutS x l h)) :=
  e_sl sl_str (fun gh hx p => m_slS gh hx p) he hl hu
end
/-! ### further operations -/
omit [TabT] in
def catI {α : Type} (xs ys : List α) : Rs (List α) := if xs.length + ys.length ≤ 16777216 then .ok (xs ++ ys) else .no
omit [TabT] in
def repI {α : Type} (xs : List α) (k : Int) : Rs (List α) := if k < 9223372036854775808 ∧ -9223372036854775808 ≤ k ∧ xs.length * k.toNat ≤ 16777216 then .ok (List.replicate k.toNat xs).flatten else .no
omit [TabT] in
def catS (a b : Str) : Rs Str := if a.length + b.length ≤ 16777216 then .ok (a ++ b) else .no
omit [TabT] in
def joinS (a : Str) (xs : List Str) : Rs Str := if (xs.map (·.length)).sum + xs.length * a.length ≤ 16777216 ∧ SOk (Txt.join a xs) then .ok (Txt.join a xs) else .no
omit [TabT] in
def maxI (xs : List Int) : Rs Int := match xs.max? with | some m => .ok m | none => .no
omit [TabT] in
def minI (xs : List Int) : Rs Int := match xs.min? with | some m => .ok m | none => .no
omit [TabT] in
def inS (a z : Str) : Rs Bool := match oneCp a with | some c => .ok (decide (c ∈ z.cps.toList)) | none => .no
omit [TabT] in
def notInS (a z : Str) : Rs Bool := match oneCp a with | some c => .ok (!decide (c ∈ z.cps.toList)) | none => .no
section
variable {wd : Wd} {K : PySem.W.Frag} {α β : Type}
omit [TabT] in
theorem reps.rep_flat [Rep α] {G : Hp} {vs : List V} {as : List α} (r : reps wd G vs as) : ∀ k : Nat, reps wd G (List.replicate k vs).flatten (List.replicate k as).flatten
  | 0 => trivial
  | k + 1 => by
    rw [List.replicate_succ, List.replicate_succ, List.flatten_cons, List.flatten_cons]
    exact r.app (reps.rep_flat r k)
theorem m_cat [Rep α] : Sem2 (wd := wd) kB kB kO rCat (fun (a b : List α) => catI a b) := by
  intro W σ B1 B2 H G x y a b Q gh ⟨q, o, e1, e2, vs, e3, e4, r⟩ ⟨q', o', d1, d2, ws, d3, d4, r'⟩ p
  subst e1; subst e3; subst d1; subst d3
  have p' : Post W kO σ H G Q (catI a b) := p
  unfold catI at p'
  by_cases h : a.length + b.length ≤ 16777216
  · rw [if_pos h] at p'
    have hz : vs.length + ws.length ≤ sizeLine := by rw [r.len, r'.len, sizeLine_eq]; exact h
    exact ⟨q, q', vs, ws, rfl, rfl, e2, d2, hz, fun d nd => p' _ _ _ (Fr.alloc gh nd) ⟨d, _, rfl, nd, gh.free nd, upd_same, _, rfl, by rw [List.length_append]; exact hz, r.app r'⟩⟩
  · rw [if_neg h] at p'
    exact p'.elim
theorem m_rep [Rep α] : Sem2 (wd := wd) kB kF kO rRep (fun (a : List α) (k : Int) => repI a k) := by
  intro W σ B1 B2 H G x y a k Q gh ⟨q, o, e1, e2, vs, e3, e4, r⟩ hy p
  subst e1; subst e3
  have p' : Post W kO σ H G Q (repI a k) := p
  unfold repI at p'
  by_cases h : k < 9223372036854775808 ∧ -9223372036854775808 ≤ k ∧ a.length * k.toNat ≤ 16777216
  · rw [if_pos h] at p'
    have hz : vs.length * k.toNat ≤ sizeLine := by rw [r.len, sizeLine_eq]; exact h.2.2
    refine ⟨q, k, vs, rfl, hy, e2, by omega, by omega, hz, fun d nd => p' _ _ _ (Fr.alloc gh nd) ⟨d, _, rfl, nd, gh.free nd, upd_same, _, rfl, ?_, r.rep_flat k.toNat⟩⟩
    rw [List.length_flatten, List.map_replicate, List.sum_replicate_nat, Nat.mul_comm]
    exact hz
  · rw [if_neg h] at p'
    exact p'.elim
theorem m_catS : Sem2 (wd := wd) kF kF kF (fun x y H Q => ∃ i j : Str, x = .str i ∧ y = .str j ∧ i.length + j.length ≤ sizeLine ∧ Q (.str (i ++ j)) H) (fun (a b : Str) => catS a b) := by
  intro W σ B1 B2 H G x y a b Q gh hx hy p
  have p' : Post W kF σ H G Q (catS a b) := p
  unfold catS at p'
  by_cases h : a.length + b.length ≤ 16777216
  · rw [if_pos h] at p'
    exact ⟨a, b, hx.1, hy.1, by rw [sizeLine_eq]; exact h, p' H G _ (Fr.refl gh) ⟨rfl, hx.2.app hy.2 h⟩⟩
  · rw [if_neg h] at p'
    exact p'.elim
theorem m_max : Sem1 (wd := wd) kB kF (fun x => rMax K [x]) maxI := by
  intro W σ B H G x a Q gh ⟨q, o, e1, e2, vs, e3, e4, r⟩ p
  subst e1; subst e3
  unfold maxI at p
  cases e : a.max? with
  | none => rw [e] at p; exact p.elim
  | some m =>
    rw [e] at p
    obtain ⟨h1, h2⟩ := List.max?_eq_some_iff.mp e
    refine ⟨q, a, rfl, ?_, ?_, fun m' h3 h4 => ?_⟩
    · rw [← r.ints]; exact .of e2
    · cases a with
      | nil => cases h1
      | cons _ _ => exact Nat.succ_pos _
    · have : m' = m := Int.le_antisymm (h2 m' h3) (h4 m h1)
      rw [this]
      exact p H G _ (Fr.refl gh) rfl
theorem m_min : Sem1 (wd := wd) kB kF (fun x => rMin K [x]) minI := by
  intro W σ B H G x a Q gh ⟨q, o, e1, e2, vs, e3, e4, r⟩ p
  subst e1; subst e3
  unfold minI at p
  cases e : a.min? with
  | none => rw [e] at p; exact p.elim
  | some m =>
    rw [e] at p
    obtain ⟨h1, h2⟩ := List.min?_eq_some_iff.mp e
    refine ⟨q, a, rfl, ?_, ?_, fun m' h3 h4 => ?_⟩
    · rw [← r.ints]; exact .of e2
    · cases a with
      | nil => cases h1
      | cons _ _ => exact Nat.succ_pos _
    · have : m' = m := Int.le_antisymm (h4 m h1) (h2 m' h3)
      rw [this]
      exact p H G _ (Fr.refl gh) rfl
theorem m_sum : Sem1 (wd := wd) kB kF (fun x => rSum K [x]) (fun (a : List Int) => .ok a.sum) := by
  intro W σ B H G x a Q gh ⟨q, o, e1, e2, vs, e3, e4, r⟩ p
  subst e1; subst e3
  exact ⟨q, a, rfl, by rw [← r.ints]; exact .of e2, p H G _ (Fr.refl gh) rfl⟩
theorem m_list [Rep α] : Sem1 (wd := wd) kB kO (fun x => (fun xs H Q => ∃ p ys, xs = [V.ref p] ∧ (SqL K H p ys ∨ SqT K H p ys) ∧ ∀ l, H l = none → Q (.ref l) (upd H l (.lst ys)) : List V → Hp → VK → Prop) [x]) (fun (a : List α) => .ok a) := by
  intro W σ B H G x a Q gh ⟨q, o, e1, e2, vs, e3, e4, r⟩ p
  subst e1; subst e3
  exact ⟨q, vs, rfl, .inl (.of e2), fun d nd => p _ _ _ (Fr.alloc gh nd) ⟨d, _, rfl, nd, gh.free nd, upd_same, _, rfl, e4, r⟩⟩
theorem m_listT [Rep α] : Sem1 (wd := wd) kF kO (fun x => (fun xs H Q => ∃ p ys, xs = [V.ref p] ∧ (SqL K H p ys ∨ SqT K H p ys) ∧ ∀ l, H l = none → Q (.ref l) (upd H l (.lst ys)) : List V → Hp → VK → Prop) [x]) (fun (a : Tup α) => .ok a.items) := by
  intro W σ B H G x a Q gh ⟨q, o, e1, e2, vs, e3, e4, r⟩ p
  subst e1; subst e3
  exact ⟨q, vs, rfl, .inr (.of (gh.v e2)), fun d nd => p _ _ _ (Fr.alloc gh nd) ⟨d, _, rfl, nd, gh.free nd, upd_same, _, rfl, e4, r⟩⟩
theorem m_tuple [Rep α] : Sem1 (wd := wd) kB kF (fun x => (fun xs H Q => ∃ p ys, xs = [V.ref p] ∧ ((SqL K H p ys ∧ ∀ l, H l = none → Q (.ref l) (upd H l (.tup ys))) ∨ (SqT K H p ys ∧ Q (.ref p) H)) : List V → Hp → VK → Prop) [x]) (fun (a : List α) => .ok (Tup.mk a)) := by
  intro W σ B H G x a Q gh ⟨q, o, e1, e2, vs, e3, e4, r⟩ p
  subst e1; subst e3
  exact ⟨q, vs, rfl, .inl ⟨.of e2, fun d nd => p _ _ _ ((Fr.alloc gh nd).freeze nd (gh.free nd) upd_same) ⟨d, _, rfl, upd_same, _, rfl, e4, r.mono (Same.upd' (Same.refl _) (gh.free nd))⟩⟩⟩
theorem m_in : Sem2 (wd := wd) kF kF kF (fun x y H Q => ∃ (c : Nat) (z : Str), x = .str ⟨#[c]⟩ ∧ y = .str z ∧ Q (.bl (decide (c ∈ z.cps.toList))) H) inS := by
  intro W σ B1 B2 H G x y a b Q gh hx hy p
  unfold inS at p
  cases e : oneCp a with
  | none => rw [e] at p; exact p.elim
  | some ch =>
    rw [e] at p
    exact ⟨ch, b, by rw [hx.1, oneCp_eq e], hy.1, p H G _ (Fr.refl gh) rfl⟩
theorem m_notin : Sem2 (wd := wd) kF kF kF (fun x y H Q => ∃ (c : Nat) (z : Str), x = .str ⟨#[c]⟩ ∧ y = .str z ∧ Q (.bl (!decide (c ∈ z.cps.toList))) H) notInS := by
  intro W σ B1 B2 H G x y a b Q gh hx hy p
  unfold notInS at p
  cases e : oneCp a with
  | none => rw [e] at p; exact p.elim
  | some ch =>
    rw [e] at p
    exact ⟨ch, b, by rw [hx.1, oneCp_eq e], hy.1, p H G _ (Fr.refl gh) rfl⟩
omit [TabT] in
theorem flat_ints : ∀ as : List Int, (as.map V.int).all flatV = true
  | [] => rfl
  | _ :: as => flat_ints as
omit [TabT] in
theorem inV_ints (a : Int) : ∀ as : List Int, inV (.int a) (as.map V.int) = decide (a ∈ as)
  | [] => rfl
  | b :: as => by
    show ((b == a) || inV (.int a) (as.map V.int)) = _
    rw [inV_ints a as, Bool.beq_eq_decide_eq]
    by_cases h : b = a
    · rw [decide_eq_true h, decide_eq_true (show a ∈ b :: as by rw [← h]; exact List.mem_cons_self)]; rfl
    · rw [decide_eq_false h]
      by_cases h2 : a ∈ as
      · rw [decide_eq_true h2, decide_eq_true (List.mem_cons_of_mem _ h2)]; rfl
      · rw [decide_eq_false h2, decide_eq_false fun z => (List.mem_cons.mp z).elim (fun q => h q.symm) h2]; rfl
omit [TabT] in
theorem flat_strs : ∀ as : List Str, (as.map V.str).all flatV = true
  | [] => rfl
  | _ :: as => flat_strs as
omit [TabT] in
theorem inV_strs (a : Str) : ∀ as : List Str, inV (.str a) (as.map V.str) = decide (a ∈ as)
  | [] => rfl
  | b :: as => by
    show ((b == a) || inV (.str a) (as.map V.str)) = _
    rw [inV_strs a as, show (b == a) = decide (b = a) from rfl]
    by_cases h : b = a
    · rw [decide_eq_true h, decide_eq_true (show a ∈ b :: as by rw [← h]; exact List.mem_cons_self)]; rfl
    · rw [decide_eq_false h]
      by_cases h2 : a ∈ as
      · rw [decide_eq_true h2, decide_eq_true (List.mem_cons_of_mem _ h2)]; rfl
      · rw [decide_eq_false h2, decide_eq_false fun z => (List.mem_cons.mp z).elim (fun q => h q.symm) h2]; rfl
theorem m_inI : Sem2 (wd := wd) kF kB kF (rIn K false) (fun (a : Int) (as : List Int) => .ok (decide (a ∈ as))) := by
  intro W σ B1 B2 H G x y a as Q gh hx ⟨q, o, e1, e2, vs, e3, e4, r⟩ p
  subst e1; subst e3
  rw [r.ints] at e2
  rw [show x = .int a from hx]
  refine ⟨q, _, rfl, .inl (.of e2), rfl, flat_ints as, ?_⟩
  show Q (.bl (inV _ _)) H
  rw [inV_ints]
  exact p H G _ (Fr.refl gh) rfl
theorem m_niI : Sem2 (wd := wd) kF kB kF (rIn K true) (fun (a : Int) (as : List Int) => .ok (!decide (a ∈ as))) := by
  intro W σ B1 B2 H G x y a as Q gh hx ⟨q, o, e1, e2, vs, e3, e4, r⟩ p
  subst e1; subst e3
  rw [r.ints] at e2
  rw [show x = .int a from hx]
  refine ⟨q, _, rfl, .inl (.of e2), rfl, flat_ints as, ?_⟩
  show Q (.bl (!inV _ _)) H
  rw [inV_ints]
  exact p H G _ (Fr.refl gh) rfl
theorem m_inStr : Sem2 (wd := wd) kF kB kF (rIn K false) (fun (a : Str) (as : List Str) => .ok (decide (a ∈ as))) := by
  intro W σ B1 B2 H G x y a as Q gh hx ⟨q, o, e1, e2, vs, e3, e4, r⟩ p
  subst e1; subst e3
  rw [r.strs] at e2
  rw [show x = .str a from hx.1]
  refine ⟨q, _, rfl, .inl (.of e2), rfl, flat_strs as, ?_⟩
  show Q (.bl (inV _ _)) H
  rw [inV_strs]
  exact p H G _ (Fr.refl gh) rfl
theorem m_niStr : Sem2 (wd := wd) kF kB kF (rIn K true) (fun (a : Str) (as : List Str) => .ok (!decide (a ∈ as))) := by
  intro W σ B1 B2 H G x y a as Q gh hx ⟨q, o, e1, e2, vs, e3, e4, r⟩ p
  subst e1; subst e3
  rw [r.strs] at e2
  rw [show x = .str a from hx.1]
  refine ⟨q, _, rfl, .inl (.of e2), rfl, flat_strs as, ?_⟩
  show Q (.bl (!inV _ _)) H
  rw [inV_strs]
  exact p H G _ (Fr.refl gh) rfl
end
section
variable {X : Cx} {F : Fx} {c : Ctx} {α : Type} {e : Expr} {pos : Pos}
theorem e_join {s : Expr} {ms : Ctx.T c → Rs Str} {m : Ctx.T c → Rs (List Str)} {apos : Pos} (ho : PE X s (tX F kF c ms)) (h : PE X e (tX F kB c m)) (hs : starEach [e] X.env = [(false, eval e X.env)] := by rfl) (hbase : attributeBase s "join" X.env (eval s X.env) = eval s X.env := by rfl) (hline : (apos.endLine == pos.line) = true := by rfl) :
    PE X (.Call (.Attribute s "join" apos) [e] [] pos) (tX F kF c fun γ => (ms γ).bind fun a => (m γ).bind fun xs => joinS a xs) :=
  pe_mono (pe_join ho h hs hbase hline) fun σ H Q ⟨H0, G0, G, os, γ, st, p⟩ => ⟨H0, G0, G, os, γ, st, p.step kF fun v H1 G1 a f1 r1 p1 => ⟨⟨a, r1.1⟩, H0, G0, G1, os, γ, st.ext f1, p1.step kB fun w H2 G2 xs f2 ⟨q, o, e1, e2, vs, e3, e4, r⟩ p2 => by
    subst e1; subst e3
    rw [r.strs] at e2
    unfold joinS at p2
    by_cases hz : (xs.map (·.length)).sum + xs.length * a.length ≤ 16777216 ∧ SOk (Txt.join a xs)
    · rw [if_pos hz] at p2
      exact ⟨a, q, xs, r1.1, rfl, .inl (.of e2), hz.1, p2 _ _ _ (Fr.refl f2.gh) ⟨rfl, hz.2⟩⟩
    · rw [if_neg hz] at p2
      exact p2.elim⟩⟩
omit [TabT] in
omit [TabT] in
/-- list(range(..)) -/
def RngL (lo hi : Int) : Rs (List Int) := if -4611686018427387904 ≤ lo ∧ lo ≤ 4611686018427387903 ∧ -4611686018427387904 ≤ hi ∧ hi ≤ 4611686018427387903 ∧ (hi - lo).toNat ≤ 16777216 then .ok (rng lo hi) else .no
omit [TabT] in
theorem rgV_rng (a b : Int) : rgV a b = (rng a b).map V.int := by
  unfold rgV rng
  rw [List.map_map]
  rfl
theorem e_listR2 {a b : Expr} {ma mb : Ctx.T c → Rs Int} {p p2 pos2 : Pos} (hc : X.calm = true) (hl : X.mg "list" = none) (hm : X.mg "range" = none) (ha : PE X a (tX F kF c ma)) (hb : PE X b (tX F kF c mb)) (hgl : Gl X "list" := by rfl) (hg : Gl X "range" := by rfl)
    (na : starEach [a, b] X.env = (false, eval a X.env) :: starEach [b] X.env := by rfl) (nb : starEach [b] X.env = (false, eval b X.env) :: starEach [] X.env := by rfl) (hp : (backTo pos2 (starEach [b] X.env)).any (·.1) = false := by rfl) (ne : starEach [.Call (.Name "range" p2) [a, b] [] pos2] X.env = (false, eval (.Call (.Name "range" p2) [a, b] [] pos2) X.env) :: starEach [] X.env := by rfl) :
    PE X (.Call (.Name "list" p) [.Call (.Name "range" p2) [a, b] [] pos2] [] pos) (tX F kO c fun γ => (ma γ).bind fun x => (mb γ).bind fun y => RngL x y) :=
  pe_mono (pe_listRg hc hgl hl (prg_2 hg hm ha hb na nb hp) ne) fun σ H Q ⟨H0, G0, G, os, γ, st, p⟩ => ⟨H0, G0, G, os, γ, st, p.step kF fun v H1 G1 x f1 r1 p1 => ⟨H0, G0, G1, os, γ, st.ext f1, p1.step kF fun w H2 G2 y f2 r2 p2 => by
    unfold RngL at p2
    by_cases hz : -4611686018427387904 ≤ x ∧ x ≤ 4611686018427387903 ∧ -4611686018427387904 ≤ y ∧ y ≤ 4611686018427387903 ∧ (y - x).toNat ≤ 16777216
    · rw [if_pos hz] at p2
      refine ⟨x, y, r1, r2, ⟨by omega, by omega, by omega, by omega, by omega⟩, fun d nd => p2 _ _ _ (Fr.alloc f2.gh nd) ⟨d, _, rfl, nd, f2.gh.free nd, upd_same, _, rfl, by rw [rgV_length, sizeLine_eq]; exact hz.2.2.2.2, ?_⟩⟩
      rw [rgV_rng]
      exact reps.of_ints
    · rw [if_neg hz] at p2
      exact p2.elim⟩⟩
theorem e_listR1 {a : Expr} {ma : Ctx.T c → Rs Int} {p p2 pos2 : Pos} (hc : X.calm = true) (hl : X.mg "list" = none) (hm : X.mg "range" = none) (ha : PE X a (tX F kF c ma)) (hgl : Gl X "list" := by rfl) (hg : Gl X "range" := by rfl)
    (na : starEach [a] X.env = (false, eval a X.env) :: starEach [] X.env := by rfl) (ne : starEach [.Call (.Name "range" p2) [a] [] pos2] X.env = (false, eval (.Call (.Name "range" p2) [a] [] pos2) X.env) :: starEach [] X.env := by rfl) :
    PE X (.Call (.Name "list" p) [.Call (.Name "range" p2) [a] [] pos2] [] pos) (tX F kO c fun γ => (ma γ).bind fun y => RngL 0 y) :=
  pe_mono (pe_listRg hc hgl hl (prg_1 hg hm ha na) ne) fun σ H Q ⟨H0, G0, G, os, γ, st, p⟩ => ⟨H0, G0, G, os, γ, st, p.step kF fun v H1 G1 y f1 r1 p1 => by
    unfold RngL at p1
    by_cases hz : -4611686018427387904 ≤ (0 : Int) ∧ (0 : Int) ≤ 4611686018427387903 ∧ -4611686018427387904 ≤ y ∧ y ≤ 4611686018427387903 ∧ (y - 0).toNat ≤ 16777216
    · rw [if_pos hz] at p1
      refine ⟨y, r1, ⟨by omega, by omega, by omega, by omega, by omega⟩, fun d nd => p1 _ _ _ (Fr.alloc f1.gh nd) ⟨d, _, rfl, nd, f1.gh.free nd, upd_same, _, rfl, by rw [rgV_length, sizeLine_eq]; exact hz.2.2.2.2, ?_⟩⟩
      rw [rgV_rng]
      exact reps.of_ints
    · rw [if_neg hz] at p1
      exact p1.elim⟩
/-! ### built-ins -/
omit [TabT] in
theorem bt_len : bootBuiltins "len" = some (.builtin "len") := by decide +kernel
omit [TabT] in
theorem bt_max : bootBuiltins "max" = some (.builtin "max") := by decide +kernel
omit [TabT] in
theorem bt_min : bootBuiltins "min" = some (.builtin "min") := by decide +kernel
omit [TabT] in
theorem bt_sum : bootBuiltins "sum" = some (.builtin "sum") := by decide +kernel
omit [TabT] in
theorem bt_int : bootBuiltins "int" = some (.type "int") := by decide +kernel
omit [TabT] in
theorem bt_bool : bootBuiltins "bool" = some (.type "bool") := by decide +kernel
omit [TabT] in
theorem bt_str : bootBuiltins "str" = some (.type "str") := by decide +kernel
omit [TabT] in
theorem bt_list : bootBuiltins "list" = some (.type "list") := by decide +kernel
omit [TabT] in
theorem bt_tuple : bootBuiltins "tuple" = some (.type "tuple") := by decide +kernel
omit [TabT] in
theorem bt_dict : bootBuiltins "dict" = some (.type "dict") := by decide +kernel
/-! ### isinstance -/
theorem e_isi {k : Kd F.wd α} {m : Ctx.T c → Rs α} {t : α → Value} {b : α → Bool} {x y : Str} {u : Value} {cv : V} {p p2 : Pos} (hm : X.mg x = none) (ha : PE X e (tX F k c m)) (hc : PE X (.Name y p2) (tC cv)) (hu : ClsV cv u) (ht : ∀ {B H G v a}, SameL G H → k.rel B H G v a → TyX X.K H v (t a)) (hb : ∀ a, PySem.W.kitOne X.K (t a) u = some (b a)) (hx : x = "isinstance" := by rfl) (hg : Gl X x := by rfl) (hv : bootBuiltins x = some (.builtin "isinstance") := by decide +kernel) (hn : x ≠ "__name__" := by decide) (hdb : (x == ("__debug__" : Str)) = false := by decide)
    (he : starEach (e :: .Name y p2 :: []) X.env = (false, eval e X.env) :: starEach (.Name y p2 :: []) X.env := by rfl) (he2 : starEach (.Name y p2 :: []) X.env = (false, eval (.Name y p2) X.env) :: starEach [] X.env := by rfl) (hpl : (backTo pos (starEach (.Name y p2 :: []) X.env)).any (·.1) = false := by rfl) :
    PE X (.Call (.Name x p) [e, .Name y p2] [] pos) (tX F kF c fun γ => (m γ).bind fun a => .ok (b a)) :=
  pe_mono (pe_callB call_isi hg hm hv (pa_cons ha (pa_cons hc pa_nil he2) he) hn hdb he hpl) fun σ H Q ⟨H0, G0, G, os, γ, st, p⟩ => ⟨H0, G0, G, os, γ, st, p.step k fun v H1 G1 a f1 r1 p1 =>
    ⟨v, cv, t a, u, b a, rfl, hu, ht f1.gh r1, hb a, p1 _ _ _ (Fr.refl f1.gh) rfl⟩⟩
theorem ty_int {wd : Wd} {K : PySem.W.Frag} {B H G : Hp} {v : V} {a : Int} (_ : SameL G H) (h : (kF (wd := wd)).rel B H G v a) : TyX K H v (.type "int") := by rw [show v = .int a from h]; exact .base (.int a)
theorem ty_bool {wd : Wd} {K : PySem.W.Frag} {B H G : Hp} {v : V} {a : Bool} (_ : SameL G H) (h : (kF (wd := wd)).rel B H G v a) : TyX K H v (.type "bool") := by rw [show v = .bl a from h]; exact .base (.bl a)
theorem ty_str {wd : Wd} {K : PySem.W.Frag} {B H G : Hp} {v : V} {a : Str} (_ : SameL G H) (h : (kF (wd := wd)).rel B H G v a) : TyX K H v (.type "str") := by rw [show v = .str a from h.1]; exact .base (.str a)
theorem ty_listB {wd : Wd} {K : PySem.W.Frag} [Rep α] {B H G : Hp} {v : V} {a : List α} (_ : SameL G H) (h : (kB (wd := wd)).rel B H G v a) : TyX K H v (.type "list") := by
  obtain ⟨q, o, e1, e2, vs, e3, e4, r⟩ := h
  subst e1; subst e3
  exact .base (.lst e2)
theorem ty_tup {wd : Wd} {K : PySem.W.Frag} [Rep α] {B H G : Hp} {v : V} {a : Tup α} (s : SameL G H) (h : (kF (wd := wd)).rel B H G v a) : TyX K H v (.type "tuple") := by
  obtain ⟨q, o, e1, e2, vs, e3, e4, r⟩ := h
  subst e1; subst e3
  exact .base (.tup (s.v e2))
theorem ty_pair {wd : Wd} {K : PySem.W.Frag} {β : Type} [Rep α] [Rep β] {B H G : Hp} {v : V} {a : α × β} (s : SameL G H) (h : (kF (wd := wd)).rel B H G v a) : TyX K H v (.type "tuple") := by
  obtain ⟨q, o, e1, e2, v1, v2, e3, r1, r2⟩ := h
  subst e1; subst e3
  exact .base (.tup (s.v e2))
end
end Wm
set_option Elab.async false
set_option linter.all false
set_option maxRecDepth 100000
set_option maxHeartbeats 4000000
namespace Wm
open PySem PySem.Spec PyProof.Rows L2
local instance : TabT := ⟨[]⟩
/-! ### plain laws of the mirrors' words -/
section
variable {α β γ ρ : Type}
/-- not a rfl-law: simp then builds its proof by congruence, and the kernel never unfolds a Rng -/
theorem Rs.bo (a : α) (f : α → Rs β) : (Rs.ok a).bind f = f a := Eq.trans (Eq.refl _) (Eq.refl _)
theorem Rs.bind_is {r : Rs α} {a : α} {f : α → Rs β} (h : r = .ok a) : r.bind f = f a := by rw [h]; rfl
theorem fold_inv {f : γ → α → Rs γ} {xs : List α} {g : γ} (I : Nat → γ → Prop) (h0 : I 0 g) (hs : ∀ i a g, xs[i]? = some a → I i g → ∃ g', f g a = .ok g' ∧ I (i + 1) g') : ∃ g', Rs.fold f g xs = .ok g' ∧ I xs.length g' := by
  induction xs generalizing g I with
  | nil => exact ⟨g, rfl, h0⟩
  | cons x xs ih =>
    obtain ⟨g1, e1, i1⟩ := hs 0 x g rfl h0
    obtain ⟨g2, e2, i2⟩ := ih (fun i g => I (i + 1) g) i1 fun i a g ha hi => hs (i + 1) a g ha hi
    exact ⟨g2, by show (f g x).bind _ = _; rw [e1]; exact e2, i2⟩
theorem foldR_inv {f : γ → α → Rs (γ ⊕ ρ)} {xs : List α} {g : γ} (I : Nat → γ → Prop) (h0 : I 0 g) (hs : ∀ i a g, xs[i]? = some a → I i g → ∃ g', f g a = .ok (.inl g') ∧ I (i + 1) g') : ∃ g', Rs.foldR f g xs = .ok (.inl g') ∧ I xs.length g' := by
  induction xs generalizing g I with
  | nil => exact ⟨g, rfl, h0⟩
  | cons x xs ih =>
    obtain ⟨g1, e1, i1⟩ := hs 0 x g rfl h0
    obtain ⟨g2, e2, i2⟩ := ih (fun i g => I (i + 1) g) i1 fun i a g ha hi => hs (i + 1) a g ha hi
    exact ⟨g2, by simp only [Rs.foldR]; rw [e1]; exact e2, i2⟩
/-- a loop that looks for the first item at which it returns -/
theorem foldR_find {f : γ → α → Rs (γ ⊕ ρ)} {xs : List α} {g : γ} {p : α → Bool} {r : α → ρ} (ht : ∀ x ∈ xs, p x = true → f g x = .ok (.inr (r x))) (hf : ∀ x ∈ xs, p x = false → f g x = .ok (.inl g)) :
    Rs.foldR f g xs = .ok (match xs.find? p with | some x => .inr (r x) | none => .inl g) := by
  induction xs with
  | nil => rfl
  | cons x xs ih =>
    simp only [Rs.foldR]
    cases e : p x with
    | true => rw [ht x List.mem_cons_self e, List.find?_cons_of_pos e]; rfl
    | false =>
      rw [hf x List.mem_cons_self e, List.find?_cons_of_neg (by rw [e]; exact Bool.false_ne_true)]
      exact ih (fun y hy => ht y (List.mem_cons_of_mem _ hy)) fun y hy => hf y (List.mem_cons_of_mem _ hy)
theorem comp_map {t : α → Rs Bool} {f : α → Rs β} {g : α → β} : ∀ {xs : List α}, (∀ x ∈ xs, t x = .ok true) → (∀ x ∈ xs, f x = .ok (g x)) → Rs.comp t f xs = .ok (xs.map g)
  | [], _, _ => rfl
  | x :: xs, ht, hf => by
    simp only [Rs.comp]
    rw [ht x List.mem_cons_self, hf x List.mem_cons_self, comp_map (fun y hy => ht y (List.mem_cons_of_mem _ hy)) fun y hy => hf y (List.mem_cons_of_mem _ hy)]
    rfl
theorem comp_filter {t : α → Rs Bool} {f : α → Rs β} {p : α → Bool} {g : α → β} : ∀ {xs : List α}, (∀ x ∈ xs, t x = .ok (p x)) → (∀ x ∈ xs, p x = true → f x = .ok (g x)) → Rs.comp t f xs = .ok ((xs.filter p).map g)
  | [], _, _ => rfl
  | x :: xs, ht, hf => by
    have ih := comp_filter (xs := xs) (fun y hy => ht y (List.mem_cons_of_mem _ hy)) fun y hy => hf y (List.mem_cons_of_mem _ hy)
    simp only [Rs.comp]
    rw [ht x List.mem_cons_self]
    cases e : p x with
    | true => rw [hf x List.mem_cons_self e, ih, List.filter_cons_of_pos e]; rfl
    | false => rw [List.filter_cons_of_neg (by rw [e]; exact Bool.false_ne_true)]; exact ih
theorem comp_ex {t : α → Rs Bool} {f : α → Rs β} (P : Nat → β → Prop) : ∀ {xs : List α} (ht : ∀ x ∈ xs, t x = .ok true) (hf : ∀ i x, xs[i]? = some x → ∃ y, f x = .ok y ∧ P i y), ∃ ys, Rs.comp t f xs = .ok ys ∧ ys.length = xs.length ∧ ∀ i y, ys[i]? = some y → P i y
  | [], _, _ => ⟨[], rfl, rfl, fun i y h => by simp at h⟩
  | x :: xs, ht, hf => by
    obtain ⟨y, e, hy⟩ := hf 0 x rfl
    obtain ⟨ys, e2, l, h⟩ := comp_ex (fun i => P (i + 1)) (xs := xs) (fun z hz => ht z (List.mem_cons_of_mem _ hz)) fun i z hz => hf (i + 1) z hz
    refine ⟨y :: ys, ?_, congrArg (· + 1) l, fun i z hz => ?_⟩
    · simp only [Rs.comp]
      rw [ht x List.mem_cons_self, e, e2]
      rfl
    · cases i with
      | zero => cases hz; exact hy
      | succ i => exact h i z hz
theorem ixN_nat {n i : Nat} (h : i < n) : ixN n (i : Int) = some i := by
  unfold ixN
  rw [if_pos (by omega), if_pos (by omega)]
  simp
theorem getI_nat {xs : List α} {i : Nat} {a : α} (h : xs[i]? = some a) : getI xs (i : Int) = .ok a := by
  unfold getI
  rw [atI_nat h]
theorem getI_int {xs : List α} {k : Int} {a : α} (h0 : 0 ≤ k) (h : xs[k.toNat]? = some a) : getI xs k = .ok a := by
  have : k = ((k.toNat : Nat) : Int) := by omega
  rw [this]
  exact getI_nat h
theorem getI_ex {xs : List α} {k : Int} (h0 : 0 ≤ k) (h : k < xs.length) : ∃ a, xs[k.toNat]? = some a ∧ getI xs k = .ok a :=
  ⟨xs[k.toNat]'(by omega), List.getElem?_eq_getElem (by omega), getI_int h0 (List.getElem?_eq_getElem (by omega))⟩
theorem setI_nat {xs : List α} {i : Nat} {a : α} (h : i < xs.length) : setI xs (i : Int) a = .ok (xs.set i a) := by
  unfold setI
  rw [ixN_nat h]
theorem appI_ok {xs : List α} {a : α} (h : xs.length < 16777216) : appI xs a = .ok (xs ++ [a]) := if_pos h
theorem catI_ok {xs ys : List α} (h : xs.length + ys.length ≤ 16777216) : catI xs ys = .ok (xs ++ ys) := if_pos h
theorem repI_ok {xs : List α} {k : Int} (h0 : 0 ≤ k) (h1 : k ≤ 16777216) (h : xs.length * k.toNat ≤ 16777216) : repI xs k = .ok (List.replicate k.toNat xs).flatten := if_pos ⟨by omega, by omega, h⟩
theorem repI_one {a : α} {k : Int} (h0 : 0 ≤ k) (h1 : k ≤ 16777216) : repI [a] k = .ok (List.replicate k.toNat a) := by
  rw [repI_ok h0 h1 (by show 1 * k.toNat ≤ _; omega)]
  congr 1
  induction k.toNat with
  | zero => rfl
  | succ n ih => rw [List.replicate_succ, List.replicate_succ, List.flatten_cons, ih]; rfl
theorem Rng_ok {lo hi : Int} (h0 : -4611686018427387904 ≤ lo) (h1 : lo ≤ 4611686018427387903) (h2 : -4611686018427387904 ≤ hi) (h3 : hi ≤ 4611686018427387903) : Rng lo hi = .ok (rng lo hi) := if_pos ⟨h0, h1, h2, h3⟩
theorem Rng_nat {n : Nat} (h : n ≤ 16777216) : Rng 0 (n : Int) = .ok (rng 0 n) := Rng_ok (by decide) (by decide) (by omega) (by omega)
theorem RngL_ok {lo hi : Int} (h0 : -4611686018427387904 ≤ lo) (h1 : lo ≤ 4611686018427387903) (h2 : -4611686018427387904 ≤ hi) (h3 : hi ≤ 4611686018427387903) (h : (hi - lo).toNat ≤ 16777216) : RngL lo hi = .ok (rng lo hi) := if_pos ⟨h0, h1, h2, h3, h⟩
theorem rng0_len (n : Nat) : (rng 0 (n : Int)).length = n := by rw [rng_len]; omega
theorem rng_at {lo hi : Int} {i : Nat} (h : i < (hi - lo).toNat) : (rng lo hi)[i]? = some (lo + i) := by
  unfold rng
  rw [List.getElem?_map, List.getElem?_range h]
  rfl
theorem mem_rng {lo hi a : Int} : a ∈ rng lo hi ↔ lo ≤ a ∧ a < hi := by
  unfold rng
  rw [List.mem_map]
  constructor
  · rintro ⟨i, hi', rfl⟩
    rw [List.mem_range] at hi'
    omega
  · rintro ⟨h1, h2⟩
    exact ⟨(a - lo).toNat, by rw [List.mem_range]; omega, by omega⟩
theorem CMul_l {i j : Int} (h0 : -1000000000000 ≤ i) (h1 : i ≤ 1000000000000) : CMul i j := .inl ⟨by omega, by omega⟩
theorem CMul_r {i j : Int} (h0 : -1000000000000 ≤ j) (h1 : j ≤ 1000000000000) : CMul i j := .inr ⟨by omega, by omega⟩
theorem CDiv_of {i j : Int} (h0 : 0 < j) (h1 : j < 1000000000) : CDiv i j := ⟨h0, by omega⟩
theorem chars_get {z : Str} {i : Nat} {c : Nat} (h : z.cps.toList[i]? = some c) : (chars z)[i]? = some ⟨#[c]⟩ := by
  unfold chars
  rw [List.getElem?_map, h]
  rfl
theorem chars_len (z : Str) : (chars z).length = z.length := by unfold chars; rw [List.length_map, Str.len_toList]
theorem oneCp_one (c : Nat) : oneCp ⟨#[c]⟩ = some c := rfl
theorem left_inl {r : Rs (γ ⊕ ρ)} {g : γ} {f : γ → Rs ρ} (h : r = .ok (.inl g)) : Rs.left r f = f g := by rw [h]; rfl
theorem left_inr {r : Rs (γ ⊕ ρ)} {x : ρ} {f : γ → Rs ρ} (h : r = .ok (.inr x)) : Rs.left r f = .ok x := by rw [h]; rfl
theorem leftG_inl {δ : Type} {r : Rs (γ ⊕ ρ)} {g : γ} {f : γ → Rs (δ ⊕ ρ)} (h : r = .ok (.inl g)) : Rs.leftG r f = f g := by rw [h]; rfl
theorem Str.ext' {a b : Str} (h : a.cps.toList = b.cps.toList) : a = b := by
  obtain ⟨x⟩ := a
  obtain ⟨y⟩ := b
  congr 1
  exact Array.ext' h
theorem app_list (a b : Str) : (a ++ b).cps.toList = a.cps.toList ++ b.cps.toList := by
  show (a.cps ++ b.cps).toList = _
  exact Array.toList_append
theorem app_len (a b : Str) : (a ++ b).length = a.length + b.length := by
  rw [Str.len_toList, Str.len_toList, Str.len_toList, app_list, List.length_append]
theorem join_e : ∀ xs : List Str, (Str.join "" xs).cps.toList = xs.flatMap fun x => x.cps.toList
  | [] => rfl
  | [x] => by rw [List.flatMap_cons, List.flatMap_nil, List.append_nil]; rfl
  | x :: y :: r => by
    rw [show Str.join "" (x :: y :: r) = x ++ "" ++ Str.join "" (y :: r) from rfl, app_list, app_list, join_e (y :: r), List.flatMap_cons (x := x)]
    rw [show ("" : Str).cps.toList = [] from rfl, List.append_nil]
theorem flat_len (xs : List Str) : (xs.flatMap fun x => x.cps.toList).length = (xs.map (·.length)).sum := by
  rw [List.length_flatMap]
  congr 1
theorem joinS_e {xs : List Str} (h : ∀ x ∈ xs, SOk x) (hl : (xs.map (·.length)).sum ≤ 16777216) : joinS "" xs = .ok ⟨(xs.flatMap fun x => x.cps.toList).toArray⟩ := by
  have e : Txt.join "" xs = ⟨(xs.flatMap fun x => x.cps.toList).toArray⟩ := by
    apply Str.ext'
    rw [TL.join_eq, join_e]
  unfold joinS
  rw [e, if_pos]
  refine ⟨?_, ?_, fun c hc => ?_⟩
  · rw [show ("" : Str).length = 0 from rfl]; omega
  · show (List.toArray _).toList.length ≤ _
    rw [List.toList_toArray, flat_len]; exact hl
  · have hc' : c ∈ (List.toArray _).toList := hc
    rw [List.toList_toArray, List.mem_flatMap] at hc'
    obtain ⟨x, hx, hcx⟩ := hc'
    exact (h x hx).2 c hcx
/-- one sign each -/
def One (x : Str) : Prop := ∃ c : Nat, x = ⟨#[c]⟩ ∧ c < 1114112
theorem one_chars {z : Str} (hz : ∀ c ∈ z.cps.toList, c < 1114112) {x : Str} (h : x ∈ chars z) : One x := by
  unfold chars at h
  rw [List.mem_map] at h
  obtain ⟨c, hc, rfl⟩ := h
  exact ⟨c, rfl, hz c hc⟩
theorem sum_ones : ∀ xs : List Str, (∀ x ∈ xs, One x) → (xs.map (·.length)).sum = xs.length
  | [], _ => rfl
  | x :: xs, h => by
    obtain ⟨c, e, _⟩ := h x List.mem_cons_self
    rw [List.map_cons, List.sum_cons, sum_ones xs fun y hy => h y (List.mem_cons_of_mem _ hy), e, List.length_cons]
    show 1 + _ = _
    omega
theorem joinS_ones {xs : List Str} (h : ∀ x ∈ xs, One x) (hl : xs.length ≤ 16777216) : ∃ t, joinS "" xs = .ok t ∧ t.length = xs.length ∧ t.cps.toList = xs.flatMap (fun x => x.cps.toList) ∧ SOk t := by
  have hs : ∀ x ∈ xs, SOk x := fun x hx => by
    obtain ⟨c, rfl, hc⟩ := h x hx
    exact SOk.one hc
  have hn := sum_ones xs h
  have e1 := flat_len xs
  rw [hn] at e1
  refine ⟨_, joinS_e hs (by rw [hn]; exact hl), ?_, ?_, ?_⟩
  · rw [Str.len_toList]
    show (List.toArray _).toList.length = _
    rw [List.toList_toArray]; exact e1
  · show (List.toArray _).toList = _
    rw [List.toList_toArray]
  · refine ⟨?_, fun c hc => ?_⟩
    · show (List.toArray _).toList.length ≤ _
      rw [List.toList_toArray]; omega
    · have hc' : c ∈ (List.toArray _).toList := hc
      rw [List.toList_toArray, List.mem_flatMap] at hc'
      obtain ⟨x, hx, hcx⟩ := hc'
      exact (hs x hx).2 c hcx
theorem cut_len (a : Str) (lo hi : Option Int) : (cutS a lo hi).length ≤ a.length := by
  rw [Str.len_toList, Str.len_toList]
  unfold cutS
  show (List.toArray _).toList.length ≤ _
  rw [List.toList_toArray, List.length_take, List.length_drop]
  omega
theorem catS_ok {a b : Str} (h : a.length + b.length ≤ 16777216) : catS a b = .ok (a ++ b) := if_pos h
theorem foldR_test {f : γ → α → Rs (γ ⊕ ρ)} {xs : List α} {g : γ} (p : α → Bool) {r : ρ} (h : ∀ x ∈ xs, f g x = .ok (if p x = true then .inr r else .inl g)) :
    Rs.foldR f g xs = .ok (if xs.any p = true then .inr r else .inl g) := by
  induction xs with
  | nil => rfl
  | cons x xs ih =>
    simp only [Rs.foldR]
    rw [h x List.mem_cons_self]
    cases e : p x with
    | true => simp [Rs.bind, e]
    | false => simpa [Rs.bind, e] using ih fun y hy => h y (List.mem_cons_of_mem _ hy)
theorem notInS_one (c : Nat) (z : Str) : notInS ⟨#[c]⟩ z = .ok (!decide (c ∈ z.cps.toList)) := rfl
theorem inS_one (c : Nat) (z : Str) : inS ⟨#[c]⟩ z = .ok (decide (c ∈ z.cps.toList)) := rfl
/-- is some sign of x missing in z? -/
def misses (z : Str) (x : Str) : Bool := match oneCp x with | some c => !decide (c ∈ z.cps.toList) | none => false
theorem misses_chars {t z x : Str} (h : x ∈ chars t) : notInS x z = .ok (misses z x) := by
  unfold chars at h
  rw [List.mem_map] at h
  obtain ⟨c, hc, rfl⟩ := h
  rfl
theorem left_if {b : Bool} {r : ρ} {g : γ} {f : γ → Rs ρ} : Rs.left (.ok (if b = true then .inr r else .inl g)) f = if b = true then .ok r else f g := by cases b <;> rfl
theorem ok_if {b : Bool} {x y : α} : (if b = true then Rs.ok x else Rs.ok y) = Rs.ok (if b = true then x else y) := by cases b <;> rfl
end
end Wm
set_option Elab.async false
set_option linter.all false
set_option maxRecDepth 100000
set_option maxHeartbeats 4000000
namespace Wm
open PySem PySem.Spec PyProof.Rows L2
open Rep (rep)
open Own (own)
variable [TabT]
/-! ### none, or an object of one's own -/
def kQ {wd : Wd} {β : Type} [Own β] : Kd wd (Option β) :=
  ⟨fun B H G v b => match b with | none => v = .non | some b => ∃ p o, v = .ref p ∧ B p = none ∧ G p = none ∧ H p = some o ∧ own wd G o b,
   fun {B H G H' G' v a} h f => by
     cases a with
     | none => exact h
     | some b =>
       obtain ⟨p, o, e, n, g, h, w⟩ := h
       exact ⟨p, o, e, n, f.out h g, f.h.get h (Own.pl w), Own.mono f.g w⟩,
   fun {B B' H G v a} s h => by
     cases a with
     | none => exact h
     | some b =>
       obtain ⟨p, o, e, n, g, h, w⟩ := h
       exact ⟨p, o, e, s.free n, g, h, w⟩⟩
def kN {wd : Wd} {β : Type} [Own β] : Kd wd (Option β) :=
  ⟨fun _ H G v b => match b with | none => v = .non | some b => ∃ p o, v = .ref p ∧ H p = some o ∧ own wd G o b,
   fun {B H G H' G' v a} h f => by
     cases a with
     | none => exact h
     | some b =>
       obtain ⟨p, o, e, h, w⟩ := h
       exact ⟨p, o, e, f.h.get h (Own.pl w), Own.mono f.g w⟩,
   fun _ h => h⟩
omit [TabT] in
def theI {α : Type} (o : Option α) : Rs α := match o with | some a => .ok a | none => .no
section
variable {X : Cx} {F : Fx} {c c' : Ctx} {α β ρ : Type} {e : Expr} {pos : Pos}
/-- from one kind to another, where the results agree -/
theorem e_kk {k1 : Kd F.wd α} {k2 : Kd F.wd α} {m : Ctx.T c → Rs α} (i : ∀ {H' G' H G : Hp} {v a}, Fr H G H' G' → k1.rel H H' G' v a → ∃ G2, Fr H G H' G2 ∧ k2.rel H H' G2 v a) (h : PE X e (tX F k1 c m)) : PE X e (tX F k2 c m) :=
  pe_mono h fun σ H Q ⟨H0, G0, G, os, γ, st, p⟩ => ⟨H0, G0, G, os, γ, st, by
    cases e : m γ with
    | no => rw [e] at p; exact p
    | ex x => rw [e] at p; exact p
    | ok b =>
      rw [e] at p
      exact fun H' G' v f r => by
        obtain ⟨G2, f2, r2⟩ := i f r
        exact p H' G2 v f2 r2⟩
theorem e_qn [Own β] {m : Ctx.T c → Rs (Option β)} (h : PE X e (tX F kQ c m)) : PE X e (tX F kN c m) := e_kk (fun {H' G' H G v a} f r => ⟨G', f, by
  cases a with
  | none => exact r
  | some b =>
    obtain ⟨p, o, e, n, g, h, w⟩ := r
    exact ⟨p, o, e, h, w⟩⟩) h
theorem e_qf [Own β] {m : Ctx.T c → Rs (Option β)} (h : PE X e (tX F kQ c m)) : PE X e (tX F kF c m) := e_kk (fun {H' G' H G v a} f r => by
  cases a with
  | none => exact ⟨G', f, r⟩
  | some b =>
    obtain ⟨q, o, e1, e2, e3, e4, e5⟩ := r
    exact ⟨upd G' q o, f.freeze e2 e3 e4, q, o, e1, upd_same, Own.mono (Same.upd' (Same.refl G') e3) e5⟩) h
theorem e_fn [Own β] [LkO β] {m : Ctx.T c → Rs (Option β)} (h : PE X e (tX F kF c m)) : PE X e (tX F kN c m) := e_kk (fun {H' G' H G v a} f r => ⟨G', f, by
  cases a with
  | none => exact r
  | some b =>
    obtain ⟨p, o, e, h, w⟩ := r
    obtain ⟨o', k1, k2⟩ := f.gh.own h w
    exact ⟨p, o', e, k1, k2⟩⟩) h
theorem e_nonQ [Own β] {j pos} : PE X (.Constant .none j pos) (tX F kQ c fun _ => .ok (none : Option β)) := pe_mono pe_non fun σ H Q ⟨H0, G0, G, os, γ, st, p⟩ => p H G .non (Fr.refl st.f.gh) rfl
theorem e_someQ [Own β] {m : Ctx.T c → Rs β} (h : PE X e (tX F kO c m)) : PE X e (tX F kQ c fun γ => (m γ).bind fun a => .ok (some a)) :=
  pe_mono h fun σ H Q ⟨H0, G0, G, os, γ, st, p⟩ => ⟨H0, G0, G, os, γ, st, by
    dsimp only at p
    cases e : m γ with
    | no => rw [e] at p; exact p
    | ex x => rw [e] at p; exact p
    | ok b => rw [e] at p; exact fun H' G' v f r => p H' G' v f r⟩
theorem e_varQ [Own β] {i : Nat} (v : Var c (.oo i β)) {x : Str} (hN : X.N[i]? = some x := by rfl) (hv : Vis X.env.scope x := by first | exact Or.inl rfl | exact Or.inr (Or.inl rfl) | exact Or.inr (Or.inr rfl))
    (hd : (x == ("__debug__" : Str)) = false := by decide) (hcd : (x == ("__classdict__" : Str)) = false := by decide) : PE X (.Name x pos) (tX F kN c fun γ => .ok (v.get γ)) :=
  pe_mono (pe_var hN hv hd hcd) fun σ H Q ⟨H0, G0, G, os, γ, st, p⟩ => by
    dsimp only at p
    rcases v.oo st.r with ⟨e, h1⟩ | ⟨b, q, o, e, _, h1, h2, h3⟩
    · rw [e] at p
      exact ⟨.non, h1, p H G _ (Fr.refl st.f.gh) rfl⟩
    · rw [e] at p
      exact ⟨.ref q, h1, p H G _ (Fr.refl st.f.gh) ⟨q, o, rfl, h2, h3⟩⟩
/-- what is there -/
theorem e_nar [Own β] {m : Ctx.T c → Rs (Option β)} (h : PE X e (tX F kN c m)) : PE X e (tX F kB c fun γ => (m γ).bind theI) :=
  pe_mono h fun σ H Q ⟨H0, G0, G, os, γ, st, p⟩ => ⟨H0, G0, G, os, γ, st, p.step kN fun v H1 G1 a fr ra p1 => by
    cases a with
    | none => exact p1.elim
    | some b => exact p1 H1 G1 v (Fr.refl fr.gh) ra⟩
theorem e_narF [Rep α] {m : Ctx.T c → Rs (Option α)} (h : PE X e (tX F kF c m)) : PE X e (tX F kF c fun γ => (m γ).bind theI) :=
  pe_mono h fun σ H Q ⟨H0, G0, G, os, γ, st, p⟩ => ⟨H0, G0, G, os, γ, st, p.step kF fun v H1 G1 a fr ra p1 => by
    cases a with
    | none => exact p1.elim
    | some b => exact p1 H1 G1 v (Fr.refl fr.gh) ra⟩
theorem m_isNN {wd : Wd} [Own β] : Sem2 (wd := wd) kN kF kF (fun x y H Q => y = .non ∧ Q (.bl (decide (x = .non))) H) (fun (a : Option β) (_ : Unit) => .ok a.isNone) := by
  intro W σ B1 B2 H G x y a b Q gh hx hy p
  refine ⟨hy, ?_⟩
  have e : decide (x = .non) = a.isNone := by
    cases a with
    | none => exact decide_eq_true hx
    | some a =>
      obtain ⟨p, o, e, _⟩ := hx
      exact decide_eq_false (by rw [e]; exact nofun)
  rw [e]
  exact p H G _ (Fr.refl gh) rfl
theorem m_notNN {wd : Wd} [Own β] : Sem2 (wd := wd) kN kF kF (fun x y H Q => y = .non ∧ Q (.bl (!decide (x = .non))) H) (fun (a : Option β) (_ : Unit) => .ok a.isSome) := by
  intro W σ B1 B2 H G x y a b Q gh hx hy p
  refine ⟨hy, ?_⟩
  have e : (!decide (x = .non)) = a.isSome := by
    cases a with
    | none => rw [decide_eq_true (show x = .non from hx)]; rfl
    | some a =>
      obtain ⟨p, o, e, _⟩ := hx
      rw [decide_eq_false (by rw [e]; exact nofun)]; rfl
  rw [e]
  exact p H G _ (Fr.refl gh) rfl
theorem ty_optN {wd : Wd} {K : PySem.W.Frag} [Rep α] {B H G : Hp} {v : V} {a : Option (List α)} (_ : SameL G H) (h : (kN (wd := wd)).rel B H G v a) : TyX K H v (if a.isSome then .type "list" else .type "NoneType") := by
  cases a with
  | none => rw [show v = .non from h]; exact .base .non
  | some b =>
    obtain ⟨q, o, e1, e2, vs, e3, e4, r⟩ := h
    subst e1; subst e3
    exact .base (.lst e2)
omit [TabT] in
theorem kit_optL {K : PySem.W.Frag} : ∀ o : Option (List α), PySem.W.kitOne K (if o.isSome then .type "list" else .type "NoneType") (.type "list") = some o.isSome
  | none => kit_ty (a := "NoneType") (b := "list") (r := false) (by decide +kernel)
  | some _ => kit_ty (a := "list") (b := "list") (r := true) (by decide +kernel)
omit [TabT] in
theorem R.pushQ {wd : Wd} {H0 H G : Hp} {σ : L2.St} {os : List Addr} {γ : Ctx.T c'} [Own β] {j : Nat} (hn : Ctx.not j c' = true) (l : j < σ.length) (h : R wd H0 σ H G c' γ os) : R wd H0 (σ.set j (some .non)) H G (.oo j β :: c') (none, γ) os :=
  .inl ⟨rfl, List.getElem?_set_self l, h.set hn⟩
theorem s_setTQ [Own β] {st : Stmt} {te : TE} {m : Ctx.T c → Rs (Option β)} {j : Nat} (h : PS X st (tAsg te (gName j))) (he : ∀ σ H Q, tX F kQ c m σ H Q → te σ H Q) (s : Sub c c') (hj : F.n.lt j) (hn : Ctx.not j c' = true) : PS X st (tS F c (.oo j β :: c') fun γ => (m γ).bind fun a => .ok (a, s.proj γ)) :=
  ps_mono h fun D σ H ⟨H0, G0, G, os, γ, st, p⟩ => he _ _ _ ⟨H0, G0, G, os, γ, st, p.step st kQ fun v H1 G1 a fr ra p1 => by
    obtain ⟨os', hs, st'⟩ := (st.ext fr).sub s
    cases a with
    | none =>
      rw [show v = .non from ra]
      exact p1 _ _ _ _ ⟨st'.len.set hj, st'.f, st'.nd, st'.fr, R.pushQ hn (by rw [st'.len.1]; exact hj.1) st'.r, st'.t⟩
    | some b =>
      obtain ⟨q, o, ev, n, g, hq, w⟩ := ra
      subst ev
      have nq : q ∉ os' := fun z => by
        obtain ⟨o2, h2, _⟩ := st.r.there q (hs.subset z)
        rw [n] at h2
        cases h2
      refine p1 _ _ _ (q :: os') ⟨st'.len.set hj, st'.f, List.nodup_cons.mpr ⟨nq, st'.nd⟩, fun r hr => ?_, .inr ⟨b, q, o, os', rfl, rfl, List.getElem?_set_self (by rw [st'.len.1]; exact hj.1), hq, w, st'.r.set hn⟩, st'.t⟩
      rcases List.mem_cons.mp hr with e | e
      · rw [e]; exact ⟨g, st.f.h.free n⟩
      · exact st'.fr r e⟩
theorem s_setQ [Own β] {m : Ctx.T c → Rs (Option β)} {j : Nat} {x : Str} {pos pos' : Pos} (hN : X.N.Nodup) (h : PE X e (tX F kQ c m)) (s : Sub c c') (hj : F.n.lt j) (hn : Ctx.not j c' = true) (hi : X.N[j]? = some x := by rfl) (hx : Loc X.env.scope x := by first | exact .inl rfl | exact .inr rfl) (hs : swapsWith e (some (.Name x pos')) pos.line X.env = pure false := by rfl) (hf : X.fn x = true ∨ X.env.scope.names.lookup x = some .local := by first | exact .inl rfl | exact .inr rfl) :
    PS X (.Assign [.Name x pos'] e pos) (tS F c (.oo j β :: c') fun γ => (m γ).bind fun a => .ok (a, s.proj γ)) := s_setTQ (ps_set hN hi hx h hs hf) (fun _ _ _ q => q) s hj hn
end
section
variable {X : Cx} {F : Fx} {c c' c1 : Ctx} {ρ : Type} {kr : Kd F.wd ρ} {sts : List Stmt}
omit [TabT] in
theorem Nar.noex : ∀ {c c' : Ctx} (s : Nar c c') {γ : Ctx.T c} {x : Exc}, s.go γ ≠ .ex x
  | _, _, .z, (none, γ), x, e => by cases e
  | _, _, .z, (some b, γ), x, e => by cases e
  | _, _, .s n, γ, x, e => by
    have e' : (n.go γ.2).bind (fun g => .ok (γ.1, g)) = .ex x := e
    cases e2 : n.go γ.2 with
    | no => rw [e2] at e'; cases e'
    | ex y => exact n.noex e2
    | ok g => rw [e2] at e'; cases e'
theorem b_narT {m : Ctx.T c1 → Rs ρ} (s : Nar c c1) (h : PSs X sts (tT F kr c1 m)) : PSs X sts (tT F kr c fun γ => (s.go γ).bind m) :=
  pss_mono h fun D σ H ⟨H0, G0, G, os, γ, st, p⟩ => by
    dsimp only at p
    cases e : s.go γ with
    | no => rw [e] at p; exact p.elim
    | ex x => exact (s.noex e).elim
    | ok g => rw [e] at p; exact ⟨H0, G0, G, os, g, st.nar s e, p⟩
theorem b_narS {m : Ctx.T c1 → Rs (Ctx.T c')} (s : Nar c c1) (h : PSs X sts (tS F c1 c' m)) : PSs X sts (tS F c c' fun γ => (s.go γ).bind m) :=
  pss_mono h fun D σ H ⟨H0, G0, G, os, γ, st, p⟩ => by
    dsimp only at p
    cases e : s.go γ with
    | no => rw [e] at p; exact p.elim
    | ex x => exact (s.noex e).elim
    | ok g => rw [e] at p; exact ⟨H0, G0, G, os, g, st.nar s e, p⟩
theorem b_narG {m : Ctx.T c1 → Rs (Ctx.T c' ⊕ ρ)} (s : Nar c c1) (h : PSs X sts (tG F kr c1 c' m)) : PSs X sts (tG F kr c c' fun γ => (s.go γ).bind m) :=
  pss_mono h fun D σ H ⟨H0, G0, G, os, γ, st, p⟩ => by
    dsimp only at p
    cases e : s.go γ with
    | no => rw [e] at p; exact p.elim
    | ex x => exact (s.noex e).elim
    | ok g => rw [e] at p; exact ⟨H0, G0, G, os, g, st.nar s e, p⟩
theorem t_retWQ {β : Type} [Own β] {i : Nat} {pos pos' : Pos} (v : Var c (.ow i β)) {x : Str} (hN : X.N[i]? = some x := by rfl) (hv : Vis X.env.scope x := by first | exact Or.inl rfl | exact Or.inr (Or.inl rfl) | exact Or.inr (Or.inr rfl))
    (hd : (x == ("__debug__" : Str)) = false := by decide) (hcd : (x == ("__classdict__" : Str)) = false := by decide) : PSs X [.Return (some (.Name x pos')) pos] (tT F kQ c fun γ => .ok (some (v.get γ))) :=
  pss_mono (pss_one (ps_ret (pe_var hN hv hd hcd))) fun D σ H ⟨H0, G0, G, os, γ, st, p⟩ => by
    obtain ⟨q, o, h0, h1, h2, h3⟩ := v.ow st.r
    exact ⟨.ref q, h1, p H G _ st.f ⟨q, o, rfl, (st.fr q h0).2, (st.fr q h0).1, h2, h3⟩⟩
theorem t_retQ {β : Type} [Own β] {i : Nat} {pos pos' : Pos} (v : Var c (.oo i β)) {x : Str} (hN : X.N[i]? = some x := by rfl) (hv : Vis X.env.scope x := by first | exact Or.inl rfl | exact Or.inr (Or.inl rfl) | exact Or.inr (Or.inr rfl))
    (hd : (x == ("__debug__" : Str)) = false := by decide) (hcd : (x == ("__classdict__" : Str)) = false := by decide) : PSs X [.Return (some (.Name x pos')) pos] (tT F kQ c fun γ => .ok (v.get γ)) :=
  pss_mono (pss_one (ps_ret (pe_var hN hv hd hcd))) fun D σ H ⟨H0, G0, G, os, γ, st, p⟩ => by
    dsimp only at p
    rcases v.oo st.r with ⟨e, h1⟩ | ⟨b, q, o, e, h0, h1, h2, h3⟩
    · rw [e] at p
      exact ⟨.non, h1, p H G _ st.f rfl⟩
    · rw [e] at p
      exact ⟨.ref q, h1, p H G _ st.f ⟨q, o, rfl, (st.fr q h0).2, (st.fr q h0).1, h2, h3⟩⟩
end
end Wm
set_option Elab.async false
set_option linter.all false
set_option maxRecDepth 100000
set_option maxHeartbeats 4000000
namespace Wm
open PySem PySem.Spec PyProof.Rows L2
local instance : TabT := ⟨[]⟩
/-! ### more plain laws -/
section
variable {α β γ ρ : Type}
theorem theI_some (a : α) : theI (some a) = .ok a := rfl
theorem getI_last {xs : List α} {a : α} : getI (xs ++ [a]) (-1) = .ok a := by
  unfold getI atI ixN
  rw [if_neg (by decide), if_pos (by rw [List.length_append]; simp only [List.length_cons, List.length_nil]; omega)]
  simp only [List.length_append, List.length_cons, List.length_nil, Option.bind_some]
  rw [show ((-1 : Int) + ((xs.length + (0 + 1) : Nat) : Int)).toNat = xs.length by omega]
  rw [List.getElem?_append_right (Nat.le_refl _), Nat.sub_self]
  rfl
theorem cutI_take {xs : List α} {k : Int} (h : 0 ≤ k) : cutI xs none (some k) = xs.take k.toNat := by
  unfold cutI
  have : k = ((k.toNat : Nat) : Int) := by omega
  rw [this, HT.sIx_nat, HT.sIx_none, List.drop_zero, Nat.sub_zero, Int.toNat_natCast]
  rcases Nat.le_total k.toNat xs.length with h1 | h1
  · rw [Nat.min_eq_left h1]
  · rw [Nat.min_eq_right h1, List.take_of_length_le (Nat.le_refl _), List.take_of_length_le h1]
theorem cutI_drop {xs : List α} {k : Int} (h : 0 ≤ k) : cutI xs (some k) none = xs.drop k.toNat := by
  unfold cutI
  have : k = ((k.toNat : Nat) : Int) := by omega
  rw [this, HT.sIx_nat, HT.sIx_none, Int.toNat_natCast]
  rcases Nat.le_total k.toNat xs.length with h1 | h1
  · rw [Nat.min_eq_left h1, List.take_of_length_le (by rw [List.length_drop]; omega)]
  · rw [Nat.min_eq_right h1, List.drop_of_length_le h1, List.drop_of_length_le (Nat.le_refl _), List.take_nil]
theorem maxI_two (a b : Int) : maxI [a, b] = .ok (max a b) := by
  unfold maxI
  rw [show [a, b].max? = some (max a b) from rfl]
theorem minI_two (a b : Int) : minI [a, b] = .ok (min a b) := by
  unfold minI
  rw [show [a, b].min? = some (min a b) from rfl]
/-- sums of the first ones -/
def pre (xs : List Int) (k : Nat) : Int := (xs.take k).sum
theorem pre_zero (xs : List Int) : pre xs 0 = 0 := rfl
theorem sum_app (xs ys : List Int) : (xs ++ ys).sum = xs.sum + ys.sum := by
  induction xs with
  | nil => simp
  | cons x xs ih => rw [List.cons_append, List.sum_cons, List.sum_cons, ih]; omega
theorem pre_succ {xs : List Int} {k : Nat} {c : Int} (h : xs[k]? = some c) : pre xs (k + 1) = pre xs k + c := by
  unfold pre
  rw [List.take_succ, h, sum_app]
  simp
theorem pre_all (xs : List Int) : pre xs xs.length = xs.sum := by
  unfold pre
  rw [List.take_of_length_le (Nat.le_refl _)]
theorem pre_ge {xs : List Int} {a : Int} (h : ∀ c ∈ xs, a ≤ c) : ∀ k, k ≤ xs.length → a * k ≤ pre xs k
  | 0, _ => by rw [pre_zero]; simp
  | k + 1, hk => by
    have := pre_ge h k (by omega)
    rw [pre_succ (List.getElem?_eq_getElem (show k < xs.length by omega))]
    have h2 := h _ (List.getElem_mem (show k < xs.length by omega))
    rw [Int.natCast_add, Int.mul_add]
    simp only [Int.natCast_one, Int.mul_one]
    omega
theorem pre_le {xs : List Int} {a : Int} (h : ∀ c ∈ xs, c ≤ a) : ∀ k, k ≤ xs.length → pre xs k ≤ a * k
  | 0, _ => by rw [pre_zero]; simp
  | k + 1, hk => by
    have := pre_le h k (by omega)
    rw [pre_succ (List.getElem?_eq_getElem (show k < xs.length by omega))]
    have h2 := h _ (List.getElem_mem (show k < xs.length by omega))
    rw [Int.natCast_add, Int.mul_add]
    simp only [Int.natCast_one, Int.mul_one]
    omega
/-- a comprehension whose test is plain -/
theorem comp_none {t : α → Rs Bool} {f : α → Rs β} {xs : List α} (h : ∀ x ∈ xs, t x = .ok false) : Rs.comp t f xs = .ok [] := by
  induction xs with
  | nil => rfl
  | cons x xs ih =>
    simp only [Rs.comp]
    rw [h x List.mem_cons_self]
    exact ih fun y hy => h y (List.mem_cons_of_mem _ hy)
theorem rng_nil {lo hi : Int} (h : hi ≤ lo) : rng lo hi = [] := by
  unfold rng
  rw [show (hi - lo).toNat = 0 by omega]
  rfl
/-! ### signs, names -/
abbrev LET : Str := ("abcdefghijklmnopqrstuvwxyz0123456789" : Str)
/-- only the signs of a record -/
def Sg (t : Str) : Prop := ∀ c ∈ t.cps.toList, c ∈ LET.cps.toList
theorem Sg.app {a b : Str} (h : Sg a) (k : Sg b) : Sg (a ++ b) := fun c hc => by
  rw [app_list] at hc
  rcases List.mem_append.mp hc with z | z
  · exact h c z
  · exact k c z
theorem Sg.cut {a : Str} (h : Sg a) (lo hi : Option Int) : Sg (cutS a lo hi) := fun c hc => by
  unfold cutS at hc
  have hc' : c ∈ (List.toArray _).toList := hc
  rw [List.toList_toArray] at hc'
  exact h c (List.mem_of_mem_drop (List.mem_of_mem_take hc'))
theorem one_len (c : Nat) : (⟨#[c]⟩ : Str).length = 1 := rfl
theorem let_get {k : Int} (h0 : 0 ≤ k) (h1 : k < 36) : ∃ y, getI (chars LET) k = .ok y ∧ y.length = 1 ∧ Sg y := by
  obtain ⟨y, e, h'⟩ := getI_ex (xs := chars LET) h0 (by rw [chars_len]; exact h1)
  have hy := List.mem_of_getElem? e
  unfold chars at hy
  obtain ⟨c, hc, rfl⟩ := List.mem_map.mp hy
  exact ⟨_, h', rfl, fun d hd => by
    have : d = c := by simpa using hd
    rw [this]; exact hc⟩
theorem cut_to {a : Str} {k : Int} (h0 : 0 ≤ k) : (cutS a none (some k)).length ≤ k.toNat := by
  rw [Str.len_toList]
  unfold cutS
  show (List.toArray _).toList.length ≤ _
  have : k = ((k.toNat : Nat) : Int) := by omega
  rw [List.toList_toArray, List.length_take, this, HT.sIx_nat, HT.sIx_none]
  omega
/-- a record's text -/
structure IsRec (t : Str) : Prop where
  sg : Sg t
  lo : 1 ≤ t.length
  hi : t.length ≤ 8
theorem rep_get {xs : List α} : ∀ (n i : Nat), i < n * xs.length → ((List.replicate n xs).flatten)[i]? = xs[i % xs.length]?
  | 0, i, h => by omega
  | n + 1, i, h => by
    rw [List.replicate_succ, List.flatten_cons]
    by_cases hi : i < xs.length
    · rw [List.getElem?_append_left hi, Nat.mod_eq_of_lt hi]
    · rw [List.getElem?_append_right (by omega), rep_get n (i - xs.length) (by rw [Nat.add_mul] at h; omega), ← Nat.mod_eq_sub_mod (by omega)]
theorem rep_mem {xs : List α} {n : Nat} {a : α} (h : a ∈ (List.replicate n xs).flatten) : a ∈ xs := by
  obtain ⟨l, hl, ha⟩ := List.mem_flatten.mp h
  rw [(List.mem_replicate.mp hl).2] at ha
  exact ha
theorem rep_flen {xs : List α} (n : Nat) : ((List.replicate n xs).flatten).length = n * xs.length := by
  induction n with
  | zero => simp
  | succ n ih => rw [List.replicate_succ, List.flatten_cons, List.length_append, ih, Nat.add_mul]; omega
theorem getI_at {xs : List α} {k : Int} {i : Nat} {a : α} (hk : k = (i : Int)) (h : xs[i]? = some a) : getI xs k = .ok a := by rw [hk]; exact getI_nat h
/-- step by step: what is known behind the first part -/
theorem Rs.exb {r : Rs α} {f : α → Rs β} {P : β → Prop} (Q : α → Prop) (h : ∃ a, r = .ok a ∧ Q a) (k : ∀ a, Q a → ∃ b, f a = .ok b ∧ P b) : ∃ b, r.bind f = .ok b ∧ P b := by
  obtain ⟨a, rfl, q⟩ := h
  exact k a q
theorem Rs.exi {b : Bool} {x y : Rs α} {P : α → Prop} (h1 : b = true → ∃ a, x = .ok a ∧ P a) (h2 : b = false → ∃ a, y = .ok a ∧ P a) : ∃ a, (if b = true then x else y) = .ok a ∧ P a := by
  cases b with
  | true => exact h1 rfl
  | false => exact h2 rfl
theorem maxI_spec {xs : List Int} {m : Int} : maxI xs = .ok m ↔ m ∈ xs ∧ ∀ x ∈ xs, x ≤ m := by
  unfold maxI
  cases e : xs.max? with
  | none =>
    rw [List.max?_eq_none_iff] at e
    subst e
    simp
  | some a =>
    have h := List.max?_eq_some_iff.mp e
    constructor
    · intro h2; cases h2; exact h
    · rintro ⟨h1, h2⟩
      have q1 : m ≤ a := h.2 m h1
      have q2 : a ≤ m := h2 a h.1
      have q : a = m := by omega
      rw [q]
theorem minI_spec {xs : List Int} {m : Int} : minI xs = .ok m ↔ m ∈ xs ∧ ∀ x ∈ xs, m ≤ x := by
  unfold minI
  cases e : xs.min? with
  | none =>
    rw [List.min?_eq_none_iff] at e
    subst e
    simp
  | some a =>
    have h := List.min?_eq_some_iff.mp e
    constructor
    · intro h2; cases h2; exact h
    · rintro ⟨h1, h2⟩
      have q1 : a ≤ m := h.2 m h1
      have q2 : m ≤ a := h2 a h.1
      have q : a = m := by omega
      rw [q]
theorem maxI_ok {xs : List Int} (h : xs ≠ []) : ∃ m, maxI xs = .ok m ∧ m ∈ xs ∧ ∀ x ∈ xs, x ≤ m := by
  cases e : maxI xs with
  | ok m => exact ⟨m, rfl, maxI_spec.mp e⟩
  | no =>
    unfold maxI at e
    cases e2 : xs.max? with
    | none => exact absurd (List.max?_eq_none_iff.mp e2) h
    | some a => rw [e2] at e; cases e
  | ex x =>
    unfold maxI at e
    cases e2 : xs.max? with
    | none => exact absurd (List.max?_eq_none_iff.mp e2) h
    | some a => rw [e2] at e; cases e
theorem minI_ok {xs : List Int} (h : xs ≠ []) : ∃ m, minI xs = .ok m ∧ m ∈ xs ∧ ∀ x ∈ xs, m ≤ x := by
  cases e : minI xs with
  | ok m => exact ⟨m, rfl, minI_spec.mp e⟩
  | no =>
    unfold minI at e
    cases e2 : xs.min? with
    | none => exact absurd (List.min?_eq_none_iff.mp e2) h
    | some a => rw [e2] at e; cases e
  | ex x =>
    unfold minI at e
    cases e2 : xs.min? with
    | none => exact absurd (List.min?_eq_none_iff.mp e2) h
    | some a => rw [e2] at e; cases e
/-- how many are below x -/
def below (s : List Int) (x : Int) : Int := ((s.filter fun y => decide (y < x)).length : Int)
/-- the low end of s, with a top t -/
structure IsFt (s : List Int) (t m : Int) : Prop where
  here : m = t - below s t ∨ ∃ x ∈ s, m = x - below s x
  top : t - below s t ≤ m
  all : ∀ x ∈ s, x - below s x ≤ m
theorem IsFt.uniq {s : List Int} {t m m' : Int} (h : IsFt s t m) (k : IsFt s t m') : m = m' := by
  have a : m ≤ m' := by
    rcases h.here with e | ⟨x, hx, e⟩
    · have := k.top; omega
    · have := k.all x hx; omega
  have b : m' ≤ m := by
    rcases k.here with e | ⟨x, hx, e⟩
    · have := h.top; omega
    · have := h.all x hx; omega
  omega
theorem IsFt.of_max {s : List Int} {t m : Int} {xs : List Int} (hx : ∀ z, z ∈ xs ↔ z = t ∨ z ∈ s) (h : maxI (xs.map fun x => x - below s x) = .ok m) : IsFt s t m := by
  obtain ⟨h1, h2⟩ := maxI_spec.mp h
  obtain ⟨z, hz, e⟩ := List.mem_map.mp h1
  refine ⟨?_, h2 _ (List.mem_map.mpr ⟨t, (hx t).mpr (.inl rfl), rfl⟩), fun x hxs => h2 _ (List.mem_map.mpr ⟨x, (hx x).mpr (.inr hxs), rfl⟩)⟩
  rcases (hx z).mp hz with k | k
  · exact .inl (by rw [← e, k])
  · exact .inr ⟨z, k, e.symm⟩
/-- what stands at the places that are not set aside -/
def spareL (L X : List Int) : List Int := ((rng 0 (L.length : Int)).filter fun k => !decide (k ∈ X)).map fun k => L.getD k.toNat 0
theorem spareL_mem {L X : List Int} {x : Int} (h : x ∈ spareL L X) : x ∈ L := by
  unfold spareL at h
  obtain ⟨k, hk, rfl⟩ := List.mem_map.mp h
  have hk' := mem_rng.mp (List.mem_filter.mp hk).1
  rw [List.getD_eq_getElem?_getD, List.getElem?_eq_getElem (show k.toNat < L.length by omega)]
  exact List.getElem_mem _
theorem spareL_len (L X : List Int) : (spareL L X).length ≤ L.length := by
  unfold spareL
  rw [List.length_map]
  exact Nat.le_trans (List.length_filter_le _ _) (by rw [rng0_len]; exact Nat.le_refl _)
theorem spareL_nil (L : List Int) : spareL L [] = L := by
  unfold spareL
  have e : (rng 0 (L.length : Int)).filter (fun k => !decide (k ∈ ([] : List Int))) = rng 0 (L.length : Int) := List.filter_eq_self.mpr (fun a _ => by simp)
  rw [e]
  apply List.ext_getElem?
  intro i
  rw [List.getElem?_map]
  by_cases h : i < L.length
  · rw [rng_at (by omega)]
    simp [List.getD_eq_getElem?_getD, List.getElem?_eq_getElem h]
  · rw [List.getElem?_eq_none (by rw [rng0_len]; omega), List.getElem?_eq_none (by omega)]
    rfl
theorem getD_at {L : List Int} {k : Int} (h0 : 0 ≤ k) (h1 : k < L.length) : getI L k = .ok (L.getD k.toNat 0) := by
  obtain ⟨a, e, h⟩ := getI_ex h0 h1
  rw [h, List.getD_eq_getElem?_getD, e]
  rfl
theorem comp_count {t : Int → Rs Bool} {p : Int → Bool} {xs : List Int} (ht : ∀ x ∈ xs, t x = .ok (p x)) (f : Int → Rs Int) (hf : ∀ x ∈ xs, f x = .ok x) : Rs.comp t f xs = .ok (xs.filter p) := by
  rw [comp_filter (p := p) (g := fun x => x) ht (fun x hx _ => hf x hx), List.map_id']
/-- the highest stand of x - below, looked for at all heights -/
theorem IsFt.heights {s : List Int} {lo t m : Int} (hlo : ∀ x ∈ s, lo ≤ x) (ht : ∀ x ∈ s, x ≤ t) (hlt : lo ≤ t) (h1 : m = lo ∨ ∃ x, lo ≤ x ∧ x ≤ t ∧ m = x - below s x) (h2 : ∀ x, lo ≤ x → x ≤ t → x - below s x ≤ m) : IsFt s t m := by
  have bmono : ∀ x y, x ≤ y → (∀ z ∈ s, z < y → z < x) → below s y = below s x := by
    intro x y hxy hz
    unfold below
    congr 2
    apply List.filter_congr
    intro z hzs
    rw [decide_eq_decide]
    exact ⟨hz z hzs, fun h => by omega⟩
  have b0 : below s lo = 0 := by
    unfold below
    rw [List.filter_eq_nil_iff.mpr (fun x hx => by have := hlo x hx; simp; omega)]
    rfl
  have key : ∀ (n : Nat) (x : Int), lo ≤ x → x ≤ t → (t - x).toNat = n → ∃ y, (y = t ∨ y ∈ s) ∧ x - below s x ≤ y - below s y := by
    intro n
    induction n with
    | zero => intro x h3 h4 h5; exact ⟨t, .inl rfl, by rw [show x = t by omega]; exact Int.le_refl _⟩
    | succ n ih =>
      intro x h3 h4 h5
      by_cases hx : x ∈ s
      · exact ⟨x, .inr hx, Int.le_refl _⟩
      · obtain ⟨y, hy, hy2⟩ := ih (x + 1) (by omega) (by omega) (by omega)
        refine ⟨y, hy, Int.le_trans ?_ hy2⟩
        rw [bmono x (x + 1) (by omega) (fun z hz h => by
          have : z ≠ x := fun e => hx (e ▸ hz)
          omega)]
        omega
  have mg : ∃ y, (y = t ∨ y ∈ s) ∧ m ≤ y - below s y := by
    rcases h1 with e | ⟨x, h3, h4, e⟩
    · obtain ⟨y, hy, hy2⟩ := key _ lo (Int.le_refl _) hlt rfl
      exact ⟨y, hy, by rw [b0] at hy2; omega⟩
    · obtain ⟨y, hy, hy2⟩ := key _ x h3 h4 rfl
      exact ⟨y, hy, by omega⟩
  refine ⟨?_, h2 t hlt (Int.le_refl _), fun x hx => h2 x (hlo x hx) (ht x hx)⟩
  obtain ⟨y, hy, hy2⟩ := mg
  rcases hy with e | hy
  · subst e
    exact .inl (by have := h2 y hlt (Int.le_refl _); omega)
  · exact .inr ⟨y, hy, by have := h2 y (hlo y hy) (ht y hy); omega⟩
end
end Wm
set_option Elab.async false
set_option linter.all false
set_option maxRecDepth 100000
set_option maxHeartbeats 4000000
namespace Wm
open PySem PySem.Spec PyProof.Rows L2
open Rep (rep)
open Own (own)
variable [TabT]
/-! ### own classes: calls of a method, making, where what is raised is wished for at the caller's slots -/
section
variable {X : Cx} {CX : CXT} {k : Nat} {f C : Addr} {fd : FuncData} {ps : List Str} {sp : Sp} {E : L2.St → XK} {x m : Str} {p pos apos : Pos} {e o : Expr} {es : List Expr} {ta : TE} {t : TA}
omit [TabT] in
def tMethW (C : Addr) (m : Str) (sp : Sp) (E : L2.St → XK) (ta : TE) (t : TA) : TE := fun σ H Q => ta σ H fun x H1 => ∃ a dx fs, x = .ref a ∧ H1 a = some (.ins C dx fs) ∧ fs.lookup m = none ∧ t σ H1 fun vs H2 => sp (x :: vs) H2 Q (E σ)
omit [TabT] in
theorem pe_methW {pl : Sem Bool} (he : PE X o ta) (c : Cls X.K C) (hm : Meth X.K C m f) (Fn : FnOk X.prog X.w X.K X.mg X.base CX k f fd ps sp) (room : Room k X.A) (hb : Binds X.K fd ps []) (hx : ∀ σ, PassesAt CX X σ (E σ)) (ha : PA X (e :: es) t)
    (hst : starEach (e :: es) X.env = (false, eval e X.env) :: starEach es X.env := by rfl) (hpl : (backTo pos (starEach es X.env)).any (·.1) = false := by rfl)
    (ht : eval (.Call (.Attribute o m apos) (e :: es) [] pos) X.env = (do let ov ← eval o X.env; standAt apos.atName; let (f, first) ← holding [ov] (getMethod ov m pl); callWith pos f first (backTo pos (starEach (e :: es) X.env)) (backToKw pos (keywordEach [] X.env))) := by rfl) :
    PE X (.Call (.Attribute o m apos) (e :: es) [] pos) (tMethW C m sp E ta t) := ⟨fun pins s σ H Q I h => by
  refine PySem.W.methodCall_KW (pl := pl) (thn (he.run pins s σ H _ I h) fun u s1 ⟨y, H1, I1, ry, a, dx, fs, ey, ea, l, q⟩ => ?_) ht
  subst ey; obtain rfl : u = Value.ref a := ry
  refine getmeth_ok I1 ea c hm l (PySem.W.callWith_K (first := [.ref a]) (h₀ := X.base) I1.ok.mod.kin hm.kp (thn (ha.run pos pins s1 σ H1 _ I1 q) fun us s2 ⟨vs, H2, I2, r, q2⟩ => ⟨I2.kIn, ?_⟩) hst hpl)
  exact run_fnSD (us := .ref a :: us) (vs := .ref a :: vs) (dvs := []) (ds := []) Fn room hb .nil (hx σ) I2 (.cons rfl r) (by rw [List.append_nil]; exact q2)⟩
omit [TabT] in
theorem pe_methW0 {pl : Sem Bool} (he : PE X o ta) (c : Cls X.K C) (hm : Meth X.K C m f) (Fn : FnOk X.prog X.w X.K X.mg X.base CX k f fd ps sp) (room : Room k X.A) (hb : Binds X.K fd ps []) (hx : ∀ σ, PassesAt CX X σ (E σ))
    (ht : eval (.Call (.Attribute o m apos) [] [] pos) X.env = (do let ov ← eval o X.env; standAt apos.atName; let (f, first) ← holding [ov] (getMethod ov m pl); callWith pos f first (backTo pos (starEach [] X.env)) (backToKw pos (keywordEach [] X.env))) := by rfl) :
    PE X (.Call (.Attribute o m apos) [] [] pos) (tMethW C m sp E ta tNil) := ⟨fun pins s σ H Q I h => by
  refine PySem.W.methodCall_KW (pl := pl) (thn (he.run pins s σ H _ I h) fun u s1 ⟨y, H1, I1, ry, a, dx, fs, ey, ea, l, q⟩ => ?_) ht
  subst ey; obtain rfl : u = Value.ref a := ry
  exact getmeth_ok I1 ea c hm l (PySem.W.callWith_K0 (first := [.ref a]) I1.kIn hm.kp (run_fnSD (us := [.ref a]) (vs := [.ref a]) (dvs := []) (ds := []) Fn room hb .nil (hx σ) I1 (.cons rfl .nil) q))⟩
omit [TabT] in
def tMakeW (C : Addr) (sp : Sp) (E : L2.St → XK) (t : TA) : TE := fun σ H Q => t σ H fun vs H1 => ∀ x dx, H1 x = none → H1 dx = none → dx ≠ x →
  sp (.ref x :: vs) (upd (upd H1 dx (.own x)) x (.ins C dx [])) (fun v H2 => v = .non ∧ Q (.ref x) H2) (E σ)
omit [TabT] in
theorem run_makeW {pins : List (Addr × Obj)} {σ : L2.St} {H : Hp} {s : Shared} {Q : VK} {us : List Value} {vs : List V} {E : XK} (M : Mk X.K C f) (Fn : FnOk X.prog X.w X.K X.mg X.base CX k f fd ps sp) (room : Room (k + 1) X.A) (hb : Binds X.K fd ps [])
    (hx : PassesAt CX X σ E) (I : Inv X pins σ H s) (r : Vals vs us) (h : ∀ x dx, H x = none → H dx = none → dx ≠ x → sp (.ref x :: vs) (upd (upd H dx (.own x)) x (.ins C dx [])) (fun v H2 => v = .non ∧ Q (.ref x) H2) E) :
    wpAny (model X.prog X.w) X.A (call (.ref C) us) (EP X pins σ Q) X.xe s := by
  have hq := h (s.heap.objs.size + 1) s.heap.objs.size (I.hok.fresh (Nat.le_succ _)) (I.hok.fresh (Nat.le_refl _)) (Nat.ne_of_lt (Nat.lt_succ_self _))
  have I2 := Inv.made (C := C) I
  have r2 : Vals (V.ref (s.heap.objs.size + 1) :: vs) (Value.ref (s.heap.objs.size + 1) :: us) := .cons rfl r
  have hl : (Value.ref (s.heap.objs.size + 1) :: us ++ []).length = ps.length := by rw [List.append_nil, ← r2.length]; exact Fn.len _ _ _ _ hq
  have bd := hb _ (Value.ref (s.heap.objs.size + 1) :: us) I2.kIn hl
  rw [List.append_nil] at bd
  refine wpAny_call (make_map (f := f) I.kIn M.makes M.init (beq_iff_eq.mp M.fn) (codeAny_mono (Fn.run _ X.stack _ _ ⟨Value.ref (s.heap.objs.size + 1) :: us, []⟩ _ _ _ E (room.make C us []) (I2.env0.make C us []) bd r2 hq) fun r s' hq' => ?_))
  match r, hq' with
  | .error e, hq' => exact hx pins _ _ e s' I2 hq'
  | .ok (.ret u), hq' =>
    obtain ⟨v, H', I3, rv, ev, q3⟩ := I2.after hq'
    subst ev; exact ⟨rv, ⟨V.ref (s.heap.objs.size + 1), H', I3, rfl, q3⟩⟩
omit [TabT] in
theorem pe_makeW (M : Mk X.K C f) (Fn : FnOk X.prog X.w X.K X.mg X.base CX k f fd ps sp) (room : Room (k + 1) X.A) (hg : Gl X x) (hm : X.mg x = some (.ref C)) (hb : Binds X.K fd ps []) (hx : ∀ σ, PassesAt CX X σ (E σ)) (ha : PA X (e :: es) t) (hdb : (x == ("__debug__" : Str)) = false := by decide)
    (he : starEach (e :: es) X.env = (false, eval e X.env) :: starEach es X.env := by rfl) (hpl : (backTo pos (starEach es X.env)).any (·.1) = false := by rfl) : PE X (.Call (.Name x p) (e :: es) [] pos) (tMakeW C sp E t) := ⟨fun pins s σ H Q I h => by
  refine wpAny_Call_Name_kw (ld_glob I hg hm ?_ hdb)
  exact PySem.W.callWith_K (h₀ := X.base) I.ok.mod.kin M.kp (thn (ha.run pos pins s σ H _ I h) fun us s1 ⟨vs, H1, I1, r, q⟩ => ⟨I1.kIn, run_makeW M Fn room hb (hx σ) I1 r q⟩) he hpl⟩
end
/-! ### objects of an own class -/
/-- the objects that stand for b are instances of the class C with these attributes -/
structure IsIns (C : String) (β : Type) [Own β] (fl : List Str) : Prop where
  ins : ∀ {wd G o} {b : β}, own wd G o b → ∃ dx fs, o = .ins (wd.cm C) dx fs ∧ fs.map (·.1) = fl
omit [TabT] in
theorem lookup_no {fs : List (Str × V)} {fl : List Str} {m : Str} (h : fs.map (·.1) = fl) (n : fl.contains m = false) : fs.lookup m = none := by
  subst h
  induction fs with
  | nil => rfl
  | cons p fs ih =>
    obtain ⟨a, v⟩ := p
    rw [List.map_cons, List.contains_cons, Bool.or_eq_false_iff] at n
    rw [List.lookup_cons, n.1]
    exact ih n.2
section
variable {X : Cx} {F : Fx} {c : Ctx} {α β ρ : Type} {e o : Expr} {es : List Expr} {pos apos : Pos}
/-- an attribute is read -/
theorem e_fld [Own β] [Rep α] {C : String} {a : Addr} {f : Str} {g : β → α} {m : Ctx.T c → Rs β} (hC : F.wd.cm C = a) (hc : Cls X.K a) (hn : NoAttr X.K a f) (hf : ∀ {wd G o} {b : β}, own wd G o b → ∃ dx fs v, o = .ins (wd.cm C) dx fs ∧ fs.lookup f = some v ∧ rep wd G v (g b))
    (h : PE X e (tX F kB c m)) (hb : attributeBase e f X.env (eval e X.env) = eval e X.env := by rfl) : PE X (.Attribute e f pos) (tX F kF c fun γ => (m γ).bind fun b => .ok (g b)) :=
  pe_mono (pe_fld h hb) fun σ H Q ⟨H0, G0, G, os, γ, st, p⟩ => ⟨H0, G0, G, os, γ, st, p.step kB fun v H1 G1 b f1 ⟨q, o, e1, e2, e3⟩ p1 => by
    obtain ⟨dx, fs, u, e4, e5, e6⟩ := hf e3
    subst e4; subst hC
    exact ⟨q, _, dx, fs, u, e1, e2, hc, hn, e5, p1 _ _ _ (Fr.refl f1.gh) e6⟩⟩
/-- a method is called -/
theorem e_meth [Own β] {C : String} {fl : List Str} {a f : Addr} {m : Str} {fd : FuncData} {ps : List Str} {k : Nat} {kr : Kd F.wd ρ} {Γ : Ctx} {mf : Ctx.T (.bo 0 β :: Γ) → Rs ρ} {mo : Ctx.T c → Rs β} {ma : Ctx.T c → Rs (Ctx.T Γ)} {pl : Sem Bool} (Ii : IsIns C β fl) (hC : F.wd.cm C = a) (hc : Cls X.K a) (hm : Meth X.K a m f) (hnl : fl.contains m = false) (tk : L2N.Takes X F.W)
    (Fn : FnOk X.prog X.w X.K X.mg X.base (L2N.CX X.prog X.w) k f fd ps (spF F.wd kr (.bo 0 β :: Γ) mf)) (hr : Room k X.A) (hb : Binds X.K fd ps []) (he : PE X o (tX F kB c mo)) (ha : PA X (e :: es) (tA F c 1 Γ ma))
    (hst : starEach (e :: es) X.env = (false, eval e X.env) :: starEach es X.env := by rfl) (hpl : (backTo pos (starEach es X.env)).any (·.1) = false := by rfl)
    (ht : eval (.Call (.Attribute o m apos) (e :: es) [] pos) X.env = (do let ov ← eval o X.env; standAt apos.atName; let (f, first) ← holding [ov] (getMethod ov m pl); callWith pos f first (backTo pos (starEach (e :: es) X.env)) (backToKw pos (keywordEach [] X.env))) := by rfl) :
    PE X (.Call (.Attribute o m apos) (e :: es) [] pos) (tX F kr c fun γ => (mo γ).bind fun s => (ma γ).bind fun g => mf (s, g)) :=
  pe_mono (pe_methW (pl := pl) he hc hm Fn hr hb (fun σ => L2N.passAt tk σ) ha hst hpl ht) fun σ H Q ⟨H0, G0, G, os, γ, st, p⟩ => ⟨H0, G0, G, os, γ, st, p.step kB fun v H1 G1 b f1 ⟨q, o, e1, e2, e3⟩ p1 => by
    obtain ⟨dx, fs, e4, e5⟩ := Ii.ins e3
    subst hC
    refine ⟨q, dx, fs, e1, by rw [e2, e4], lookup_no e5 hnl, H0, G0, G1, os, γ, st.ext f1, ?_⟩
    cases eg : ma γ with
    | no => rw [eg] at p1; exact p1
    | ex z => rw [eg] at p1; exact p1
    | ok g =>
      rw [eg] at p1
      have p2 : Post F.W kr σ H1 G1 Q (mf (b, g)) := p1
      exact fun H2 G2 vs f2 r => by
        have p3 := Post.ext p2 f2
        refine ⟨by rw [List.length_cons, r.len]; rfl, G2, (b, g), f2.gh, f2.tb (f1.tb (st.f.tb st.t)), ⟨q, o, vs, by rw [e1], rfl, f2.h.get e2 (Own.pl e3), Own.mono f2.g e3, r⟩, ?_⟩
        cases em : mf (b, g) with
        | no => rw [em] at p3; exact p3
        | ex z => rw [em] at p3; exact p3
        | ok z => rw [em] at p3; exact p3⟩
theorem e_meth0 [Own β] {C : String} {fl : List Str} {a f : Addr} {m : Str} {fd : FuncData} {ps : List Str} {k : Nat} {kr : Kd F.wd ρ} {mf : Ctx.T [.bo 0 β] → Rs ρ} {mo : Ctx.T c → Rs β} {pl : Sem Bool} (Ii : IsIns C β fl) (hC : F.wd.cm C = a) (hc : Cls X.K a) (hm : Meth X.K a m f) (hnl : fl.contains m = false) (tk : L2N.Takes X F.W)
    (Fn : FnOk X.prog X.w X.K X.mg X.base (L2N.CX X.prog X.w) k f fd ps (spF F.wd kr [.bo 0 β] mf)) (hr : Room k X.A) (hb : Binds X.K fd ps []) (he : PE X o (tX F kB c mo))
    (ht : eval (.Call (.Attribute o m apos) [] [] pos) X.env = (do let ov ← eval o X.env; standAt apos.atName; let (f, first) ← holding [ov] (getMethod ov m pl); callWith pos f first (backTo pos (starEach [] X.env)) (backToKw pos (keywordEach [] X.env))) := by rfl) :
    PE X (.Call (.Attribute o m apos) [] [] pos) (tX F kr c fun γ => (mo γ).bind fun s => mf (s, ())) :=
  pe_mono (pe_methW0 (pl := pl) he hc hm Fn hr hb (fun σ => L2N.passAt tk σ) ht) fun σ H Q ⟨H0, G0, G, os, γ, st, p⟩ => ⟨H0, G0, G, os, γ, st, p.step kB fun v H1 G1 b f1 ⟨q, o, e1, e2, e3⟩ p1 => by
    obtain ⟨dx, fs, e4, e5⟩ := Ii.ins e3
    subst hC
    refine ⟨q, dx, fs, e1, by rw [e2, e4], lookup_no e5 hnl, rfl, G1, (b, ()), f1.gh, f1.tb (st.f.tb st.t), ⟨q, o, [], by rw [e1], rfl, e2, e3, rfl⟩, ?_⟩
    cases em : mf (b, ()) with
    | no => rw [em] at p1; exact p1
    | ex z => rw [em] at p1; exact p1
    | ok z => rw [em] at p1; exact p1⟩
/-- a property is read; its getter raises nothing -/
theorem e_prop [Own β] {C : String} {a f p : Addr} {m : Str} {fd : FuncData} {ps : List Str} {k : Nat} {fl : List Str} {kr : Kd F.wd ρ} {mf : Ctx.T [.bo 0 β] → Rs ρ} {mo : Ctx.T c → Rs β} (Ii : IsIns C β fl) (hC : F.wd.cm C = a) (hc : Cls X.K a) (hp : PropOf X.K a m p f) 
    (Fn : FnOk X.prog X.w X.K X.mg X.base (L2N.CX X.prog X.w) k f fd ps (spF F.wd kr [.bo 0 β] mf)) (hr : Room (k + 1) X.A) (hb : Binds X.K fd ps []) (he : PE X o (tX F kB c mo)) (hab : attributeBase o m X.env (eval o X.env) = eval o X.env := by rfl) :
    PE X (.Attribute o m pos) (tX F kr c fun γ => (mo γ).bind fun s => (mf (s, ())).nox) :=
  pe_mono (pe_prop (E := fun _ _ _ => False) he hc hp Fn hr hb .nil (fun pins σ H s e s' I z => by
    obtain ⟨_, _, _, _, _, _, _, _, _, _, _, _, z⟩ := z
    exact z.elim) hab) fun σ H Q ⟨H0, G0, G, os, γ, st, p⟩ => ⟨H0, G0, G, os, γ, st, p.step kB fun v H1 G1 b f1 ⟨q, o, e1, e2, e3⟩ p1 => by
    obtain ⟨dx, fs, e4, e5⟩ := Ii.ins e3
    subst hC
    refine ⟨q, dx, fs, e1, by rw [e2, e4], rfl, G1, (b, ()), f1.gh, f1.tb (st.f.tb st.t), ⟨q, o, [], rfl, rfl, e2, e3, rfl⟩, ?_⟩
    cases em : mf (b, ()) with
    | no => rw [em] at p1; exact p1
    | ex z => rw [em] at p1; exact p1.elim
    | ok z => rw [em] at p1; exact p1⟩
end
/-! ### making -/
/-- an object under way: no attribute yet -/
structure Ini (C : String) where
omit [TabT] in
instance {C : String} : Own (Ini C) where
  own := fun wd _ o _ => ∃ dx, o = .ins (wd.cm C) dx []
  pl := fun ⟨_, e⟩ => by subst e; exact Pl.ins
  mono := fun _ h => h
def spI (wd : Wd) {β : Type} [Own β] (C : String) (Γ : Ctx) (m : Ctx.T Γ → Rs β) : Sp := fun vs H Q E => ∃ x dx vs' H1 G γ, vs = .ref x :: vs' ∧ vs'.length = Γ.length ∧ H = upd (upd H1 dx (.own x)) x (.ins (wd.cm C) dx []) ∧ H1 x = none ∧ H1 dx = none ∧ dx ≠ x ∧ SameL G H1 ∧ LamX.Tabs TabT.T H1 ∧ RA wd H1 G 1 Γ γ vs' ∧
  match m γ with
  | .ok b => ∀ H' G' o, Fr H1 G H' G' → H' x = some o → G' x = none → own wd G' o b → Q .non H'
  | .ex z => ∀ d H' G', Fr H1 G H' G' → RepX G' d z → E (.ref (wd.cm z.cls)) d H'
  | .no => False
section
variable {X : Cx} {F : Fx} {c : Ctx} {α β ρ : Type} {e o : Expr} {es : List Expr} {pos apos p : Pos}
theorem e_make [Own β] {C : String} {a f : Addr} {x : Str} {fd : FuncData} {ps : List Str} {k : Nat} {Γ : Ctx} {mf : Ctx.T Γ → Rs β} {ma : Ctx.T c → Rs (Ctx.T Γ)} (hC : F.wd.cm C = a) (M : Mk X.K a f) (tk : L2N.Takes X F.W)
    (Fn : FnOk X.prog X.w X.K X.mg X.base (L2N.CX X.prog X.w) k f fd ps (spI F.wd C Γ mf)) (hr : Room (k + 1) X.A) (hm : X.mg x = some (.ref a)) (hb : Binds X.K fd ps []) (ha : PA X (e :: es) (tA F c 1 Γ ma)) (hg : Gl X x := by rfl) (hdb : (x == ("__debug__" : Str)) = false := by decide)
    (he : starEach (e :: es) X.env = (false, eval e X.env) :: starEach es X.env := by rfl) (hpl : (backTo pos (starEach es X.env)).any (·.1) = false := by rfl) : PE X (.Call (.Name x p) (e :: es) [] pos) (tX F kO c fun γ => (ma γ).bind mf) :=
  pe_mono (pe_makeW M Fn hr hg hm hb (fun σ => L2N.passAt tk σ) ha hdb he hpl) fun σ H Q h => tM_postT h fun vs H1 G1 g gh tb r p x dx hx hdx hne => by
    subst hC
    refine ⟨x, dx, vs, H1, G1, g, rfl, r.len, rfl, hx, hdx, hne, gh, tb, r, ?_⟩
    cases em : mf g with
    | no => rw [em] at p; exact p
    | ex z => rw [em] at p; exact p
    | ok z => rw [em] at p; exact fun H' G' o f1 h1 h2 w => ⟨rfl, p H' G' _ f1 ⟨x, o, rfl, hx, h2, h1, w⟩⟩
/-- self -/
theorem e_varS [Own β] {i : Nat} {y : Addr} (v : Var c (.sf i β y)) {x : Str} (hN : X.N[i]? = some x := by rfl) (hv : Vis X.env.scope x := by first | exact Or.inl rfl | exact Or.inr (Or.inl rfl) | exact Or.inr (Or.inr rfl))
    (hd : (x == ("__debug__" : Str)) = false := by decide) (hcd : (x == ("__classdict__" : Str)) = false := by decide) : PE X (.Name x pos) (tX F kB c fun γ => .ok (v.get γ)) :=
  pe_mono (pe_var hN hv hd hcd) fun σ H Q ⟨H0, G0, G, os, γ, st, p⟩ => by
    obtain ⟨o, _, h1, h2, h3⟩ := v.sf st.r
    exact ⟨.ref y, h1, p H G _ (Fr.refl st.f.gh) ⟨y, o, rfl, h2, h3⟩⟩
/-- an attribute of self is stored -/
theorem s_fld [Own α] [Own β] [Rep ρ] {C : String} {a y : Addr} {f x : Str} {p1 p2 : Pos} {put : α → ρ → β} {m : Ctx.T (.sf 0 α y :: c) → Rs ρ} (hC : F.wd.cm C = a) (hc : Cls X.K a) (hn : NoAttr X.K a f)
    (hp : ∀ {wd G o} {b : α} {v} {z : ρ}, own wd G o b → rep wd G v z → ∃ dx fs, o = .ins (wd.cm C) dx fs ∧ fs.length < 1000 ∧ own wd G (.ins (wd.cm C) dx (putF f v fs)) (put b z))
    (h : PE X e (tX F kF (.sf 0 α y :: c) m)) (hN : X.N[0]? = some x := by rfl) (hv : Vis X.env.scope x := by first | exact Or.inl rfl | exact Or.inr (Or.inl rfl) | exact Or.inr (Or.inr rfl)) (hd : (x == ("__debug__" : Str)) = false := by decide) (hcd : (x == ("__classdict__" : Str)) = false := by decide)
    (hs : swapsWith e (some (.Attribute (.Name x p1) f p2)) pos.line X.env = pure false := by rfl) : PS X (.Assign [.Attribute (.Name x p1) f p2] e pos) (tS F (.sf 0 α y :: c) (.sf 0 β y :: c) fun γ => (m γ).bind fun z => .ok (put γ.1 z, γ.2)) :=
  ps_mono (ps_fld (pe_var hN hv hd hcd) h hs) fun D σ H ⟨H0, G0, G, os, γ, st, p⟩ => ⟨H0, G0, G, os, γ, st, p.step st kF fun v H1 G1 z f1 r1 p1 => by
    have st1 := st.ext f1
    obtain ⟨o, os', e0, h1, h2, h3, h4⟩ := st1.r
    obtain ⟨dx, fs, e4, e5, e6⟩ := hp h3 r1
    subst hC
    refine ⟨.ref y, h1, y, _, dx, fs, rfl, by rw [h2, e4], hc, hn, e5, ?_⟩
    have fry := st1.fr y (by rw [e0]; exact List.mem_cons_self)
    exact p1 _ _ _ os ⟨st1.len, ⟨Same.upd' st1.f.h fry.2, st1.f.g, fun a u q => by rw [upd_ne (ne_of_none q fry.1)]; exact st1.f.gh a u q, st1.f.new, fun t => tabs_upd (st1.f.tb t) h2 (Own.pl h3)⟩, st1.nd, st1.fr, R.remake st1.nd st1.r e6, st1.t⟩⟩
end
section
variable {P : Program} {w : World} {K : PySem.W.Frag} {mg : Str → Option Value} {base : Heap}
theorem fn_okI {wd : Wd} {β : Type} [Own β] {C : String} {Γ : Ctx} {m : Ctx.T (.ow 0 (Ini C) :: Γ) → Rs (Ctx.T [.ow 0 β])} {x qual : Str} {st : Stmt} {f : Addr} {fd : FuncData} {N ps : List Str} {k : Nat} (F : Fun K x qual st f fd) (S : FnScope N ps (defScope st)) (hl : Γ.length + 1 = ps.length)
    (body : ∀ (y : Addr) (cdv : Value) (A : Around) (outer : List Env) (s : Shared) (H : Hp) (E : XK), Room k (A.deeper (envOfC qual (defScope st) s.heap.objs.size f cdv)) →
      PSs (cxOf (L2N.CX P w) P w K mg base N qual (defScope st) f cdv A outer s H E) (defBody st) (tS ⟨wd, Sl.all N.length, fun cls d _ H => E cls d H⟩ (.sf 0 (Ini C) y :: Γ) [.sf 0 β y] m)) : FnOk P w K mg base (L2N.CX P w) (k + 1) f fd ps (spI wd C Γ fun γ => (m (⟨⟩, γ)).bind fun g => .ok g.1) := by
  have hpl : ps.length ≤ N.length := by have := congrArg List.length S.pre; rw [List.length_take] at this; omega
  refine okN F S (fun vs H Q E h => ?_) (fun cdv A outer s H vs Q E hr h => ?_)
  · obtain ⟨x, dx, vs', H1, G, γ, e, l, _⟩ := h
    rw [e, List.length_cons, l]; exact hl
  · obtain ⟨y, dx, vs', H1, G, γ, rfl, l, rfl, hy, hdx, hne, gh, tb, ra, p⟩ := h
    have f0 : Fr H1 G (upd H1 dx (.own y)) G := Fr.alloc gh hdx
    have hy' : upd H1 dx (.own y) y = none := by rw [upd_ne (Ne.symm hne)]; exact hy
    have f1 : Fr (upd H1 dx (.own y)) G (upd (upd H1 dx (.own y)) y (.ins (wd.cm C) dx [])) G := Fr.alloc f0.gh hy'
    refine ⟨_, body y cdv A outer s _ E hr, upd H1 dx (.own y), G, G, [y], (⟨⟩, γ), ⟨?_, f1, (by simp), fun q hq => ?_, ?_, tabs_new tb hdx⟩, ?_⟩
    · refine ⟨?_, trivial⟩
      show _ = N.length
      unfold L2.start
      rw [List.length_append, List.length_map, List.length_replicate]
      rw [List.length_cons] at *
      omega
    · rw [List.mem_singleton.mp hq]
      exact ⟨gh.free hy, hy'⟩
    · have r0 := RA.r (H := upd H1 dx (.own y)) (σ := L2.start N (V.ref y :: vs')) (fun k v e => by
        have := start_get (N := N) (vs := V.ref y :: vs') (k := k + 1) (v := v) e
        rwa [Nat.zero_add, Nat.add_comm k 1] at this) (ra.ext f0.h (Same.refl G))
      exact ⟨_, [], rfl, by have := start_get (N := N) (vs := V.ref y :: vs') (k := 0) (v := V.ref y) rfl; exact this, upd_same, ⟨dx, rfl⟩, r0.mono (Same.refl G) fun q hq => by cases hq⟩
    · dsimp only at p
      cases e : m (⟨⟩, γ) with
      | no => rw [e] at p; exact p
      | ex z => rw [e] at p; exact fun d σ H' G' _ s1 r1 => p d H' G' (f0.trans s1) r1
      | ok g =>
        rw [e] at p
        exact fun σ' H' G' os st => by
          obtain ⟨o, os', e0, h1, h2, h3, h4⟩ := st.r
          exact p H' G' o (f0.trans st.f) h2 (st.fr y (by rw [e0]; exact List.mem_cons_self)).1 h3
end
/-! ### the Sheaf -/
omit [TabT] in
theorem ins_sheaf : IsIns "Sheaf" Sheaf ["_rows"] := ⟨fun {wd G o b} h => by
  obtain ⟨dx, v, e, _⟩ := h
  exact ⟨dx, _, e, rfl⟩⟩
omit [TabT] in
theorem fld_rows {wd : Wd} {G : Hp} {o : HO} {b : Sheaf} (h : own wd G o b) : ∃ dx fs v, o = .ins (wd.cm "Sheaf") dx fs ∧ fs.lookup ("_rows" : Str) = some v ∧ rep wd G v b.rows := by
  obtain ⟨dx, v, e, r⟩ := h
  exact ⟨dx, _, v, e, rfl, r⟩
omit [TabT] in
theorem put_rows {wd : Wd} {G : Hp} {o : HO} {b : Ini "Sheaf"} {v : V} {z : Tup (Int × Str)} (h : own wd G o b) (r : rep wd G v z) : ∃ dx fs, o = .ins (wd.cm "Sheaf") dx fs ∧ fs.length < 1000 ∧ own wd G (.ins (wd.cm "Sheaf") dx (putF ("_rows" : Str) v fs)) (Sheaf.mk z) := by
  obtain ⟨dx, e⟩ := h
  exact ⟨dx, [], e, by decide, dx, v, rfl, r⟩
/-! ### lists: backwards, without the first such item -/
omit [TabT] in
def remI (xs : List Int) (a : Int) : Rs (List Int) := match xs.findIdx? (fun x => x == a) with
  | some j => .ok (xs.eraseIdx j)
  | none => .no
omit [TabT] in
theorem reps.rev {α : Type} [Rep α] {wd : Wd} {G : Hp} : ∀ {vs : List V} {as : List α}, reps wd G vs as → reps wd G vs.reverse as.reverse
  | [], [], _ => trivial
  | _ :: _, _ :: _, ⟨h, t⟩ => by rw [List.reverse_cons, List.reverse_cons]; exact (reps.rev t).snoc h
  | [], _ :: _, h => h.elim
  | _ :: _, [], h => h.elim
section
variable {X : Cx} {F : Fx} {c : Ctx} {α : Type} {e : Expr}
theorem e_rev [Rep α] {m : Ctx.T c → Rs (List α)} {k : Nat} {p1 p2 p3 pos : Pos} (hK : F.wd.K = X.K) (h : PE X e (tX F kB c m)) : PE X (.Subscript e (.Slice none none (some (.UnaryOp .USub (.Constant (.int 1) k p1) p2)) p3) pos) (tX F kO c fun γ => (m γ).bind fun x => .ok x.reverse) :=
  pe_mono (pe_revL h) fun σ H Q ⟨H0, G0, G, os, γ, st, p⟩ => ⟨H0, G0, G, os, γ, st, by
    cases e : m γ with
    | no => dsimp only at p; rw [e] at p; exact p
    | ex x => dsimp only at p; rw [e] at p; exact p
    | ok b =>
      dsimp only at p; rw [e] at p
      exact fun H1 G1 v f1 ⟨q, o, e1, e2, vs, e3, e4, r⟩ => by
        subst e1; subst e3
        refine ⟨q, vs, rfl, .of e2, fun d nd => p _ G1 _ (f1.trans (Fr.alloc f1.gh nd)) ⟨d, _, rfl, f1.h.free nd, f1.gh.free nd, upd_same, _, rfl, by rw [List.length_reverse]; exact e4, (reps.rev r)⟩⟩⟩
theorem s_remove {j : Nat} {m : Ctx.T c → Rs Int} {x : Str} {p1 apos cpos pos : Pos} (v : Var c (.ow j (List Int))) (h : PE X e (tX F kF c m)) (hN : X.N[j]? = some x := by rfl) (hv : Vis X.env.scope x := by first | exact Or.inl rfl | exact Or.inr (Or.inl rfl) | exact Or.inr (Or.inr rfl))
    (hd : (x == ("__debug__" : Str)) = false := by decide) (hcd : (x == ("__classdict__" : Str)) = false := by decide) (he : starEach (e :: []) X.env = (false, eval e X.env) :: starEach [] X.env := by rfl)
    (hbase : attributeBase (.Name x p1) "remove" X.env (eval (.Name x p1) X.env) = eval (.Name x p1) X.env := by rfl)
    (hfew : ((backTo cpos (starEach (e :: []) X.env)).all (fun x => !x.1) && (backToKw cpos (keywordEach [] X.env)).all (fun x => x.1.isSome) && decide ((e :: []).length + ([] : List Keyword).length + (if ([] : List Keyword).isEmpty then 0 else 1) < 30)) = true := by rfl)
    (hline : (apos.endLine == cpos.line) = true := by rfl) (hplain : (backTo cpos (starEach [] X.env)).any (·.1) = false := by rfl) (hs : swapsWith (.Call (.Attribute (.Name x p1) "remove" apos) [e] [] cpos) none pos.line X.env = pure false := by rfl) :
    PS X (.Expr (.Call (.Attribute (.Name x p1) "remove" apos) [e] [] cpos) pos) (tS F c c fun γ => (m γ).bind fun a => (remI (v.get γ) a).bind fun ys => .ok (v.put γ ys)) :=
  ps_mono (ps_expr (pe_bm PySem.F.plainAttrs_list PySem.F.slot_list_remove PySem.F.type_list_remove mt_remove (pe_var hN hv hd hcd) (pa_cons h pa_nil he) hbase hfew hline he hplain) hs) fun D σ H ⟨H0, G0, G, os, γ, st, p⟩ => by
    obtain ⟨q, o, e1, e2, ⟨vs, e3, e5, e6⟩, e4⟩ := st.write v
    subst e3
    refine ⟨.ref q, e1, .inl ⟨rfl, _, .of e2⟩, H0, G0, G, os, γ, st, p.step st kF fun va H1 G1 a f1 r1 p1 => ?_⟩
    have st1 := st.ext f1
    obtain ⟨q2, o2, d1, d2, ⟨vs2, d3, d5, d6⟩, d4⟩ := st1.write v
    subst d3
    have eq : q2 = q := by rw [e1] at d1; injection d1 with d1; injection d1 with d1; injection d1 with d1; exact d1.symm
    subst eq
    have p3 : PostN F H0 G0 c D ((remI (v.get γ) a).bind fun ys => .ok (v.put γ ys)) := p1
    unfold remI at p3
    have ev := d6.ints
    subst ev
    cases ej : (v.get γ).findIdx? (fun x => x == a) with
    | none => rw [ej] at p3; exact p3.elim
    | some k =>
      rw [ej] at p3
      obtain ⟨hk, hk1, hk2⟩ := List.findIdx?_eq_some_iff_getElem.mp ej
      refine ⟨q2, v.get γ, a, k, rfl, by rw [show va = V.int a from r1], d2, by rw [List.getElem?_eq_getElem hk]; exact congrArg some (by simpa using hk1), fun n hn hm => ?_, p3 _ _ _ _ (d4 _ _ ⟨_, rfl, Nat.le_trans (by rw [List.length_map, List.length_map, List.length_eraseIdx]; split <;> omega) d5, reps.of_ints⟩)⟩
      have h2 := hk2 n hn
      rw [List.getElem?_eq_getElem (by omega)] at hm
      exact h2 (by simpa using hm)
end
/-! ### == of an own class -/
section
variable {X : Cx} {CX : CXT} {n : Nat} {f C : Addr} {fd : FuncData} {ps : List Str} {sp : Sp}
omit [TabT] in
def rEqW (C : Addr) (sp : Sp) : R2 := fun x y H Q => ∃ a b dx dy fs gs, x = .ref a ∧ y = .ref b ∧ H a = some (.ins C dx fs) ∧ H b = some (.ins C dy gs) ∧ sp [.ref a, .ref b] H (fun v H' => ∃ r, v = .bl r ∧ Q v H') fun _ _ _ => False
omit [TabT] in
theorem op_eqW (Fn : FnOk X.prog X.w X.K X.mg X.base (L2N.CX X.prog X.w) n f fd ps sp) (hs : PySem.W.findIn X.K (.ref C) "__eq__" = some (some (.ref f))) (hf : PySem.W.isFn X.K (.ref f) = true) (room : Room n X.A) (hb : Binds X.K fd ps []) : OpR X (compareOp .Eq) (rEqW C sp) := by
  intro pins s σ H x y v u Q I rx ry hq
  obtain ⟨a, b, dx, dy, fs, gs, rfl, rfl, ha, hb', hsp⟩ := hq
  cases rx; cases ry
  obtain ⟨mA, J, _⟩ := ins_get I.hok ha
  obtain ⟨mB, J', _⟩ := ins_get I.hok hb'
  obtain ⟨od, J, _⟩ := J.look
  obtain ⟨od', J', _⟩ := J'.look
  obtain ⟨m, hF⟩ := I.fr
  show wpAny (model X.prog X.w) X.A (richCompare .Eq (.ref a) (.ref b)) (EP X pins σ Q) X.xe s
  refine PySem.W.cmp_K (op := .Eq) (tb := .ref C) room.units0 hF I.ok.mod.kin J J'.type (by simp [PySem.W.notFirst]) hs hf ?_
  refine wpAny_mono (run_fnSD (us := [.ref a, .ref b]) (vs := [.ref a, .ref b]) (dvs := []) (ds := []) (E := fun _ _ _ _ => False) Fn room hb .nil (fun pins H s e s' I z => by
    obtain ⟨_, _, _, _, _, _, _, _, _, _, _, _, z⟩ := z
    exact z.elim) I (.cons rfl (.cons rfl .nil)) hsp) (fun r s' z => ?_) fun _ _ x => x
  obtain ⟨v, H', I', rv, r', ev, q⟩ := z
  subst ev
  cases rv
  exact ⟨.bl r', H', I', rfl, q⟩
theorem m_eqW {wd : Wd} {β : Type} [Own β] {Cn : String} {fl : List Str} {mf : Ctx.T [.bo 0 β, .bo 1 β] → Rs Bool} (Ii : IsIns Cn β fl) (hC : wd.cm Cn = C) : Sem2T (wd := wd) kB kB kF (rEqW C (spF wd (kF (α := Bool)) [.bo 0 β, .bo 1 β] mf)) fun a b => (mf (a, b, ())).nox := by
  intro W σ B1 B2 H G x y a b Q tb gh hx hy p
  obtain ⟨q, o, e1, e2, e3⟩ := hx
  obtain ⟨q', o', d1, d2, d3⟩ := hy
  obtain ⟨dx, fs, e4, e5⟩ := Ii.ins e3
  obtain ⟨dy, gs, d4, d5⟩ := Ii.ins d3
  subst hC
  refine ⟨q, q', dx, dy, fs, gs, e1, d1, by rw [e2, e4], by rw [d2, d4], rfl, G, (a, b, ()), gh, tb, ⟨q, o, _, rfl, rfl, e2, e3, q', o', _, rfl, rfl, d2, d3, rfl⟩, ?_⟩
  dsimp only at p
  cases em : mf (a, b, ()) with
  | no => rw [em] at p; exact p
  | ex z => rw [em] at p; exact p.elim
  | ok r =>
    rw [em] at p
    exact fun H' G' v f1 r1 => ⟨r, r1, p H' G' v f1 r1⟩
structure IsiC (K : PySem.W.Frag) (C : Addr) : Prop where
  cl : Cls K C
  ha : PySem.W.findIn K (.ref C) "__class__" = some (some (.builtin "object.__class__"))
  hn : PySem.W.specialIn K (.builtin "object.__class__") "__get__" = some (some (.builtin "getset_descriptor.__get__"))
  ht : PySem.W.takesIn K (.builtin "object.__class__") = some true
  hm : PySem.W.mroIn K C (.type "object") = some true
theorem ty_insB {wd : Wd} {K : PySem.W.Frag} {β : Type} [Own β] {Cn : String} {fl : List Str} {B H G : Hp} {v : V} {a : β} (Ii : IsIns Cn β fl) (hC : wd.cm Cn = C) (Is : IsiC K C) (_ : SameL G H) (h : (kB (wd := wd)).rel B H G v a) : TyX K H v (.ref C) := by
  obtain ⟨q, o, e1, e2, e3⟩ := h
  obtain ⟨dx, fs, e4, e5⟩ := Ii.ins e3
  subst hC
  subst e1
  exact .base (.ins (dx := dx) (fs := fs) (by rw [e2, e4]) Is.cl Is.ha Is.hn Is.ht Is.hm)
omit [TabT] in
theorem kit_self {K : PySem.W.Frag} : PySem.W.kitOne K (.ref C) (.ref C) = some true := by
  unfold PySem.W.kitOne
  exact if_pos (beq_self_eq_true _)
/-- the class itself, by its name -/
theorem e_cls {x : Str} {pos : Pos} (hg : Gl X x) (hm : X.mg x = some (.ref C)) (hd : (x == ("__debug__" : Str)) = false := by decide) : PE X (.Name x pos) (tC (.ref C)) := pe_glob hg hm (v := .ref C) rfl hd
end
/-! ### len of an own class -/
section
variable {X : Cx} {n : Nat} {f C : Addr} {fd : FuncData} {ps : List Str} {sp : Sp}
omit [TabT] in
def rLenW (C : Addr) (sp : Sp) : List V → Hp → VK → Prop := fun xs H Q => ∃ a dx fs, xs = [.ref a] ∧ H a = some (.ins C dx fs) ∧ sp [.ref a] H (fun v H' => ∃ i : Int, v = .int i ∧ 0 ≤ i ∧ i < 4611686018427387904 ∧ Q (.int i) H') fun _ _ _ => False
omit [TabT] in
theorem call_lenW (Fn : FnOk X.prog X.w X.K X.mg X.base (L2N.CX X.prog X.w) n f fd ps sp) (hs : PySem.W.findIn X.K (.ref C) "__len__" = some (some (.ref f))) (hf : PySem.W.isFn X.K (.ref f) = true) (room : Room (n + 1) X.A) (hb : Binds X.K fd ps []) : CallR X (.builtin "len") (rLenW C sp) := by
  intro pins s σ H xs us Q I r h
  obtain ⟨a, dx, fs, rfl, ha, hsp⟩ := h
  obtain ⟨u, rfl, rx⟩ := vals1 r
  cases rx
  obtain ⟨mA, J, _⟩ := ins_get I.hok ha
  obtain ⟨od, J, _⟩ := J.look
  obtain ⟨m, hF⟩ := I.fr
  have hl : ([Value.ref a] ++ []).length = ps.length := by rw [← Fn.len _ _ _ _ hsp]; rfl
  have bd := hb s [.ref a] I.kIn hl
  refine PySem.W.len_K hF I.ok.mod.kin J hs hf (wpAny_call (codeAny_mono (Fn.run X.A.in1 X.stack s H ⟨[.ref a], []⟩ [.ref a] [.ref a] _ _ room.in1 I.env0.in1 bd (.cons rfl .nil) hsp) fun r s' hq => ?_))
  match r, hq with
  | .error e, hq =>
    obtain ⟨_, _, _, _, _, _, _, _, _, _, _, _, z⟩ := hq
    exact z.elim
  | .ok (.ret w), hq =>
    obtain ⟨v, H', I3, rv, i, ev, h0, h1, q3⟩ := I.after hq
    subst ev
    obtain ⟨t, rfl⟩ := rv
    exact ⟨⟨h0, by omega⟩, .int i, H', I3.tok _, ⟨_, rfl⟩, q3⟩
theorem m_lenW {wd : Wd} {β : Type} [Own β] {Cn : String} {fl : List Str} {mf : Ctx.T [.bo 0 β] → Rs Int} (Ii : IsIns Cn β fl) (hC : wd.cm Cn = C) : Sem1T (wd := wd) kB kF (fun x => rLenW C (spF wd (kF (α := Int)) [.bo 0 β] mf) [x]) fun a => (mf (a, ())).nox.bind fun i => if 0 ≤ i ∧ i < 4611686018427387904 then .ok i else .no := by
  intro W σ B H G x a Q tb gh hx p
  obtain ⟨q, o, e1, e2, e3⟩ := hx
  obtain ⟨dx, fs, e4, e5⟩ := Ii.ins e3
  subst hC
  refine ⟨q, dx, fs, by rw [e1], by rw [e2, e4], rfl, G, (a, ()), gh, tb, ⟨q, o, _, rfl, rfl, e2, e3, rfl⟩, ?_⟩
  dsimp only at p
  cases em : mf (a, ()) with
  | no => rw [em] at p; exact p
  | ex z => rw [em] at p; exact p.elim
  | ok r =>
    rw [em] at p
    have p2 : Post W (kF (wd := wd)) σ H G Q (if 0 ≤ r ∧ r < 4611686018427387904 then .ok r else .no) := p
    by_cases hr : 0 ≤ r ∧ r < 4611686018427387904
    · rw [if_pos hr] at p2
      exact fun H' G' v f1 r1 => ⟨r, r1, hr.1, hr.2, by
        have z := p2 H' G' v f1 r1
        rw [show v = V.int r from r1] at z
        exact z⟩
    · rw [if_neg hr] at p2
      exact p2.elim
end
end Wm
set_option Elab.async false
set_option linter.all false
set_option maxRecDepth 100000
set_option maxHeartbeats 4000000
namespace Wm
open PySem PySem.Spec PyProof.Rows L2
open Rep (rep)
open Own (own)
variable [TabT]
/-! ### sorted(..) of ints -/
omit [TabT] in
def sortI (xs : List Int) : List Int := xs.mergeSort fun a b => decide (a ≤ b)
omit [TabT] in
theorem sortI_perm (xs : List Int) : (sortI xs).Perm xs := List.mergeSort_perm _ _
omit [TabT] in
theorem sortI_up (xs : List Int) : (sortI xs).Pairwise (· ≤ ·) := by
  have h := List.pairwise_mergeSort (le := fun a b : Int => decide (a ≤ b)) (fun a b c h1 h2 => by simp only [decide_eq_true_eq] at *; omega) (fun a b => by simp only [Bool.or_eq_true, decide_eq_true_eq]; omega) xs
  exact h.imp fun h => of_decide_eq_true h
omit [TabT] in
theorem sortI_is {xs ys : List Int} (p : ys.Perm xs) (u : ys.Pairwise (· ≤ ·)) : ys = sortI xs :=
  List.Perm.eq_of_pairwise (fun a b _ _ h1 h2 => by omega) u (sortI_up xs) (p.trans (sortI_perm xs).symm)
omit [TabT] in
theorem sortI_len (xs : List Int) : (sortI xs).length = xs.length := (sortI_perm xs).length_eq
theorem m_sorted {wd : Wd} {K : PySem.W.Frag} : Sem1 (wd := wd) kB kO (fun x => rSortedI K [x]) (fun (a : List Int) => .ok (sortI a)) := by
  intro W σ B H G x a Q gh ⟨q, o, e1, e2, vs, e3, e4, r⟩ p
  subst e1; subst e3
  refine ⟨q, a, rfl, by rw [← r.ints]; exact .of e2, fun ns' d hp hu nd => ?_⟩
  have e := sortI_is hp hu
  subst e
  exact p _ _ _ (Fr.alloc gh nd) ⟨d, _, rfl, nd, gh.free nd, upd_same, _, rfl, by rw [List.length_map, sortI_len, ← r.len]; exact e4, reps.of_ints⟩
omit [TabT] in
theorem bt_sorted : bootBuiltins "sorted" = some (.builtin "sorted") := by decide +kernel
/-! ### a value's truth as a test -/
section
variable {X : Cx} {F : Fx} {c : Ctx} {α : Type} {e : Expr}
theorem q_tru {k : Kd F.wd α} {m : Ctx.T c → Rs α} {tv : α → Bool} (hv : ∀ {B H G v a}, SameL G H → k.rel B H G v a → TruV X.K v H (tv a)) (h : PE X e (tX F k c m)) (he : ∀ whole, isTrue e X.env whole = (do let v ← whole; standAt e.pos; holding [v] (truthy v)) := by intro _; rfl) :
    PT X e (tQ F c fun γ => (m γ).bind fun a => .ok (tv a)) :=
  pt_mono (pt_truth h he) fun σ H Q ⟨H0, G0, G, os, γ, st, p⟩ => ⟨H0, G0, G, os, γ, st, p.step k fun v H1 G1 a f1 r p1 => by
    obtain ⟨b, hb, q⟩ := p1 H1 G1 (.bl (tv a)) (Fr.refl f1.gh) rfl
    cases hb
    exact ⟨_, hv f1.gh r, q⟩⟩
theorem tv_list {wd : Wd} {K : PySem.W.Frag} [Rep α] {B H G : Hp} {v : V} {a : List α} (_ : SameL G H) (h : (kB (wd := wd)).rel B H G v a) : TruV K v H (!a.isEmpty) := by
  obtain ⟨q, o, e1, e2, vs, e3, e4, r⟩ := h
  subst e1; subst e3
  refine .inl ⟨vs, .of e2, ?_⟩
  cases a with
  | nil => cases vs with
    | nil => rfl
    | cons => exact r.elim
  | cons => cases vs with
    | nil => exact r.elim
    | cons => rfl
theorem tv_int {wd : Wd} {K : PySem.W.Frag} {B H G : Hp} {v : V} {a : Int} (_ : SameL G H) (h : (kF (wd := wd)).rel B H G v a) : TruV K v H (a != 0) := by
  rw [show v = .int a from h]; rfl
end
/-! ### list.index -/
omit [TabT] in
def idxI (xs : List Int) (a : Int) : Rs Int := match xs.findIdx? (fun x => x == a) with
  | some j => .ok (j : Int)
  | none => .no
section
variable {X : Cx} {F : Fx} {c : Ctx} {e o : Expr}
theorem e_index {m : Ctx.T c → Rs (List Int)} {ma : Ctx.T c → Rs Int} {apos cpos : Pos} (ho : PE X o (tX F kB c m)) (h : PE X e (tX F kF c ma)) (he : starEach (e :: []) X.env = (false, eval e X.env) :: starEach [] X.env := by rfl)
    (hbase : attributeBase o "index" X.env (eval o X.env) = eval o X.env := by rfl)
    (hfew : ((backTo cpos (starEach (e :: []) X.env)).all (fun x => !x.1) && (backToKw cpos (keywordEach [] X.env)).all (fun x => x.1.isSome) && decide ((e :: []).length + ([] : List Keyword).length + (if ([] : List Keyword).isEmpty then 0 else 1) < 30)) = true := by rfl)
    (hline : (apos.endLine == cpos.line) = true := by rfl) (hplain : (backTo cpos (starEach [] X.env)).any (·.1) = false := by rfl) :
    PE X (.Call (.Attribute o "index" apos) [e] [] cpos) (tX F kF c fun γ => (m γ).bind fun xs => (ma γ).bind fun a => idxI xs a) :=
  pe_mono (pe_bm PySem.F.plainAttrs_list PySem.F.slot_list_index PySem.F.type_list_index mt_index ho (pa_cons h pa_nil he) hbase hfew hline he hplain) fun σ H Q ⟨H0, G0, G, os, γ, st, p⟩ => ⟨H0, G0, G, os, γ, st, p.step kB fun v H1 G1 xs f1 ⟨q, o, e1, e2, vs, e3, e4, r⟩ p1 => by
    subst e1; subst e3
    refine ⟨.inl ⟨rfl, _, .of e2⟩, H0, G0, G1, os, γ, st.ext f1, p1.step kF fun w H2 G2 a f2 r2 p2 => ?_⟩
    have ev := r.ints
    subst ev
    unfold idxI at p2
    cases ej : xs.findIdx? (fun x => x == a) with
    | none => rw [ej] at p2; exact p2.elim
    | some k =>
      rw [ej] at p2
      obtain ⟨hk, hk1, hk2⟩ := List.findIdx?_eq_some_iff_getElem.mp ej
      refine ⟨q, _, w, k, .int a, rfl, rfl, .of (f2.h.v e2), by rw [show w = V.int a from r2]; rfl, by rw [List.all_map]; exact List.all_eq_true.mpr fun _ _ => rfl, by rw [List.getElem?_map, List.getElem?_eq_getElem hk]; exact congrArg (fun z => some (V.int z)) (by simpa using hk1), by rw [show w = V.int a from r2]; simp [eqV], fun n z' hn hz => ?_, p2 _ _ _ (Fr.refl f2.gh) rfl⟩
      rw [List.getElem?_map, List.getElem?_eq_getElem (by omega)] at hz
      cases hz
      have h2 := hk2 n hn
      rw [show w = V.int a from r2]
      simpa [eqV] using h2⟩
end
theorem m_lenP {wd : Wd} {K : PySem.W.Frag} {α β : Type} [Rep α] [Rep β] : Sem1 (wd := wd) kF kF (fun x => (fun xs H Q => ∃ p ys, xs = [V.ref p] ∧ (SqL K H p ys ∨ SqT K H p ys) ∧ Q (.int ys.length) H : List V → Hp → VK → Prop) [x]) (fun (_ : α × β) => .ok (2 : Int)) := by
  intro W σ B H G x a Q gh ⟨q, o, e1, e2, v, w, e3, r1, r2⟩ p
  subst e1; subst e3
  exact ⟨q, [v, w], rfl, .inr (.of (gh.v e2)), p H G _ (Fr.refl gh) rfl⟩
end Wm
set_option Elab.async false
set_option linter.all false
set_option maxRecDepth 100000
set_option maxHeartbeats 4000000
namespace Wm
open PySem PySem.Spec PyProof.Rows L2
open Rep (rep)
open Own (own)
variable [TabT]
/-! ### a last parameter by keyword, with a default -/
omit [TabT] in
def Ctx.snoc {e : Ent} : (c : Ctx) → Ctx.T c → e.T → Ctx.T (c ++ [e])
  | [], _, a => (a, ())
  | _ :: c, g, a => (g.1, Ctx.snoc c g.2 a)
omit [TabT] in
theorem RA.snoc {wd : Wd} {H G : Hp} {α : Type} [Rep α] {v : V} {a : α} : ∀ {j n : Nat} {Γ : Ctx} {g : Ctx.T Γ} {vs : List V}, n = j + Γ.length → RA wd H G j Γ g vs → rep wd G v a → RA wd H G j (Γ ++ [.fz n α]) (Ctx.snoc Γ g a) (vs ++ [v])
  | j, n, [], g, vs, hn, h, r => by
    have e : vs = [] := h
    subst e
    exact ⟨v, [], rfl, hn, r, rfl⟩
  | j, n, @Ent.fz i β _ :: Γ, g, vs, hn, h, r => by
    obtain ⟨w, vs', rfl, e2, e3, h⟩ := h
    exact ⟨w, vs' ++ [v], rfl, e2, e3, RA.snoc (by simp only [List.length_cons] at hn; omega) h r⟩
  | j, n, @Ent.bo i β _ :: Γ, g, vs, hn, h, r => by
    obtain ⟨p, o, vs', rfl, e2, e3, e4, h⟩ := h
    exact ⟨p, o, vs' ++ [v], rfl, e2, e3, e4, RA.snoc (by simp only [List.length_cons] at hn; omega) h r⟩
  | j, n, @Ent.ow i β _ :: Γ, g, vs, hn, h, r => h.elim
  | j, n, @Ent.oo i β _ :: Γ, g, vs, hn, h, r => h.elim
  | j, n, @Ent.sf i β _ x :: Γ, g, vs, hn, h, r => h.elim
section
variable {X : Cx} {F : Fx} {c : Ctx} {α β δ ρ : Type} {e : Expr} {es : List Expr}
theorem sp_snoc [Rep α] {kr : Kd F.wd ρ} {Γ : Ctx} {n : Nat} (hn : n = Γ.length) {d : V} {z : α} (hz : ∀ G, rep F.wd G d z) {m : Ctx.T (Γ ++ [.fz n α]) → Rs ρ} {ma : Ctx.T c → Rs (Ctx.T Γ)} {σ : L2.St} {H : Hp} {Q : VK} (h : tX F kr c (fun γ => (ma γ).bind fun g => m (Ctx.snoc Γ g z)) σ H Q) :
    tA F c 0 Γ ma σ H fun vs H1 => spF F.wd kr (Γ ++ [.fz n α]) m (vs ++ [d]) H1 Q (WE F.W σ) :=
  tM_postT h fun vs H1 G1 g gh tb r p => ⟨(RA.snoc (by rw [Nat.zero_add]; exact hn) r (hz G1)).len, G1, Ctx.snoc Γ g z, gh, tb, RA.snoc (by rw [Nat.zero_add]; exact hn) r (hz G1), by
    cases e : m (Ctx.snoc Γ g z) with
    | no => rw [e] at p; exact p
    | ex x => rw [e] at p; exact p
    | ok z => rw [e] at p; exact p⟩
/-- the default is taken -/
theorem e_callD [Rep α] {kr : Kd F.wd ρ} (Γ : Ctx) {n : Nat} {d : V} {z : α} {m : Ctx.T (Γ ++ [.fz n α]) → Rs ρ} {ma : Ctx.T c → Rs (Ctx.T Γ)} {x : Str} {p pos : Pos} {f : Addr} {fd : FuncData} {ps : List Str} {k : Nat} (tk : L2N.Takes X F.W) (Fn : FnOk X.prog X.w X.K X.mg X.base (L2N.CX X.prog X.w) k f fd ps (spF F.wd kr (Γ ++ [.fz n α]) m)) (hr : Room k X.A) (hm : X.mg x = some (.ref f)) (hk : PySem.W.keepIn X.K (.ref f) = true) (hb : ∃ ds, Vals [d] ds ∧ Binds X.K fd ps ds) (hz : ∀ G, rep F.wd G d z)
    (ha : PA X (e :: es) (tA F c 0 Γ ma)) (hn : n = Γ.length := by rfl) (hg : Gl X x := by rfl) (hdb : (x == ("__debug__" : Str)) = false := by decide) (he : starEach (e :: es) X.env = (false, eval e X.env) :: starEach es X.env := by rfl) (hpl : (backTo pos (starEach es X.env)).any (·.1) = false := by rfl) :
    PE X (.Call (.Name x p) (e :: es) [] pos) (tX F kr c fun γ => (ma γ).bind fun g => m (Ctx.snoc Γ g z)) := by
  obtain ⟨ds, hv, hb⟩ := hb
  exact pe_mono (pe_callSD (dvs := [d]) Fn hr hg hm hk hb hv (fun σ => L2N.passAt tk σ) ha hdb he hpl) fun σ H Q h => sp_snoc hn hz h
/-- it is given by its name -/
theorem a_kw1 [Rep α] {nm : Option Str} {kpos : Pos} {m : Ctx.T c → Rs α} (h : PE X e (tX F kF c m)) : PK X [⟨nm, e, kpos⟩] (tM F (fun _ G vs a => ∃ v, vs = [v] ∧ rep F.wd G v a) c m) := by
  have h2 := pk_cons (kpos := kpos) (nm := nm) h pk_nil
  refine ⟨fun pos pins s σ H Q I q => h2.run pos pins s σ H Q I ?_⟩
  obtain ⟨H0, G0, G, os, γ, st, p⟩ := q
  refine ⟨H0, G0, G, os, γ, st, ?_⟩
  cases e : m γ with
  | no => rw [e] at p; exact p
  | ex x => rw [e] at p; exact p
  | ok a =>
    rw [e] at p
    exact fun H1 G1 v f r => p H1 G1 [v] f ⟨v, rfl, r⟩
omit [TabT] in
def tKwS (n : Nat) (sp : Sp) (E : L2.St → XK) (t t2 : TA) : TE := fun σ H Q => t σ H fun vs H1 => t2 σ H1 fun zs H2 => vs.length = n ∧ zs.length = 1 ∧ sp (vs ++ zs) H2 Q (E σ)
omit [TabT] in
theorem pe_kwS {CX : CXT} {sp : Sp} {E : L2.St → XK} {n k : Nat} {kn : Str} {e2 : Expr} {kpos p pos : Pos} {x : Str} {f : Addr} {fd : FuncData} {ps : List Str} {t t2 : TA} (Fn : FnOk X.prog X.w X.K X.mg X.base CX k f fd ps sp) (room : Room k X.A) (hg : Gl X x) (hm : X.mg x = some (.ref f)) (hk : PySem.W.keepIn X.K (.ref f) = true)
    (hb : KBn X.K fd ps n [kn] (fun us ws => us ++ ws) (fun vs zs => vs ++ zs)) (hx : ∀ σ, PassesAt CX X σ (E σ)) (ha : PA X (e :: es) t) (h2 : PK X [⟨some kn, e2, kpos⟩] t2) (hall : (backToKw pos (keywordEach [⟨some kn, e2, kpos⟩] X.env)).all (·.1.isSome) = true) (hks : (backToKw pos (keywordEach [⟨some kn, e2, kpos⟩] X.env)).filterMap (·.1) = [kn])
    (hdb : (x == ("__debug__" : Str)) = false) (he : starEach (e :: es) X.env = (false, eval e X.env) :: starEach es X.env) (hpl : ((backTo pos (starEach (e :: es) X.env)).any (·.1) || (backToKw pos (keywordEach [⟨some kn, e2, kpos⟩] X.env)).any (·.1.isNone)) = false) :
    PE X (.Call (.Name x p) (e :: es) [⟨some kn, e2, kpos⟩] pos) (tKwS n sp E t t2) := ⟨fun pins s σ H Q I h => by
  refine wpAny_Call_Name_kw (ld_glob I hg hm (PySem.W.callWith_KW (h₀ := X.base) I.ok.mod.kin hk hall (thn (ha.run pos pins s σ H _ I h) fun us s1 ⟨vs, H1, I1, r, q⟩ => ?_) hpl he) hdb)
  refine thn (h2.run pos pins s1 σ H1 _ I1 q) fun ws s2 ⟨zs, H2, I2, rz, l1, l2, q2⟩ => ⟨I2.kIn, ?_⟩
  rw [hks]
  refine wpAny_call (codeAny_mono (Fn.run X.A X.stack s2 H2 ⟨us, [kn].zip ws⟩ (us ++ ws) (vs ++ zs) Q (E σ) room I2.env0 (hb.to s2 us ws I2.kIn (r.length.symm.trans l1) (rz.length.symm.trans l2)) (hb.rel r rz) q2) fun r' s' hq => ?_)
  match r', hq with
  | .error e, hq => exact hx σ pins _ _ e s' I2 hq
  | .ok (.ret u), hq => exact I2.after hq⟩
theorem e_callK [Rep α] {kr : Kd F.wd ρ} (Γ : Ctx) {n : Nat} {kn : Str} {e2 : Expr} {kpos : Pos} {m : Ctx.T (Γ ++ [.fz n α]) → Rs ρ} {ma : Ctx.T c → Rs (Ctx.T Γ)} {mk : Ctx.T c → Rs α} {x : Str} {p pos : Pos} {f : Addr} {fd : FuncData} {ps : List Str} {k : Nat} (tk : L2N.Takes X F.W) (Fn : FnOk X.prog X.w X.K X.mg X.base (L2N.CX X.prog X.w) k f fd ps (spF F.wd kr (Γ ++ [.fz n α]) m)) (hr : Room k X.A) (hm : X.mg x = some (.ref f)) (hk : PySem.W.keepIn X.K (.ref f) = true)
    (hb : KBn X.K fd ps n [kn] (fun us ws => us ++ ws) (fun vs zs => vs ++ zs))
    (ha : PA X (e :: es) (tA F c 0 Γ ma)) (h2 : PE X e2 (tX F kF c mk)) (hn : n = Γ.length := by rfl) (hg : Gl X x := by rfl) (hall : (backToKw pos (keywordEach [⟨some kn, e2, kpos⟩] X.env)).all (·.1.isSome) = true := by rfl) (hks : (backToKw pos (keywordEach [⟨some kn, e2, kpos⟩] X.env)).filterMap (·.1) = [kn] := by rfl) (hdb : (x == ("__debug__" : Str)) = false := by decide) (he : starEach (e :: es) X.env = (false, eval e X.env) :: starEach es X.env := by rfl)
    (hpl : ((backTo pos (starEach (e :: es) X.env)).any (·.1) || (backToKw pos (keywordEach [⟨some kn, e2, kpos⟩] X.env)).any (·.1.isNone)) = false := by rfl) :
    PE X (.Call (.Name x p) (e :: es) [⟨some kn, e2, kpos⟩] pos) (tX F kr c fun γ => (ma γ).bind fun g => (mk γ).bind fun a => m (Ctx.snoc Γ g a)) :=
  pe_mono (pe_kwS Fn hr hg hm hk hb (fun σ => L2N.passAt tk σ) ha (a_kw1 h2) hall hks hdb he hpl) fun σ H Q ⟨H0, G0, G, os, γ, st, p⟩ => ⟨H0, G0, G, os, γ, st, by
    dsimp only at p
    cases e : ma γ with
    | no => rw [e] at p; exact p
    | ex x => rw [e] at p; exact p
    | ok g =>
      rw [e] at p
      refine fun H1 G1 vs f1 r => ⟨H0, G0, G1, os, γ, st.ext f1, ?_⟩
      have p1 := Post.ext (show Post F.W kr σ H G Q ((mk γ).bind fun a => m (Ctx.snoc Γ g a)) from p) f1
      cases e2 : mk γ with
      | no => rw [e2] at p1; exact p1
      | ex x => rw [e2] at p1; exact p1
      | ok a =>
        rw [e2] at p1
        intro H2 G2 zs f2 hz
        obtain ⟨v, rfl, hv⟩ := hz
        have p2 := Post.ext (show Post F.W kr σ H1 G1 Q (m (Ctx.snoc Γ g a)) from p1) f2
        have ra : RA F.wd H2 G2 0 (Γ ++ [.fz n α]) (Ctx.snoc Γ g a) (vs ++ [v]) := RA.snoc (by rw [Nat.zero_add]; exact hn) (r.ext f2.h f2.g) hv
        refine ⟨r.len.trans hn.symm, rfl, ra.len, G2, _, f2.gh, f2.tb (f1.tb (st.f.tb st.t)), ra, ?_⟩
        cases e3 : m (Ctx.snoc Γ g a) with
        | no => rw [e3] at p2; exact p2
        | ex x => rw [e3] at p2; exact p2
        | ok z => rw [e3] at p2; exact p2⟩
/-! ### how such defs bind -/
section
variable {K : PySem.W.Frag} {x qual : Str} {st : Stmt} {f : Addr} {oc : Value} {od : Option Addr} {D : Addr} {doc pm cdv ct : Value} {an : Option Addr} {osl : Array (Option Value)} {ps : List Str}
omit [TabT] in
abbrev kwFn (x qual : Str) (st : Stmt) (D : Addr) (doc pm : Value) (an : Option Addr) (cdv ct : Value) : FuncData := PySem.W.fnOf x qual (defArgs st) (defBody st) (defScope st) .none (.ref D) doc pm an cdv ct
omit [TabT] in
theorem kw_dflt {kn : Str} {v : V} {u : Value} (n : Nat) (hu : PySem.W.nsIn K D kn = some (some u)) (hv : RelV v u) (hl : ps.length = n + 1)
    (h : ∀ (us : List Value) (u : Value), us.length = n → KwChain D [(kn, u)] (bindArgs (kwFn x qual st D doc pm an cdv ct) ⟨us, []⟩) (ps.zip (us ++ [u]))) : ∃ ds, Vals [v] ds ∧ Binds K (kwFn x qual st D doc pm an cdv ct) ps ds :=
  ⟨[u], .cons hv .nil, fun s us X hlen => BindsTo.of_looks fun M => KwChain.looks X (fun q hq => by
    rw [List.mem_singleton.mp hq]; exact hu) (h us u (by rw [List.length_append, hl] at hlen; simp only [List.length_cons, List.length_nil] at hlen; omega))⟩
omit [TabT] in
theorem kw_given {kn : Str} (n : Nat) (h : ∀ (us : List Value) (w : Value), us.length = n → bindArgs (kwFn x qual st D doc pm an cdv ct) ⟨us, [(kn, w)]⟩ = pure (ps.zip (us ++ [w]))) : KBn K (kwFn x qual st D doc pm an cdv ct) ps n [kn] (fun us ws => us ++ ws) (fun vs zs => vs ++ zs) where
  to := fun s us ws _ l1 l2 => by
    match ws, l2 with
    | [w], _ => exact .of_eq (h us w l1)
  rel := fun r1 r2 => r1.append r2
end
end
end Wm
set_option Elab.async false
set_option linter.all false
set_option maxRecDepth 100000
set_option maxHeartbeats 4000000
namespace Wm
open PySem PySem.Spec PyProof.Rows L2
open Rep (rep)
open Own (own)
variable [TabT]
section
variable {X : Cx} {F : Fx} {c : Ctx} {α β δ : Type} {tg e : Expr}
/-! ### a < b < c -/
theorem tX_chain {k1 : Kd F.wd α} {k2 : Kd F.wd β} {k3 : Kd F.wd δ} {r r' : R2} {f : α → β → Rs Bool} {f' : β → δ → Rs Bool} (hr : Sem2 k1 k2 kF r f) (hr' : Sem2 k2 k3 kF r' f') {ma : Ctx.T c → Rs α} {mb : Ctx.T c → Rs β} {mc : Ctx.T c → Rs δ} {σ : L2.St} {H : Hp} {Q : VK}
    (h : tX F kF c (fun γ => (ma γ).bind fun x => (mb γ).bind fun y => (f x y).bind fun b => if b = true then (mc γ).bind fun z => f' y z else .ok false) σ H Q) : tChain r r' (tX F k1 c ma) (tX F k2 c mb) (tX F k3 c mc) σ H Q := by
  obtain ⟨H0, G0, G, os, γ, st, p⟩ := h
  exact ⟨H0, G0, G, os, γ, st, p.step k1 fun x H1 G1 a f1 ra p1 => ⟨H0, G0, G1, os, γ, st.ext f1, p1.step k2 fun y H2 G2 b f2 rb p2 => hr f2.gh (k1.stay ra f2) rb (p2.step kF fun z H3 G3 kk f3 rk p3 => ⟨kk, rk, by
    cases kk with
    | false => exact p3 H3 G3 (.bl false) (Fr.refl f3.gh) rfl
    | true => exact ⟨H0, G0, G3, os, γ, (st.ext f1).ext (f2.trans f3), p3.step k3 fun w H4 G4 cc f4 rc p4 => hr' f4.gh (k2.stay rb (f3.trans f4)) rc p4⟩⟩)⟩⟩
theorem e_chain {op op' : CmpOp} {a b d : Expr} {pos : Pos} {k1 : Kd F.wd α} {k2 : Kd F.wd β} {k3 : Kd F.wd δ} {r r' : R2} {f : α → β → Rs Bool} {f' : β → δ → Rs Bool} {ma : Ctx.T c → Rs α} {mb : Ctx.T c → Rs β} {mc : Ctx.T c → Rs δ} (ho : OpR X (compareOp op) r) (hr : Sem2 k1 k2 kF r f) (ho' : OpR X (compareOp op') r') (hr' : Sem2 k2 k3 kF r' f')
    (ha : PE X a (tX F k1 c ma)) (hb : PE X b (tX F k2 c mb)) (hd : PE X d (tX F k3 c mc)) (hm : lastMarks [op, op'] [b, d] = false := by with_unfolding_all rfl) :
    PE X (.Compare a [op, op'] [b, d] pos) (tX F kF c fun γ => (ma γ).bind fun x => (mb γ).bind fun y => (f x y).bind fun b => if b = true then (mc γ).bind fun z => f' y z else .ok false) :=
  pe_mono (pe_chain ho ho' ha hb hd hm) fun σ H Q h => tX_chain hr hr' h
theorem q_chain {op op' : CmpOp} {a b d : Expr} {pos : Pos} {k1 : Kd F.wd α} {k2 : Kd F.wd β} {k3 : Kd F.wd δ} {r r' : R2} {f : α → β → Rs Bool} {f' : β → δ → Rs Bool} {ma : Ctx.T c → Rs α} {mb : Ctx.T c → Rs β} {mc : Ctx.T c → Rs δ} (ho : OpR X (compareOp op) r) (hr : Sem2 k1 k2 kF r f) (ho' : OpR X (compareOp op') r') (hr' : Sem2 k2 k3 kF r' f')
    (ha : PE X a (tX F k1 c ma)) (hb : PE X b (tX F k2 c mb)) (hd : PE X d (tX F k3 c mc)) (hm : lastMarks [op, op'] [b, d] = false := by with_unfolding_all rfl) :
    PT X (.Compare a [op, op'] [b, d] pos) (tQ F c fun γ => (ma γ).bind fun x => (mb γ).bind fun y => (f x y).bind fun b => if b = true then (mc γ).bind fun z => f' y z else .ok false) :=
  pt_mono (pt_chain ho ho' ha hb hd hm) fun σ H Q h => tX_chain hr hr' h
/-! ### enumerate of a borrowed list -/
theorem wk_enum {K : PySem.W.Frag} {wd : Wd} [Rep α] {p : Addr} {vs : List V} {B G1 : Hp} {xs : List α} (hp : B p = some (.lst vs)) (r : reps wd G1 vs xs) : Wk wd (Ite K p) B G1 (enumI xs) where
  stop := fun i H s hi => ⟨vs, .of (s.v hp), by rw [r.len]; rw [enumI_len] at hi; exact hi⟩
  go := fun i H a s ha => by
    obtain ⟨v, hv, _⟩ := r.get (enumI_get.mp ha).2
    exact ⟨vs, v, .of (s.v hp), hv⟩
  yld := fun i H G x H' a s g gh ha ⟨T, y, ex, nT, eH, hy⟩ => by
    subst eH
    obtain ⟨a1, a2⟩ := enumI_get.mp ha
    obtain ⟨v, hv, hr⟩ := r.get a2
    obtain rfl : v = y := Option.some.inj (hv.symm.trans (hy vs (.of (s.v hp))))
    have gT : G T = none := gh.free nT
    exact ⟨upd G T _, (Fr.alloc gh nT).freeze nT gT upd_same, T, _, ex, upd_same, .int (i : Nat), v, rfl, by rw [a1]; rfl, Rep.mono (Same.upd' g (g.free gT)) hr⟩
theorem i_enumBo [Rep α] {i : Nat} (v : Var c (.bo i (List α))) {x : Str} {p pos tpos npos : Pos} {elts : List Expr} {kk : Nat} (hK : F.wd.K = X.K) (hg : Gl X "enumerate") (hm : X.mg "enumerate" = none) (hN : X.N[i]? = some x := by rfl) (hv : Vis X.env.scope x := by first | exact Or.inl rfl | exact Or.inr (Or.inl rfl) | exact Or.inr (Or.inr rfl))
    (hd : (x == ("__debug__" : Str)) = false := by decide) (hcd : (x == ("__classdict__" : Str)) = false := by decide) (he : starEach ((Expr.Name x npos) :: []) X.env = (false, eval (.Name x npos) X.env) :: starEach [] X.env := by rfl) (hs : starEach [Expr.Name x npos] X.env = [(false, eval (.Name x npos) X.env)] := by rfl) :
    PI X (.Tuple elts kk tpos) (.Call (.Name "enumerate" p) [.Name x npos] [] pos) (tI F .z c fun γ => .ok (enumI (v.get γ))) :=
  pi_mono (pi_enum hg hm (pa_cons (pe_var hN hv hd hcd) pa_nil he) hs) fun σ H Rr ⟨H0, G0, G, os, γ, st, p⟩ => by
    obtain ⟨q, o, h1, h2, vs, e3, e4, r⟩ := v.bo st.r
    subst e3
    exact ⟨.ref q, h1, q, vs, rfl, .of (st.f.h.v h2), p H G _ (Fr.refl st.f.gh) (wk_enum h2 r)⟩
theorem i_enumB [Rep α] {m : Ctx.T c → Rs (List α)} {p pos tpos : Pos} {elts : List Expr} {kk : Nat} (hK : F.wd.K = X.K) (hg : Gl X "enumerate") (hm : X.mg "enumerate" = none) (h : PE X e (tX F kB c m)) (he : starEach (e :: []) X.env = (false, eval e X.env) :: starEach [] X.env := by rfl) (hs : starEach [e] X.env = [(false, eval e X.env)] := by rfl) :
    PI X (.Tuple elts kk tpos) (.Call (.Name "enumerate" p) [e] [] pos) (tI F .h c fun γ => (m γ).bind fun xs => .ok (enumI xs)) :=
  pi_mono (pi_enum hg hm (pa_cons h pa_nil he) hs) fun σ H Rr q => tI_of (k := kB) q (fun v H0 H1 G1 b h0 gh ⟨p, o, e1, e2, vs, e3, e4, r⟩ w => by
    subst e3
    exact ⟨p, vs, by rw [e1], .of e2, w _ (wk_enum e2 r)⟩) fun _ _ z => nomatch z
/-! ### range(a, b, -1) -/
omit [TabT] in
def rngD (hi lo : Int) : List Int := (List.range (hi - lo).toNat).map fun (i : Nat) => hi - (i : Int)
omit [TabT] in
theorem rngD_len (hi lo : Int) : (rngD hi lo).length = (hi - lo).toNat := by unfold rngD; rw [List.length_map, List.length_range]
omit [TabT] in
theorem rngD_get {hi lo : Int} {i : Nat} {a : Int} (h : (rngD hi lo)[i]? = some a) : i < (hi - lo).toNat ∧ a = hi - i := by
  unfold rngD at h
  rw [List.getElem?_map] at h
  obtain ⟨j, h1, h2⟩ := Option.map_eq_some_iff.mp h
  have h3 := List.getElem?_eq_some_iff.mp h1
  obtain ⟨h4, h5⟩ := h3
  rw [List.length_range] at h4
  rw [List.getElem_range] at h5
  subst h5
  exact ⟨h4, h2.symm⟩
omit [TabT] in
def RngD (hi lo : Int) : Rs (List Int) := if -4611686018427387904 ≤ hi ∧ hi ≤ 4611686018427387903 ∧ -4611686018427387904 ≤ lo ∧ lo ≤ 4611686018427387903 then .ok (rngD hi lo) else .no
theorem wk_rngD {wd : Wd} {hi lo : Int} {B G1 : Hp} : Wk wd (Itc hi (-1) (hi - lo).toNat) B G1 (rngD hi lo) where
  stop := fun i H s hi' => by rw [rngD_len] at hi'; exact hi'
  go := fun i H a s ha => (rngD_get ha).1
  yld := fun i H G x H' a s g gh ha ⟨e, y⟩ => by
    subst e
    obtain ⟨h1, h2⟩ := rngD_get ha
    refine ⟨G, Fr.refl gh, ?_⟩
    rw [y]
    show V.int _ = V.int a
    rw [h2]
    congr 1
    omega
theorem i_rngD {fr : Bs} {e2 : Expr} {j : Nat} {m m2 : Ctx.T c → Rs Int} {p pos p3 p4 : Pos} (hg : Gl X "range") (hm : X.mg "range" = none) (h : PE X e (tX F kF c m)) (h2 : PE X e2 (tX F kF c m2)) (he : starEach (e :: e2 :: .UnaryOp .USub (.Constant (.int 1) j p3) p4 :: []) X.env = (false, eval e X.env) :: starEach (e2 :: .UnaryOp .USub (.Constant (.int 1) j p3) p4 :: []) X.env := by rfl)
    (he2 : starEach (e2 :: .UnaryOp .USub (.Constant (.int 1) j p3) p4 :: []) X.env = (false, eval e2 X.env) :: starEach (.UnaryOp .USub (.Constant (.int 1) j p3) p4 :: []) X.env := by rfl) (he3 : starEach ((Expr.UnaryOp .USub (.Constant (.int 1) j p3) p4) :: []) X.env = (false, eval (.UnaryOp .USub (.Constant (.int 1) j p3) p4) X.env) :: starEach [] X.env := by rfl)
    (hpl : (backTo pos (starEach [e2, .UnaryOp .USub (.Constant (.int 1) j p3) p4] X.env)).any (·.1) = false := by rfl) :
    PI X tg (.Call (.Name "range" p) [e, e2, .UnaryOp .USub (.Constant (.int 1) j p3) p4] [] pos) (tI F fr c fun γ => (m γ).bind fun a => (m2 γ).bind fun b => RngD a b) :=
  pi_mono (pi_range3 hg hm (pa_cons h (pa_cons h2 (pa_cons (pe_un un_neg pe_int) pa_nil he3) he2) he) he hpl) fun σ H Rr ⟨H0, G0, G, os, γ, st, p⟩ => ⟨H0, G0, G, os, γ, st, by
    dsimp only at p
    cases e1 : m γ with
    | no => rw [e1] at p; exact p
    | ex x => rw [e1] at p; exact p
    | ok a =>
      rw [e1] at p
      refine fun H1 G1 v f1 r1 => ⟨H0, G0, G1, os, γ, st.ext f1, ?_⟩
      dsimp only [Rs.bind] at p
      cases e2 : m2 γ with
      | no => rw [e2] at p; exact p
      | ex x => rw [e2] at p; exact fun d H2 G2 s z => p d H2 G2 (f1.trans s) z
      | ok b =>
        rw [e2] at p
        intro H2 G2 w f2 r2
        obtain rfl : v = .int a := r1
        obtain rfl : w = .int b := r2
        dsimp only [Rs.bind] at p
        unfold RngD at p
        by_cases hz : -4611686018427387904 ≤ a ∧ a ≤ 4611686018427387903 ∧ -4611686018427387904 ≤ b ∧ b ≤ 4611686018427387903
        · rw [if_pos hz] at p
          exact ⟨1, rfl, a, b, -1, _, rfl, RgC.neg (by omega) (by omega) (by omega) (by omega), p H2 G2 _ (f1.trans f2) wk_rngD⟩
        · rw [if_neg hz] at p
          exact p.elim⟩
end
end Wm
set_option Elab.async false
set_option linter.all false
set_option maxRecDepth 100000
set_option maxHeartbeats 4000000
namespace Wm
open PySem PySem.Spec PyProof.Rows L2
local instance : TabT := ⟨[]⟩
/-! ### plain laws for simp -/
section
variable {α β γ ρ : Type}
theorem ite_okk {c : Prop} [Decidable c] (x y : α) : (if c then Rs.ok x else Rs.ok y) = Rs.ok (if c then x else y) := by split <;> rfl
theorem ite_prod {c : Prop} [Decidable c] (x x' : α) (y y' : β) : (if c then (x, y) else (x', y')) = (if c then x else x', if c then y else y') := by split <;> rfl
theorem comp_okk (p : α → Bool) (g : α → β) (xs : List α) : Rs.comp (fun x => Rs.ok (p x)) (fun x => Rs.ok (g x)) xs = Rs.ok ((xs.filter p).map g) := comp_filter (fun _ _ => rfl) fun _ _ _ => rfl
theorem comp_oki (p : α → Bool) (xs : List α) : Rs.comp (fun x => Rs.ok (p x)) (fun x => Rs.ok x) xs = Rs.ok (xs.filter p) := by rw [comp_okk p (fun x => x), List.map_id']
theorem comp_okt (g : α → β) (xs : List α) : Rs.comp (fun _ => Rs.ok true) (fun x => Rs.ok (g x)) xs = Rs.ok (xs.map g) := Wm.comp_map (fun _ _ => rfl) fun _ _ => rfl
theorem comp_okid (xs : List α) : Rs.comp (fun _ => Rs.ok true) (fun x => Rs.ok x) xs = Rs.ok xs := by rw [comp_okt fun x => x, List.map_id']
theorem filter_tt (xs : List α) : (xs.filter fun _ => true) = xs := List.filter_eq_self.mpr fun _ _ => rfl
/-- a comprehension that is known item by item -/
theorem comp_on {t : α → Rs Bool} {f : α → Rs β} {xs : List α} (p : α → Bool) (g : α → β) (h : ∀ x ∈ xs, t x = .ok (p x) ∧ (p x = true → f x = .ok (g x))) : Rs.comp t f xs = .ok ((xs.filter p).map g) := comp_filter (fun x hx => (h x hx).1) fun x hx => (h x hx).2
theorem Rs.okl (r : Rs α) : r.bind Rs.ok = r := by cases r <;> rfl
theorem bind_assoc' (r : Rs α) (f : α → Rs β) (g : β → Rs γ) : (r.bind f).bind g = r.bind fun a => (f a).bind g := by cases r <;> rfl
theorem nox_ok (a : α) : (Rs.ok a).nox = .ok a := rfl
theorem left_okl (g : γ) (f : γ → Rs ρ) : Rs.left (.ok (.inl g)) f = f g := Eq.trans (Eq.refl _) (Eq.refl _)
theorem left_okr (x : ρ) (f : γ → Rs ρ) : Rs.left (.ok (.inr x)) f = .ok x := Eq.trans (Eq.refl _) (Eq.refl _)
theorem bind_ite {c : Prop} [Decidable c] (x y : Rs α) (f : α → Rs β) : (if c then x else y).bind f = if c then x.bind f else y.bind f := by split <;> rfl
theorem getI_d [Inhabited α] {xs : List α} {k : Int} (h0 : 0 ≤ k) (h1 : k < xs.length) : getI xs k = .ok (xs.getD k.toNat default) := by
  obtain ⟨a, e, h⟩ := getI_ex h0 h1
  rw [h, List.getD_eq_getElem?_getD, e]
  rfl
theorem getI_mem {xs : List α} {k : Int} (h0 : 0 ≤ k) (h1 : k < xs.length) : ∃ a, getI xs k = .ok a ∧ a ∈ xs ∧ xs[k.toNat]? = some a := by
  obtain ⟨a, e, h⟩ := getI_ex h0 h1
  exact ⟨a, h, List.mem_of_getElem? e, e⟩
theorem getI_0 (a : α) (xs : List α) : getI (a :: xs) 0 = .ok a := getI_nat (i := 0) rfl
theorem getI_1 (a b : α) (xs : List α) : getI (a :: b :: xs) 1 = .ok b := getI_nat (i := 1) rfl
theorem setI_in {xs : List α} {k : Int} {a : α} (h0 : 0 ≤ k) (h1 : k < xs.length) : setI xs k a = .ok (xs.set k.toNat a) := by
  obtain ⟨n, rfl⟩ := Int.eq_ofNat_of_zero_le h0
  rw [Int.toNat_natCast]
  exact setI_nat (by omega)
theorem rng_mapn (n : Int) : (rng 0 n).length = n.toNat := by rw [rng_len]; omega
theorem dtrue {p : Prop} [Decidable p] (h : p) : decide p = true := decide_eq_true h
theorem Rs.exc {c : Prop} [Decidable c] {x y : Rs α} {P : α → Prop} (h1 : c → ∃ a, x = .ok a ∧ P a) (h2 : ¬ c → ∃ a, y = .ok a ∧ P a) : ∃ a, (if c then x else y) = .ok a ∧ P a := by
  by_cases h : c
  · rw [if_pos h]; exact h1 h
  · rw [if_neg h]; exact h2 h
theorem least_ex {p : Nat → Prop} (h : ∃ n, p n) : ∃ n, p n ∧ ∀ m, m < n → ¬ p m := by
  obtain ⟨n, hn⟩ := h
  induction n using Nat.strongRecOn with
  | _ n ih =>
    by_cases hx : ∃ m, m < n ∧ p m
    · obtain ⟨m, h1, h2⟩ := hx
      exact ih m h1 h2
    · exact ⟨n, hn, fun m h1 h2 => hx ⟨m, h1, h2⟩⟩
/-- a while that runs through known stands -/
theorem whl_count {t : γ → Rs Bool} {b : γ → Rs γ} (st : Nat → γ) (n : Nat) (ht : ∀ i, i < n → t (st i) = .ok true) (hb : ∀ i, i < n → b (st i) = .ok (st (i + 1))) (he : t (st n) = .ok false) : Rs.whl t b (st 0) = .ok (st n) := by
  have key : ∀ k, k ≤ n → Rs.whl t b (st (n - k)) = .ok (st n) := by
    intro k
    induction k with
    | zero =>
      intro _
      rw [Rs.whl_eq, Nat.sub_zero, he]
      rfl
    | succ k ih =>
      intro hk
      rw [Rs.whl_eq, ht _ (by omega)]
      simp only [Rs.bo, if_true]
      rw [hb _ (by omega), Rs.bo, show n - (k + 1) + 1 = n - k by omega]
      exact ih (by omega)
  have := key n (Nat.le_refl _)
  rwa [Nat.sub_self] at this
/-- a while by its invariant and a measure -/
theorem whl_inv {t : γ → Rs Bool} {b : γ → Rs γ} (I : γ → Prop) (μ : γ → Nat) (h : ∀ g, I g → ∃ c, t g = .ok c ∧ (c = true → ∃ g', b g = .ok g' ∧ I g' ∧ μ g' < μ g)) {g : γ} (h0 : I g) : ∃ g', Rs.whl t b g = .ok g' ∧ I g' ∧ t g' = .ok false := by
  have key : ∀ (n : Nat) (g : γ), μ g = n → I g → ∃ g', Rs.whl t b g = .ok g' ∧ I g' ∧ t g' = .ok false := by
    intro n
    induction n using Nat.strongRecOn with
    | _ n ih =>
      intro g hn hg
      obtain ⟨c, e, hc⟩ := h g hg
      rw [Rs.whl_eq, e]
      simp only [Rs.bo]
      cases c with
      | false => exact ⟨g, rfl, hg, e⟩
      | true =>
        obtain ⟨g', e2, i2, m2⟩ := hc rfl
        simp only [if_true]
        rw [e2, Rs.bo]
        exact ih _ (by omega) g' rfl i2
  exact key _ g rfl h0
theorem foldR_at {f : γ → α → Rs (γ ⊕ ρ)} {g : γ} {r : ρ} : ∀ {xs : List α} (k : Nat) {a : α}, xs[k]? = some a → f g a = .ok (.inr r) → (∀ i b, i < k → xs[i]? = some b → f g b = .ok (.inl g)) → Rs.foldR f g xs = .ok (.inr r)
  | [], k, a, ha, _, _ => by simp at ha
  | x :: xs, 0, a, ha, hk, _ => by
    have e : x = a := Option.some.inj ha
    subst e
    show (f g x).bind _ = _
    rw [hk]
    rfl
  | x :: xs, k + 1, a, ha, hk, hi => by
    show (f g x).bind _ = _
    rw [hi 0 x (by omega) rfl]
    exact foldR_at (xs := xs) k ha hk fun i b h1 h2 => hi (i + 1) b (by omega) h2
/-- all turns go on -/
theorem foldR_all {f : γ → α → Rs (γ ⊕ ρ)} {g : γ} : ∀ {xs : List α}, (∀ x ∈ xs, f g x = .ok (.inl g)) → Rs.foldR f g xs = .ok (.inl g)
  | [], _ => rfl
  | x :: xs, h => by
    show (f g x).bind _ = _
    rw [h x List.mem_cons_self]
    exact foldR_all fun y hy => h y (List.mem_cons_of_mem _ hy)
/-! ### numbers below, caps, reaches -/
def atmost (s : List Int) (x : Int) : Int := ((s.filter fun y => decide (y ≤ x)).length : Int)
theorem below_at (s : List Int) (x : Int) : below s x = atmost s (x - 1) := by
  unfold below atmost
  congr 2
  apply List.filter_congr
  intro z _
  rw [decide_eq_decide]
  omega
theorem below_cons (y : Int) (s : List Int) (x : Int) : below (y :: s) x = (if y < x then 1 else 0) + below s x := by
  unfold below
  rw [List.filter_cons]
  by_cases h : y < x
  · rw [if_pos (by simpa using h), if_pos h, List.length_cons]; omega
  · rw [if_neg (by simpa using h), if_neg h]; omega
theorem below_nn (s : List Int) (x : Int) : 0 ≤ below s x := by unfold below; omega
theorem below_le (s : List Int) (x : Int) : below s x ≤ s.length := by
  unfold below
  have := List.length_filter_le (fun y => decide (y < x)) s
  omega
theorem below_perm {s s' : List Int} (h : s.Perm s') (x : Int) : below s x = below s' x := by
  unfold below
  rw [(h.filter _).length_eq]
theorem atmost_perm {s s' : List Int} (h : s.Perm s') (x : Int) : atmost s x = atmost s' x := by
  unfold atmost
  rw [(h.filter _).length_eq]
theorem below_lt {s : List Int} {x : Int} (h : x ∈ s) : below s x < s.length := by
  induction s with
  | nil => cases h
  | cons y s ih =>
    rw [below_cons, List.length_cons]
    rcases List.mem_cons.mp h with e | e
    · subst e
      have := below_le s x
      rw [if_neg (by omega)]
      omega
    · have := ih e
      split <;> omega
theorem IsFt.perm {s s' : List Int} {t m : Int} (p : s.Perm s') (h : IsFt s t m) : IsFt s' t m := by
  obtain ⟨h1, h2, h3⟩ := h
  refine ⟨?_, by rw [← below_perm p]; exact h2, fun x hx => by rw [← below_perm p]; exact h3 x (p.mem_iff.mpr hx)⟩
  rcases h1 with e | ⟨x, hx, e⟩
  · exact .inl (by rw [← below_perm p]; exact e)
  · exact .inr ⟨x, p.mem_iff.mp hx, by rw [← below_perm p]; exact e⟩
theorem maxI_perm {s s' : List Int} (p : s.Perm s') {m : Int} (h : maxI s = .ok m) : maxI s' = .ok m := by
  obtain ⟨h1, h2⟩ := maxI_spec.mp h
  exact maxI_spec.mpr ⟨p.mem_iff.mp h1, fun x hx => h2 x (p.mem_iff.mpr hx)⟩
theorem perm_sum {xs ys : List Int} (p : xs.Perm ys) : xs.sum = ys.sum := by
  induction p with
  | nil => rfl
  | cons x _ ih => rw [List.sum_cons, List.sum_cons, ih]
  | swap x y l => simp only [List.sum_cons]; omega
  | trans _ _ h1 h2 => exact h1.trans h2
def capE (w x e : Int) : Int := if x < e then 0 else (w + 1) ^ (x - e).toNat
def reachE (w : Int) (L : List Int) (e : Int) : Int := (L.map fun x => capE w x e).sum
theorem pow_pos' {b : Int} (h : 1 ≤ b) : ∀ n : Nat, 1 ≤ b ^ n
  | 0 => by rw [Int.pow_zero]; exact Int.le_refl _
  | n + 1 => by
    rw [Int.pow_succ]
    have := pow_pos' h n
    have h2 : 1 * 1 ≤ b ^ n * b := Int.mul_le_mul this h (by decide) (by omega)
    omega
theorem pow_mono {b : Int} (h : 1 ≤ b) {m n : Nat} (hmn : m ≤ n) : b ^ m ≤ b ^ n := by
  obtain ⟨k, rfl⟩ := Nat.exists_eq_add_of_le hmn
  rw [Int.pow_add]
  have h1 := pow_pos' h m
  have h2 := pow_pos' h k
  have h3 : b ^ m * 1 ≤ b ^ m * b ^ k := Int.mul_le_mul_of_nonneg_left h2 (by omega)
  omega
theorem pow_base {a b : Int} (h0 : 0 ≤ a) (h : a ≤ b) : ∀ n : Nat, a ^ n ≤ b ^ n
  | 0 => by rw [Int.pow_zero, Int.pow_zero]; exact Int.le_refl _
  | n + 1 => by
    rw [Int.pow_succ, Int.pow_succ]
    exact Int.mul_le_mul (pow_base h0 h n) h h0 (Int.pow_nonneg (by omega))
theorem two_pow_gt (n : Nat) : (n : Int) + 1 ≤ 2 ^ n := by
  induction n with
  | zero => decide
  | succ n ih => rw [Int.pow_succ]; omega
theorem capE_nn {w : Int} (hw : 0 ≤ w) (x e : Int) : 0 ≤ capE w x e := by
  unfold capE
  split
  · exact Int.le_refl _
  · exact Int.pow_nonneg (by omega)
theorem sum_nn {L : List Int} {g : Int → Int} (h : ∀ x, 0 ≤ g x) : 0 ≤ (L.map g).sum := by
  induction L with
  | nil => exact Int.le_refl _
  | cons x L ih => rw [List.map_cons, List.sum_cons]; have := h x; omega
theorem sum_mem {L : List Int} {g : Int → Int} (h : ∀ x, 0 ≤ g x) {x : Int} (hx : x ∈ L) : g x ≤ (L.map g).sum := by
  induction L with
  | nil => cases hx
  | cons y L ih =>
    rw [List.map_cons, List.sum_cons]
    rcases List.mem_cons.mp hx with e | e
    · subst e
      have : 0 ≤ (L.map g).sum := sum_nn h
      omega
    · have := ih e
      have := h y
      omega
/-- as many as are not below x0 count q each -/
theorem sum_above {q x0 : Int} {g : Int → Int} : ∀ {L : List Int}, (∀ y ∈ L, 0 ≤ g y ∧ (x0 ≤ y → q ≤ g y)) → q * (L.length - below L x0) ≤ (L.map g).sum
  | [], _ => by simp [below]
  | y :: L, h => by
    have ih := sum_above (q := q) (x0 := x0) (g := g) (L := L) fun z hz => h z (List.mem_cons_of_mem _ hz)
    obtain ⟨h1, h2⟩ := h y List.mem_cons_self
    rw [List.map_cons, List.sum_cons, below_cons, List.length_cons]
    by_cases hy : y < x0
    · rw [if_pos hy, show (((L.length + 1 : Nat) : Int) - (1 + below L x0)) = L.length - below L x0 by omega]
      omega
    · rw [if_neg hy, show (((L.length + 1 : Nat) : Int) - (0 + below L x0)) = (L.length - below L x0) + 1 by omega, Int.mul_add, Int.mul_one]
      have := h2 (by omega)
      omega
/-- the reach at the low end -/
theorem reach_low {w : Int} (hw : 1 ≤ w) {L : List Int} {t m : Int} (ht : t ∈ L) (h : IsFt L t m) : (L.length : Int) ≤ reachE w L m := by
  obtain ⟨x, hx, e⟩ : ∃ x ∈ L, m = x - below L x := by
    rcases h.here with e | e
    · exact ⟨t, ht, e⟩
    · exact e
  have f0 := below_nn L x
  have f1 := below_lt hx
  generalize hf : below L x = f at f0 f1 e
  obtain ⟨k, rfl⟩ := Int.eq_ofNat_of_zero_le f0
  have hs := sum_above (q := 2 ^ k) (x0 := x) (g := fun y => capE w y m) (L := L) fun y _ => ⟨capE_nn (by omega) y m, fun hy => by
    unfold capE
    rw [if_neg (by omega)]
    exact Int.le_trans (pow_mono (b := 2) (by decide) (show k ≤ (y - m).toNat by omega)) (pow_base (by decide) (by omega) _)⟩
  rw [hf] at hs
  have g1 := two_pow_gt k
  generalize hg : (L.length : Int) - (k : Int) = g at hs
  have h2 : g * ((k : Int) + 1) ≤ g * 2 ^ k := Int.mul_le_mul_of_nonneg_left g1 (by omega)
  have h3 : (k : Int) * 1 ≤ (k : Int) * g := Int.mul_le_mul_of_nonneg_left (by omega) (by omega)
  rw [Int.mul_add, Int.mul_one, Int.mul_comm g (k : Int)] at h2
  rw [Int.mul_comm] at hs
  unfold reachE
  omega
theorem reach_cut {n e w : Int} (hw : 0 ≤ w) (hn : 0 ≤ n) (L : List Int) : (((L.filter fun v => decide (e ≤ v)).map fun v => min ((w + 1) ^ (v - e).toNat) n).sum < n) ↔ reachE w L e < n := by
  have key : ∀ L : List Int, 0 ≤ ((L.filter fun v => decide (e ≤ v)).map fun v => min ((w + 1) ^ (v - e).toNat) n).sum ∧ 0 ≤ reachE w L e ∧ ((L.filter fun v => decide (e ≤ v)).map fun v => min ((w + 1) ^ (v - e).toNat) n).sum ≤ reachE w L e ∧
      min n (reachE w L e) ≤ ((L.filter fun v => decide (e ≤ v)).map fun v => min ((w + 1) ^ (v - e).toNat) n).sum := by
    intro L
    induction L with
    | nil => simp [reachE]; omega
    | cons x L ih =>
      obtain ⟨i1, i2, i3, i4⟩ := ih
      have er : reachE w (x :: L) e = capE w x e + reachE w L e := by unfold reachE; rw [List.map_cons, List.sum_cons]
      rw [er]
      by_cases hx : e ≤ x
      · rw [List.filter_cons, if_pos (by simpa using hx), List.map_cons, List.sum_cons]
        have ec : capE w x e = (w + 1) ^ (x - e).toNat := by unfold capE; rw [if_neg (by omega)]
        have : 0 ≤ (w + 1) ^ (x - e).toNat := Int.pow_nonneg (by omega)
        rw [ec]
        omega
      · rw [List.filter_cons, if_neg (by simpa using hx)]
        have ec : capE w x e = 0 := by unfold capE; rw [if_pos (by omega)]
        rw [ec]
        omega
  have := key L
  omega
/-- rows of levels near to 0 -/
structure IsBook (rs : List (Int × Str)) (n : Nat) : Prop where
  ne : 1 ≤ rs.length
  le : rs.length ≤ n
  rec' : ∀ r ∈ rs, IsRec r.2
  lo : ∀ r ∈ rs, -2000 ≤ r.1
  hi : ∀ r ∈ rs, r.1 ≤ 2000
end
end Wm
set_option Elab.async false
set_option linter.all false
set_option maxRecDepth 100000
set_option maxHeartbeats 4000000
namespace Wm
open PySem PySem.Spec PyProof.Rows L2
open Rep (rep)
open Own (own)
variable [TabT]
/-! ### own exceptions are made -/
/-- the base class, whose __init__ is ValueError's -/
structure BaseX (K : PySem.W.Frag) (W : Addr) : Prop where
  rd : PySem.W.readsIn K W (.type "type") = true
  ga : PySem.W.specialIn K (.ref W) "__getattribute__" = some (some (.builtin "type.__getattribute__"))
  vi : PySem.W.findCls K (.ref W) (.type "type") "__init__" = some (.val (.builtin "ValueError.__init__"))
/-- an own exception class with an __init__ of its own -/
structure OwnX (K : PySem.W.Frag) (C fI : Addr) : Prop where
  oex : OexC K C
  iC : PySem.W.findIn K (.ref C) "__init__" = some (some (.ref fI))
  tI : PySem.W.typeIn K (.ref fI) = some (.type "function")
omit [TabT] in
omit [TabT] in
/-- what may stand in an exception's text -/
def Msg (v : V) : Prop := (∃ i : Int, v = .int i ∧ i.natAbs.log2 < 64) ∨ ∃ y : Str, v = .str y ∧ y.length ≤ 1000
section
variable {X : Cx} {e : Expr} {es : List Expr} {ta : TA} {p1 p2 pos : Pos}
omit [TabT] in
theorem pe_weinit {x : Str} {W : Addr} {pl : Sem Bool} (B : BaseX X.K W) (hg : Gl X x) (hm : X.mg x = some (.ref W)) (ha : PA X (e :: es) ta) (hdb : (x == ("__debug__" : Str)) = false := by decide)
    (hc : eval (.Call (.Attribute (.Name x p1) "__init__" p2) (e :: es) [] pos) X.env = (do let ov ← eval (.Name x p1) X.env; standAt p2.atName; let (f, first) ← holding [ov] (getMethod ov "__init__" pl); callWith pos f first (backTo pos (starEach (e :: es) X.env)) (backToKw pos (keywordEach [] X.env))) := by rfl)
    (he : starEach (e :: es) X.env = (false, eval e X.env) :: starEach es X.env := by rfl) (hpl : (backTo pos (starEach es X.env)).any (·.1) = false := by rfl) :
    PE X (.Call (.Attribute (.Name x p1) "__init__" p2) (e :: es) [] pos) (tVeI X.K ta) := ⟨fun pins s σ H Q I h => by
  refine PySem.W.methodCall_KW (ld_glob I hg hm ?_ hdb) hc
  refine PySem.W.method_cls I.kIn B.ga (PySem.W.cls_value I.kIn B.rd B.vi (by decide +kernel) ?_)
  refine PyProof.Rows.callWith_method1 (thn (ha.run pos pins _ σ H _ (I.tok _) h) fun us s1 ⟨vs, H1, I1, r1, a, C, ws, ev, hl, T, ea, q⟩ => ?_) he hpl
  subst ev
  cases r1 with
  | @cons _ u0 _ ur ra rw' =>
    obtain rfl : u0 = Value.ref a := ra
    exact oinit_ok T I1 ea (by rw [← Paired.length rw', sizeLine_eq]; omega) fun s' J => ⟨.non, H1, J, rfl, q⟩⟩
omit [TabT] in
theorem emp_app (a : Str) : (Str.empty ++ a).length = a.length := by
  rw [Str.len_toList, Str.len_toList]
  have h : (Str.empty ++ a).cps = Str.empty.cps ++ a.cps := rfl
  rw [h, Array.toList_append, List.length_append]
  show 0 + _ = _
  omega
omit [TabT] in
theorem app_len' (a b : Str) : (a ++ b).length = a.length + b.length := by
  rw [Str.len_toList, Str.len_toList, Str.len_toList]
  have h : (a ++ b).cps = a.cps ++ b.cps := rfl
  rw [h, Array.toList_append, List.length_append]
omit [TabT] in
theorem fmt_var {i : Nat} {v : V} {σ : L2.St} {H : Hp} {Q : VK} (hy : σ[i]? = some (some v)) (h : Msg v) (q : ∀ y : Str, y.length ≤ 1000 → Q (.str y) H) : tFmt (tVar i) σ H Q := by
  refine ⟨v, hy, ?_⟩
  rcases h with ⟨i, rfl, hi⟩ | ⟨y, rfl, hl⟩
  · refine .inr ⟨i, rfl, Nat.lt_trans hi (by decide), q _ ?_⟩
    have e := PySem.int_text_length_le (k := 64) (by decide) hi
    show (Str.ofString (toString i)).length ≤ _
    rw [PyProof.Rows.ofString_length, String.length_toList]
    omega
  · exact .inl ⟨y, rfl, by rw [sizeLine_eq]; omega, q y hl⟩
end
/-! ### its __init__ -/
def spE (C : Addr) (f : Str) : Sp := fun vs H Q _ => ∃ (a : Addr) (y : V), vs = [.ref a, y] ∧ H a = some (exo a C none) ∧ Msg y ∧ ∀ dx, H dx = none → dx ≠ a → Q .non (upd (upd H dx (exd dx [(f, y)])) a (exo a C (some dx)))
theorem j3 {a b : Str} (la : a.length ≤ 100) (lb : b.length ≤ 100) : ∀ (σ : L2.St) (H : Hp) (Q : Str → Hp → Prop) (y : V), σ[1]? = some (some y) → Msg y → (∀ out, out.length ≤ 3000 → Q out H) → tJs [tC (.str a), tFmt (tVar 1), tC (.str b)] Str.empty σ H Q := fun σ H Q y hy hm q => by
  refine ⟨a, rfl, by rw [emp_app, sizeLine_eq]; omega, fmt_var hy hm fun z hz => ⟨z, rfl, by rw [app_len', emp_app, sizeLine_eq]; omega, b, rfl, by rw [app_len', app_len', emp_app, sizeLine_eq]; omega, q _ ?_⟩⟩
  rw [app_len', app_len', emp_app]; omega
theorem j2 {a : Str} (la : a.length ≤ 100) : ∀ (σ : L2.St) (H : Hp) (Q : Str → Hp → Prop) (y : V), σ[1]? = some (some y) → Msg y → (∀ out, out.length ≤ 3000 → Q out H) → tJs [tC (.str a), tFmt (tVar 1)] Str.empty σ H Q := fun σ H Q y hy hm q => by
  refine ⟨a, rfl, by rw [emp_app, sizeLine_eq]; omega, fmt_var hy hm fun z hz => ⟨z, rfl, by rw [app_len', emp_app, sizeLine_eq]; omega, q _ ?_⟩⟩
  rw [app_len', emp_app]; omega
theorem ini_ok {P : Program} {w : World} {K : PySem.W.Frag} {mg : Str → Option Value} {base : Heap} {x qual f : Str} {st : Stmt} {fI C : Addr} {fd : FuncData} {ts : List TE} (O : OexC K C) (hno : PySem.W.findIn K (.ref C) f = some none) (F : Fun K x qual st fI fd) (S : FnScope ["self", f] ["self", f] (defScope st))
    (hj : ∀ (σ : L2.St) (H : Hp) (Q : Str → Hp → Prop) (y : V), σ[1]? = some (some y) → Msg y → (∀ out, out.length ≤ 3000 → Q out H) → tJs ts Str.empty σ H Q)
    (body : ∀ (cdv : Value) (A : Around) (outer : List Env) (s : Shared) (H : Hp) (E : XK), PSs (cxOf (L2N.CX P w) P w K mg base ["self", f] qual (defScope st) fI cdv A outer s H E) (defBody st)
      (tSeq (tDrop (tVeI K (tCons (tVar 0) (tCons (fun σ H Q => tJs ts Str.empty σ H fun out H1 => Q (.str out) H1) tNil)))) (tOst K f (tVar 0) (tVar 1)))) : FnOk P w K mg base (L2N.CX P w) 1 fI fd ["self", f] (spE C f) := by
  refine okN F S (fun vs H Q E h => ?_) (fun cdv A outer s H vs Q E hr h => ⟨_, body cdv A outer s H E, ?_⟩)
  · obtain ⟨a, y, rfl, _⟩ := h
    rfl
  · obtain ⟨a, y, rfl, ha, hm, q⟩ := h
    refine ⟨.ref a, rfl, hj _ _ _ y rfl hm fun out ho => ⟨a, C, [.str out], rfl, Nat.le_of_ble_eq_true rfl, O, ha, ?_⟩⟩
    exact ⟨y, rfl, .ref a, rfl, a, C, rfl, O, hno, .inl ⟨ha, fun dx hd hne => q dx hd hne⟩⟩
/-! ### an own exception is made -/
omit [TabT] in
omit [TabT] in
/-- C(e): the class's exception, its context None, its dict {f: e} -/
def tMkE (C : Addr) (f : Str) (te : TE) : L2.St → Hp → XK → Prop := fun σ H Q => te σ H fun y H1 => Msg y ∧ ∀ d, H1 d = none → Q (.ref C) (some d) (upd H1 d (.xd [(f, y)]))
omit [TabT] in
theorem heap_eq {H1 : Hp} {b dx : Addr} {o : Option Addr → HO} {u z : HO} (hb : H1 b = none) : upd (del (upd (upd (upd H1 b (o none)) dx u) b (o (some dx))) b) dx z = upd H1 dx z := by
  funext i
  by_cases h1 : i = dx
  · rw [h1, upd_same, upd_same]
  · rw [upd_ne h1, upd_ne h1]
    by_cases h2 : i = b
    · rw [h2, del_same, hb]
    · rw [del_ne h2, upd_ne h2, upd_ne h1, upd_ne h2]
theorem mk_own {X : Cx} {e : Expr} {te : TE} {x f : Str} {p pos : Pos} {C fI : Addr} {k : Nat} {fd : FuncData} (O : OwnX X.K C fI) (F1 : FnOk X.prog X.w X.K X.mg X.base (L2N.CX X.prog X.w) k fI fd ["self", f] (spE C f)) (hr : Room (k + 1) X.A) (hb : Binds X.K fd ["self", f] []) (hg : Gl X x) (hm : X.mg x = some (.ref C)) (he : PE X e te)
    (hdb : (x == ("__debug__" : Str)) = false := by decide) (hs : starEach (e :: []) X.env = (false, eval e X.env) :: starEach [] X.env := by rfl) (hpl : (backTo pos (starEach [] X.env)).any (·.1) = false := by rfl) : L2N.PMk X (.Call (.Name x p) [e] [] pos) (tMkE C f te) := fun pins s σ H Q I h => by
  obtain ⟨nm, q, N, bs, bm, sn, sub, ab, col, dd, k0, k1, k2, k3, k5, hC, hbm⟩ := O.oex.cls
  have hA : PA X [e] (tCons te tNil) := pa_cons he pa_nil hs
  refine wpAny_Call_Name_kw (ld_glob I hg hm (PySem.W.callWith_K (h₀ := X.base) I.ok.mod.kin O.oex.kC (thn (hA.run pos pins s σ H (fun vs H1 => ∃ y, vs = [y] ∧ Msg y ∧ ∀ d, H1 d = none → Q (.ref C) (some d) (upd H1 d (.xd [(f, y)]))) I ?_) fun us s1 ⟨vs, H1, I1, r1, y, ev, hm1, q1⟩ => ⟨I1.kIn, ?_⟩) hs hpl) hdb)
  · have e0 : (fun y H1 => Msg y ∧ ∀ d, H1 d = none → Q (.ref C) (some d) (upd H1 d (.xd [(f, y)]))) = fun y H1 => ∃ z, [y] = [z] ∧ Msg z ∧ ∀ d, H1 d = none → Q (.ref C) (some d) (upd H1 d (.xd [(f, z)])) := by
      funext y H1
      exact propext ⟨fun w => ⟨y, rfl, w⟩, fun ⟨z, e, w⟩ => by cases e; exact w⟩
    show te σ H fun y H1 => ∃ z, [y] = [z] ∧ Msg z ∧ ∀ d, H1 d = none → Q (.ref C) (some d) (upd H1 d (.xd [(f, z)]))
    rw [← e0]
    exact h
  subst ev
  obtain ⟨u, rfl, ru⟩ := vals1 r1
  obtain ⟨hp, g, dr, tk, os⟩ := s1
  generalize hbq : hp.objs.size + 1 = b
  have nb : H1 b = none := hbq ▸ I1.hok.fresh (Nat.le_succ _)
  have hget : ((hp.push (PySem.W.kdv_tup [u])).push (PySem.HandSPX.excO C hp.objs.size)).get? b = some (PySem.HandSPX.excO C hp.objs.size) := by
    subst hbq; heap_get
  have kk : ∀ z o, hp.get? z = some o → ((hp.push (PySem.W.kdv_tup [u])).push (PySem.HandSPX.excO C hp.objs.size)).get? z = some o := fun z o e => Heap.get?_push_of_some _ (Heap.get?_push_of_some _ e)
  have I2 : Inv X pins σ (upd H1 b (exo b C none)) ⟨(hp.push (PySem.W.kdv_tup [u])).push (PySem.HandSPX.excO C hp.objs.size), g, dr, tk, os⟩ :=
    I1.laid (t' := tk) kk (by show hp.objs.size ≤ b; omega) (exo_ok hget)
  have hsp : spE C f [.ref b, y] (upd H1 b (exo b C none)) (fun v H2 => v = .non ∧ ∃ dx, H2 b = some (exo b C (some dx)) ∧ H2 dx = some (exd dx [(f, y)]) ∧ H1 dx = none ∧ upd (del H2 b) dx (.xd [(f, y)]) = upd H1 dx (.xd [(f, y)])) (fun _ _ _ => False) :=
    ⟨b, y, rfl, upd_same, hm1, fun dx hd hne => ⟨rfl, dx, upd_same, (upd_ne hne).trans upd_same, (upd_ne (H := H1) hne).symm.trans hd, heap_eq (o := exo b C) nb⟩⟩
  refine wpAny_call (PySem.HandSPX.call_own F.excBase_ValueError (fun Y => PySem.HandSPX.refsVE_contains Y bm hbm) (I1.kIn _ _ hC) (PySem.W.looks_findIn I1.kIn O.iC) (fun self => PySem.W.bind_fn I1.kIn self O.tI) (by rw [sizeLine_eq]; exact Nat.le_of_ble_eq_true rfl) ?_)
  rw [hbq]
  have bd := hb ⟨(hp.push (PySem.W.kdv_tup [u])).push (PySem.HandSPX.excO C hp.objs.size), g, dr, tk, os⟩ [.ref b, u] I2.kIn rfl
  refine codeAny_mono (F1.run _ X.stack _ _ ⟨[.ref b, u], []⟩ _ _ _ _ (hr.make C [u] []) (I2.env0.make C [u] []) bd (.cons (show RelV (.ref b) (.ref b) from rfl) (.cons ru .nil)) hsp) fun r s' hq => ?_
  match r, hq with
  | .error er, hq =>
    obtain ⟨_, _, _, _, _, _, _, _, _, _, _, _, z⟩ := hq
    exact z.elim
  | .ok (.ret v), hq =>
    obtain ⟨v1, H2, os2, bare, un, hok, rv, ev, dx, e1, e2, e3, e4⟩ := hq
    subst ev
    obtain ⟨h2, g2, d2, t2, os'⟩ := s'
    obtain ⟨t0, G, J, kG, ge, hoe, na⟩ := mk_end0 (d2 := d2) (t2 := t2) I1 (a := b) (by omega) kk un hok os2 bare e1 e2 e3
    rw [e4] at J na
    exact ⟨rv, b, _, _, ⟨G, g2, d2, t2, os'⟩, _, .ref C, some dx, rfl, J, kG, ge, hoe, ⟨rfl, rfl, fun vs e => by cases e; rfl⟩, rfl, rfl, na, rfl, bare, raises_own O.oex.exC O.oex.tyC, q1 dx e3⟩
  | .ok .next, hq => exact hq.elim
  | .ok .brk, hq => exact hq.elim
  | .ok .cont, hq => exact hq.elim
/-! ### what is raised -/
omit [TabT] in
theorem log2_small {n : Nat} (h : n < 1000000000000) : n.log2 < 64 := by
  by_cases h0 : n = 0
  · subst h0; decide
  · exact (Nat.log2_lt h0).mpr (Nat.lt_trans h (by decide))
class XV (α : Type) [Rep α] where
  pd : α → PD
  fit : α → Bool
  msg : ∀ {wd G v} {a : α}, rep wd G v a → fit a = true → Msg v
  rp : ∀ {wd G v} {a : α}, rep wd G v a → RepPD G v (pd a)
omit [TabT] in
instance : XV Int := ⟨.int, fun i => decide (i.natAbs < 1000000000000), fun {wd G v a} h q => .inl ⟨a, h, log2_small (of_decide_eq_true q)⟩, fun h => h⟩
omit [TabT] in
instance : XV Str := ⟨.str, fun y => decide (y.length ≤ 1000), fun {wd G v a} h q => .inr ⟨a, h.1, of_decide_eq_true q⟩, fun h => h.1⟩
omit [TabT] in
theorem XV.fit_int (i : Int) : XV.fit i = decide (i.natAbs < 1000000000000) := rfl
section
variable {X : Cx} {F : Fx} {c c' : Ctx} {α ρ : Type} {kr : Kd F.wd ρ} {e : Expr} {x f : Str} {p pos pos' : Pos} {fd : FuncData} {fI : Addr} {n : String} {k : Nat}
omit [TabT] in
def Rs.rai {α β : Type} [Rep α] [XV α] (n : String) (f : Str) (r : Rs α) : Rs β := r.bind fun a => if XV.fit a = true then .ex ⟨n, [(f, XV.pd a)]⟩ else .no
theorem raise_sp [Rep α] [XV α] {m : Ctx.T c → Rs α} {σ : L2.St} {H : Hp} {D : Ends} (h : tT F kr c (fun γ => Rs.rai n f (m γ)) D σ H) : tMkE (F.wd.cm n) f (tX F kF c m) σ H fun cls d H' => F.W cls d σ H' := by
  obtain ⟨H0, G0, G, os, γ, st, p⟩ := h
  refine ⟨H0, G0, G, os, γ, st, p.step st kF fun v H1 G1 a f1 r1 p1 => ?_⟩
  by_cases hf : XV.fit a = true
  · rw [if_pos hf] at p1
    refine ⟨XV.msg r1 hf, fun dx hd => ?_⟩
    have gd : G1 dx = none := f1.gh.free hd
    have f2 : Fr H G (upd H1 dx (.xd [(f, v)])) (upd G1 dx (.xd [(f, v)])) := Fr.freeze (f1.trans (Fr.alloc f1.gh hd)) (f1.h.free hd) gd upd_same
    refine p1 (some dx) σ _ _ st.len (st.f.trans f2) ?_
    show RepX _ _ ⟨n, [(f, XV.pd a)]⟩
    unfold RepX
    rw [if_neg (by simp)]
    refine ⟨dx, [(f, v)], rfl, upd_same, rfl, fun g pv hg => ?_⟩
    rw [List.lookup_cons] at hg ⊢
    by_cases hgf : (g == f) = true
    · rw [hgf] at hg ⊢
      cases hg
      exact ⟨v, rfl, XV.rp (Rep.mono (Same.upd' (Same.refl _) gd) r1)⟩
    · rw [Bool.not_eq_true] at hgf
      rw [hgf] at hg
      cases hg
  · rw [if_neg hf] at p1
    exact p1.elim
/-- raise C(e), C an own exception with an __init__ of its own -/
theorem t_raise [Rep α] [XV α] {C : Addr} {m : Ctx.T c → Rs α} (n : String) (hcm : F.wd.cm n = C) (O : OwnX X.K C fI) (F1 : FnOk X.prog X.w X.K X.mg X.base (L2N.CX X.prog X.w) k fI fd ["self", f] (spE C f)) (hb : Binds X.K fd ["self", f] []) (tk : L2N.Takes X F.W) (hr : Room (k + 1) X.A) (hm : X.mg x = some (.ref C)) (he : PE X e (tX F kF c m))
    (hc : X.calm = true := by rfl) (hg : Gl X x := by rfl) (hdb : (x == ("__debug__" : Str)) = false := by decide) (hs : starEach (e :: []) X.env = (false, eval e X.env) :: starEach [] X.env := by rfl) (hpl : (backTo pos (starEach [] X.env)).any (·.1) = false := by rfl) :
    PSs X [.Raise (some (.Call (.Name x p) [e] [] pos)) none pos'] (tT F kr c fun γ => Rs.rai n f (m γ)) := by
  subst hcm
  exact pss_mono (pss_one (L2N.ps_raise hc tk (mk_own O F1 hr hb hg hm he hdb hs hpl))) fun D σ H h => raise_sp (kr := kr) h
end
end Wm
set_option Elab.async false
set_option linter.all false
set_option maxRecDepth 100000
set_option maxHeartbeats 4000000
namespace Wm
open PySem PySem.Spec PyProof.Rows L2
open Rep (rep)
open Own (own)
/-! ### what an exception's fields keep -/
mutual
theorem RepPD.mono {G G' : Hp} (s : Same G G') : ∀ {v : V} {x : PD}, RepPD G v x → RepPD G' v x
  | _, .non, h => h
  | _, .bl _, h => h
  | _, .int _, h => h
  | _, .str _, h => h
  | _, .tup xs, ⟨p, vs, e, h, g⟩ => ⟨p, vs, e, s.v h, RepPD.mono_go s g⟩
theorem RepPD.mono_go {G G' : Hp} (s : Same G G') : ∀ {vs : List V} {xs : List PD}, RepPD.go G vs xs → RepPD.go G' vs xs
  | [], [], h => h
  | _ :: _, _ :: _, ⟨h, t⟩ => ⟨RepPD.mono s h, RepPD.mono_go s t⟩
  | [], _ :: _, h => h
  | _ :: _, [], h => h
end
theorem RepX.mono {G G' : Hp} (s : Same G G') {d : Option Addr} {x : Exc} (h : RepX G d x) : RepX G' d x := by
  unfold RepX at h ⊢
  split
  · rename_i hf
    rw [if_pos hf] at h
    exact h
  · rename_i hf
    rw [if_neg hf] at h
    obtain ⟨a, fs, e, h1, h2, h3⟩ := h
    exact ⟨a, fs, e, s.v h1, h2, fun f v hv => by
      obtain ⟨u, e1, e2⟩ := h3 f v hv
      exact ⟨u, e1, RepPD.mono s e2⟩⟩
/-- the caught exception: at a, its dict d -/
@[reducible] def repEx (a : Addr) (d : Option Addr) : Rep Exc where
  rep := fun _ G v x => v = .ref a ∧ RepX G d x
  mono := fun s ⟨e, h⟩ => ⟨e, RepX.mono s h⟩
/-- .. as the mirrors name it -/
instance : Rep Exc := repEx 0 none
/-! ### the slots that a try may set -/
def Sl.hold (n : Sl) (vs : List Nat) (σ0 : L2.St) : Sl where
  n := n.n
  ok := fun j => n.ok j ∧ j ∈ vs
  keep := fun σ => n.keep σ ∧ ∀ j, j ∉ vs → σ[j]? = σ0[j]?
  put := fun σ j x hj h => ⟨n.put σ j x hj.1 h.1, fun i hi => by
    rw [List.getElem?_set_ne (fun e => hi (by rw [← e]; exact hj.2))]
    exact h.2 i hi⟩
theorem Sl.hold_P {n : Sl} {vs : List Nat} {σ0 σ : L2.St} (h : (n.hold vs σ0).P σ) : n.P σ := ⟨h.1, h.2.1⟩
section
variable [TabT]
omit [TabT] in
/-- only frozen or borrowed names, none of vs -/
def Ctx.still (vs : List Nat) : Ctx → Bool
  | [] => true
  | @Ent.fz i _ _ :: c => !vs.contains i && Ctx.still vs c
  | @Ent.bo i _ _ :: c => !vs.contains i && Ctx.still vs c
  | _ => false
omit [TabT] in
theorem R.still {wd : Wd} {H0 H G H' G' : Hp} {σ σ' : L2.St} {vs : List Nat} (g : Same G G') (k : ∀ j, j ∉ vs → σ'[j]? = σ[j]?) : ∀ {c : Ctx} {γ : Ctx.T c} {os : List Addr}, Ctx.still vs c = true → R wd H0 σ H G c γ os → R wd H0 σ' H' G' c γ []
  | [], _, _, _, _ => rfl
  | @Ent.fz i α _ :: c, γ, os, hs, h => by
    obtain ⟨h1, h2⟩ := Bool.and_eq_true_iff.mp hs
    obtain ⟨⟨v, e, r⟩, t⟩ := h
    exact ⟨⟨v, (k i (fun z => by rw [List.contains_iff_mem.mpr z] at h1; cases h1)).trans e, Rep.mono g r⟩, R.still g k h2 t⟩
  | @Ent.bo i α _ :: c, γ, os, hs, h => by
    obtain ⟨h1, h2⟩ := Bool.and_eq_true_iff.mp hs
    obtain ⟨⟨p, o, e, e2, r⟩, t⟩ := h
    exact ⟨⟨p, o, (k i (fun z => by rw [List.contains_iff_mem.mpr z] at h1; cases h1)).trans e, e2, Own.mono g r⟩, R.still g k h2 t⟩
  | @Ent.ow i α _ :: c, γ, os, hs, h => nomatch hs
  | @Ent.oo i α _ :: c, γ, os, hs, h => nomatch hs
  | @Ent.sf i α _ x :: c, γ, os, hs, h => nomatch hs
/-! ### try -/
omit [TabT] in
abbrev Fx.cut (F : Fx) : Fx := { F with W := fun _ _ _ _ => False }

omit [TabT] in
/-- a body, and what is done with an exception of the class n; the classes of oth pass -/
def Rs.try {α : Type} (n : String) (oth : List String) (r : Rs α) (h : Exc → Rs α) : Rs α := match r with
  | .ex x => if x.cls = n then h x else if x.cls ∈ oth then .ex x else .no
  | .ok a => .ok a
  | .no => .no
section
variable {X : Cx} {F : Fx} {ρ : Type} {kr : Kd F.wd ρ} {c c1 c2 c' : Ctx} {x en : Str} {C : Addr} {i : Nat} {body suite : List Stmt} {b₀ : Stmt} {np pos pos' : Pos} {n : String} {oth : List String} {vs : List Nat}
theorem PostG.gone {H0 G0 : Hp} {D : Ends} {r : Rs (Ctx.T c1 ⊕ ρ)} (hi : F.n.lt i) (hn : Ctx.not i c1 = true) (h : PostG F kr H0 G0 c1 D r) :
    PostG F kr H0 G0 c1 { nx := fun σ' H' => D.nx (σ'.set i none) H', rt := D.rt, bk := fun σ' H' => D.bk (σ'.set i none) H', ct := fun σ' H' => D.ct (σ'.set i none) H' } r := by
  match r, h with
  | .no, h => exact h
  | .ex x, h => exact h
  | .ok (.inr z), h => exact h
  | .ok (.inl γ), h => exact fun σ H G os st => h _ _ _ _ ⟨st.len.set hi, st.f, st.nd, st.fr, st.r.set hn, st.t⟩
/-- the body's reading, from the whole's -/
theorem try_body {W' : WX} {σ : L2.St} {H H0 G0 G : Hp} {D : Ends} {os : List Addr} {γ : Ctx.T c} {r : Rs (Ctx.T c1 ⊕ ρ)} {h : Exc → Rs (Ctx.T c1 ⊕ ρ)} (st : Stt F.wd F.n H0 G0 σ H G os c γ) (p : PostG F kr H0 G0 c1 D (Rs.try n oth r h))
    (hyes : ∀ (x : Exc) d σ' H' G', x.cls = n → F.n.P σ' → (∀ j, j ∉ vs → σ'[j]? = σ[j]?) → Fr H0 G H' G' → RepX G' d x → PostG F kr H0 G0 c1 D (h x) → W' (.ref (F.wd.cm x.cls)) d σ' H')
    (hno : ∀ (x : Exc) d σ' H', x.cls ∈ oth → F.W (.ref (F.wd.cm x.cls)) d σ' H' → W' (.ref (F.wd.cm x.cls)) d σ' H') :
    PostG ⟨F.wd, F.n.hold vs σ, W'⟩ kr H0 G c1 D r := by
  match r, p with
  | .ok (.inl z), p => exact fun σ1 H1 G1 os1 s1 => p σ1 H1 G1 os1 ⟨Sl.hold_P s1.len, st.f.base s1.f, s1.nd, s1.fr, s1.r, s1.t⟩
  | .ok (.inr z), p => exact fun H1 G1 v f1 k1 => p H1 G1 v (st.f.base f1) k1
  | .no, p => exact p
  | .ex y, p =>
    intro d σ1 H1 G1 l1 f1 r1
    unfold Rs.try at p
    dsimp only at p
    by_cases h1 : y.cls = n
    · rw [if_pos h1] at p
      exact hyes y d σ1 H1 G1 h1 (Sl.hold_P l1) l1.2.2 f1 r1 p
    · rw [if_neg h1] at p
      by_cases h2 : y.cls ∈ oth
      · rw [if_pos h2] at p
        exact hno y d σ1 H1 h2 (p d σ1 H1 G1 (Sl.hold_P l1) (st.f.base f1) r1)
      · rw [if_neg h2] at p
        exact p.elim
theorem nox_post {H0 G0 : Hp} {D : Ends} {r : Rs (Ctx.T c1 ⊕ ρ)} (h : PostG F kr H0 G0 c1 D r.nox) : PostG F.cut kr H0 G0 c1 D r := by
  match r, h with
  | .no, h => exact h
  | .ex x, h => exact h.elim
  | .ok (.inr z), h => exact h
  | .ok (.inl γ), h => exact h
/-- try: body, except C as e: suite -/
theorem g_tryA {mb : Ctx.T c → Rs (Ctx.T c1 ⊕ ρ)} {mh : Exc × Ctx.T c2 → Rs (Ctx.T c1 ⊕ ρ)} (vs : List Nat) (s : Sub c c2) (hcm : F.wd.cm n = C) (hN : X.N.Nodup) (hi : X.N[i]? = some en) (hln : X.env.kindOf en = some .local) (hm : X.mg x = some (.ref C)) (tk : L2N.Takes X F.W)
    (hil : F.n.lt i) (h1 : Ctx.not i c1 = true) (h2 : Ctx.not i c2 = true) (hst : Ctx.still vs c2 = true)
    (xy : PySem.W.exmOne X.K (.ref C) (.ref C) = some true) (xn : ∀ o ∈ oth, PySem.W.exmOne X.K (.ref (F.wd.cm o)) (.ref C) = some false)
    (hb : ∀ (W : WX) (pn : List (Addr × Obj)) (xe : Value → Shared → Prop) (σ0 : L2.St), L2N.Takes (X.tr pn xe) W → PassesOwn (model X.prog X.w) X.A X.env xe → PSs (X.tr pn xe) body (tG ⟨F.wd, F.n.hold vs σ0, W⟩ kr c c1 mb))
    (hsu : ∀ (a : Addr) (oe : Obj) (d : Option Addr) (pn : List (Addr × Obj)), L2N.Zn (.ref C) d oe → (∃ vs, oe.data = .fields vs) → L2H.HotC (X.suite a ((a, oe) :: pn)) → PSs (X.suite a ((a, oe) :: pn)) (b₀ :: suite) (tG F.cut kr (@Ent.fz i Exc (repEx a d) :: c2) c1 mh))
    (hs : X.stack = X.env :: X.outer := by rfl) (hf : X.env.frame = some X.env.locals := by rfl) (hg : Gl X x := by rfl) (hdb : (x == ("__debug__" : Str)) = false := by decide) :
    PS X (.Try body [.ExceptHandler (some (.Name x np)) (some en) (b₀ :: suite) pos'] [] [] pos) (tG F kr c c1 fun γ => Rs.try n oth (mb γ) fun x => (mh (x, s.proj γ)).nox) := by
  refine ps_mono (L2N.ps_try_as (c := .ref C) (tb := fun W D σ H => tG ⟨F.wd, F.n.hold vs σ, W⟩ kr c c1 mb D σ H) (ts := fun a cls d D σ H => cls = .ref C ∧ tG F.cut kr (@Ent.fz i Exc (repEx a d) :: c2) c1 mh D σ H) hs hf hN hi hln ⟨hg, hdb, .inl hm⟩ tk
    (fun W pn xe tw pw => ⟨fun pins s σ H D I q => (hb W pn xe σ tw pw).run pins s σ H D I q⟩)
    (fun a oe cls d pn hz hd => ⟨fun pins s σ H D I ⟨e, q⟩ => by
      subst e
      obtain ⟨vs, hv⟩ := id hd
      exact (hsu a oe d pn hz hd ⟨(a, oe), ⟨rfl, vs, hv, hz.2.2 vs hv⟩, List.mem_cons_self⟩).run pins s σ H D I q⟩)) fun D σ H ⟨H0, G0, G, os, γ, st, p⟩ => ?_
  refine ⟨H0, G, G, os, γ, ⟨⟨st.len.1, st.len.2, fun _ _ => rfl⟩, st.rebase.f, st.nd, st.fr, st.r, st.t⟩, try_body st p (fun y d σ1 H1 G1 e1 l1 k1 f1 r1 p1 => ?_) fun y d σ1 H1 e1 w1 => ⟨false, xn _ e1, fun z => Bool.noConfusion z, fun _ => w1⟩⟩
  refine ⟨true, by rw [e1, hcm]; exact xy, fun _ a ha => ⟨by rw [e1, hcm], H0, G0, G1, [], (y, s.proj γ), ?_, PostG.gone (F := F.cut) hil h1 (nox_post p1)⟩, fun z => Bool.noConfusion z⟩
  obtain ⟨os2, _, q2⟩ := st.sub s
  have q3 : Stt F.wd F.n H0 G0 σ1 H1 G1 [] c2 (s.proj γ) := ⟨l1, st.f.base f1, List.nodup_nil, fun _ z => (by cases z), R.still f1.g k1 hst q2.r, st.t⟩
  exact @R.push _ _ F.wd H0 G0 H1 G1 σ1 F.n Exc (repEx a d) i (.ref a) y [] (s.proj γ) q3 hil h2 ⟨rfl, r1⟩
/-- try: body, except C: suite -/
theorem g_tryO {mb : Ctx.T c → Rs (Ctx.T c1 ⊕ ρ)} {mh : Ctx.T c2 → Rs (Ctx.T c1 ⊕ ρ)} (vs : List Nat) (s : Sub c c2) (hcm : F.wd.cm n = C) (hm : X.mg x = some (.ref C)) (tk : L2N.Takes X F.W) (hst : Ctx.still vs c2 = true)
    (xy : PySem.W.exmOne X.K (.ref C) (.ref C) = some true) (xn : ∀ o ∈ oth, PySem.W.exmOne X.K (.ref (F.wd.cm o)) (.ref C) = some false)
    (hb : ∀ (W : WX) (pn : List (Addr × Obj)) (xe : Value → Shared → Prop) (σ0 : L2.St), L2N.Takes (X.tr pn xe) W → PassesOwn (model X.prog X.w) X.A X.env xe → PSs (X.tr pn xe) body (tG ⟨F.wd, F.n.hold vs σ0, W⟩ kr c c1 mb))
    (hsu : ∀ (a : Addr) (oe : Obj) (d : Option Addr) (pn : List (Addr × Obj)), L2N.Zn (.ref C) d oe → (∃ vs, oe.data = .fields vs) → L2H.HotC (X.suite a ((a, oe) :: pn)) → PSs (X.suite a ((a, oe) :: pn)) (b₀ :: suite) (tG F.cut kr c2 c1 mh))
    (hs : X.stack = X.env :: X.outer := by rfl) (hf : X.env.frame = some X.env.locals := by rfl) (hg : Gl X x := by rfl) (hdb : (x == ("__debug__" : Str)) = false := by decide) :
    PS X (.Try body [.ExceptHandler (some (.Name x np)) none (b₀ :: suite) pos'] [] [] pos) (tG F kr c c1 fun γ => Rs.try n oth (mb γ) fun _ => (mh (s.proj γ)).nox) := by
  refine ps_mono (L2N.ps_try_many (Wout := F.W) (l := [(.ref C, fun a cls d D σ H => cls = .ref C ∧ tG F.cut kr c2 c1 mh D σ H)]) (tb := fun W D σ H => tG ⟨F.wd, F.n.hold vs σ, W⟩ kr c c1 mb D σ H) hs hf tk
    (fun W pn xe tw pw => ⟨fun pins s σ H D I q => (hb W pn xe σ tw pw).run pins s σ H D I q⟩)
    (.cons ⟨hg, hdb, .inl hm⟩ (fun a oe cls d pn hz hd => ⟨fun pins s σ H D I ⟨e, q⟩ => by
      subst e
      obtain ⟨vs, hv⟩ := id hd
      exact (hsu a oe d pn hz hd ⟨(a, oe), ⟨rfl, vs, hv, hz.2.2 vs hv⟩, List.mem_cons_self⟩).run pins s σ H D I q⟩) .nil)) fun D σ H ⟨H0, G0, G, os, γ, st, p⟩ => ?_
  refine ⟨H0, G, G, os, γ, ⟨⟨st.len.1, st.len.2, fun _ _ => rfl⟩, st.rebase.f, st.nd, st.fr, st.r, st.t⟩, try_body st p (fun y d σ1 H1 G1 e1 l1 k1 f1 r1 p1 => ?_) fun y d σ1 H1 e1 w1 => ⟨false, xn _ e1, fun z => Bool.noConfusion z, fun _ => w1⟩⟩
  refine ⟨true, by rw [e1, hcm]; exact xy, fun _ a ha => ⟨by rw [e1, hcm], H0, G0, G1, [], s.proj γ, ?_, nox_post p1⟩, fun z => Bool.noConfusion z⟩
  obtain ⟨os2, _, q2⟩ := st.sub s
  exact ⟨l1, st.f.base f1, List.nodup_nil, fun _ z => (by cases z), R.still f1.g k1 hst q2.r, st.t⟩
omit [TabT] in
/-- a statement that always returns; one that never does -/
def Rs.ret {γ ρ : Type} (r : Rs (γ ⊕ ρ)) : Rs ρ := r.bind fun z => match z with | .inl _ => .no | .inr x => .ok x
omit [TabT] in
def Rs.fall {γ ρ : Type} (r : Rs (γ ⊕ ρ)) : Rs γ := r.bind fun z => match z with | .inl g => .ok g | .inr _ => .no
theorem b_gt {st : Stmt} {m : Ctx.T c → Rs (Ctx.T c' ⊕ ρ)} (h : PS X st (tG F kr c c' m)) : PSs X [st] (tT F kr c fun γ => Rs.ret (m γ)) :=
  pss_mono (pss_one h) fun D σ H ⟨H0, G0, G, os, γ, st, p⟩ => ⟨H0, G0, G, os, γ, st, by
    unfold Rs.ret at p
    dsimp only at p
    cases e : m γ with
    | no => rw [e] at p; exact p
    | ex x => rw [e] at p; exact p
    | ok z =>
      rw [e] at p
      cases z with
      | inl g => exact p.elim
      | inr x => exact p⟩
theorem s_gs {st : Stmt} {m : Ctx.T c → Rs (Ctx.T c' ⊕ ρ)} (h : PS X st (tG F kr c c' m)) : PS X st (tS F c c' fun γ => Rs.fall (m γ)) :=
  ps_mono h fun D σ H ⟨H0, G0, G, os, γ, st, p⟩ => ⟨H0, G0, G, os, γ, st, by
    unfold Rs.fall at p
    dsimp only at p
    cases e : m γ with
    | no => rw [e] at p; exact p
    | ex x => rw [e] at p; exact p
    | ok z =>
      rw [e] at p
      cases z with
      | inl g => exact p
      | inr x => exact p.elim⟩
end
/-! ### in the suite -/
structure CatC (K : PySem.W.Frag) (C : Addr) : Prop where
  xf : XfC K C
  ha : PySem.W.findIn K (.ref C) "__class__" = some (some (.builtin "object.__class__"))
  hn : PySem.W.specialIn K (.builtin "object.__class__") "__get__" = some (some (.builtin "getset_descriptor.__get__"))
  ht : PySem.W.takesIn K (.builtin "object.__class__") = some true
  hm : PySem.W.mroIn K C (.type "object") = some true
structure ClsX (K : PySem.W.Frag) (C : Addr) : Prop where
  hd : PySem.W.hasDictIn K C = true
  ex : PySem.W.subIn K (.ref C) (.type "BaseException") = some true
  ty : PySem.W.typeIn K (.ref C) = some (.type "type")
  sf : PySem.W.subIn K (.ref C) (.ref C) = some true
omit [TabT] in
theorem ClsX.exm {K : PySem.W.Frag} {C D : Addr} {b : Bool} (h : ClsX K C) (s : PySem.W.subIn K (.ref D) (.ref C) = some b) : PySem.W.exmOne K (.ref D) (.ref C) = some b := PySem.W.exm_ref h.ex h.hd h.ty s
omit [TabT] in
theorem ClsX.kit {K : PySem.W.Frag} {C D : Addr} {b : Bool} (h : ClsX K C) (s : PySem.W.subIn K (.ref D) (.ref C) = some b) : PySem.W.kitOne K (.ref D) (.ref C) = some b := by
  obtain ⟨cd, hc, _⟩ := PySem.W.any_some h.hd
  unfold PySem.W.kitOne
  split
  · rename_i e
    have e2 : D = C := Value.ref.inj (beq_iff_eq.mp e)
    subst e2
    rw [h.sf] at s
    exact s
  · show (if ((PySem.W.clsIn K C).isSome && PySem.W.typeIn K (.ref C) == some (.type "type")) = true then PySem.W.subIn K (.ref D) (.ref C) else none) = some b
    rw [if_pos (by rw [hc, h.ty]; rfl)]
    exact s
omit [TabT] in
theorem kit_VE {K : PySem.W.Frag} {D : Addr} (s : PySem.W.subIn K (.ref D) (.type "ValueError") = some true) : PySem.W.kitOne K (.ref D) (.type "ValueError") = some true := by
  unfold PySem.W.kitOne
  split
  · rfl
  · show (if PySem.W.kitMeta "ValueError" = true then PySem.W.subIn K (.ref D) (.type "ValueError") else none) = _
    rw [if_pos (by decide +kernel)]
    exact s
section
variable {X : Cx} {F : Fx} {α ρ : Type} {kr : Kd F.wd ρ} {c : Ctx} {x y f : Str} {C a : Addr} {oe : Obj} {d : Option Addr} {pn : List (Addr × Obj)} {i : Nat} {p p2 p3 pos : Pos}
omit [TabT] in
theorem inst_of {P : Program} {w : World} {H : Hp} {h : Heap} (hok : HOk P w H h) (hg : h.get? a = some oe) (hz : Zc (.ref C) d oe) (hf : ∃ vs, oe.data = .fields vs) (hd : d = none ∨ ∃ dd fs, d = some dd ∧ H dd = some (.xd fs)) : ∃ od, PySem.W.InstAt h a oe C od := by
  obtain ⟨vs, hv⟩ := hf
  have nc : PySem.W.notCls oe = true := by unfold PySem.W.notCls; rw [hv] <;> rfl
  rcases hd with e | ⟨dd, fs, e, hx⟩
  · subst e
    exact ⟨none, hg, hz.1, nc, by rw [hz.2] <;> trivial⟩
  · subst e
    have hx2 : ObjOk P w H h dd (.xd fs) := hok dd _ hx
    obtain ⟨mA, hns, _⟩ := hx2
    obtain ⟨od, ho, _⟩ := lookIn_ns hns
    exact ⟨some od, hg, hz.1, nc, by rw [hz.2]; exact ho⟩
omit [TabT] in
def rIsX (K : PySem.W.Frag) (C a : Addr) (d : Option Addr) : List V → Hp → VK → Prop := fun xs H Q => ∃ (c : V) (cv : Value) (b : Bool), xs = [.ref a, c] ∧ (∀ u, RelV c u → u = cv) ∧ (d = none ∨ ∃ dd fs, d = some dd ∧ H dd = some (.xd fs)) ∧ PySem.W.kitOne K (.ref C) cv = some b ∧ Q (.bl b) H
omit [TabT] in
theorem call_isX (T : CatC X.K C) (hz : Zc (.ref C) d oe) (hf : ∃ vs, oe.data = .fields vs) : CallR (X.suite a ((a, oe) :: pn)) (.builtin "isinstance") (rIsX X.K C a d) := by
  intro pins s σ H xs us Q I r h
  obtain ⟨c, cv, b, rfl, hcv, hd, e, q⟩ := h
  obtain ⟨u1, u2, rfl, r1, r2⟩ := vals2 r
  obtain rfl : u1 = Value.ref a := r1
  have ec := hcv _ r2
  subst ec
  obtain ⟨hget, _⟩ := I.pin (a, oe) (List.mem_append.mpr (.inl List.mem_cons_self))
  obtain ⟨od, J⟩ := inst_of I.hok hget hz hf hd
  obtain ⟨cd, hcd, _⟩ := PySem.W.any_some T.xf.hdC
  exact PySem.W.kia_one (PySem.W.kitx_exc (by rw [hcd]; rfl) T.xf.ga T.xf.gg T.xf.exC T.ha T.hn T.ht T.hm) I.kIn J e (fun z => nomatch z) fun tk => ⟨.bl b, H, I.kept (t' := tk) fun _ _ z => z, rfl, q⟩
/-- isinstance(e, Y), the answer known -/
theorem e_isE {b : Bool} {cv : V} {u : Value} (T : CatC X.K C) (hz : L2N.Zn (.ref C) d oe) (hf : ∃ vs, oe.data = .fields vs) (v : Var c (@Ent.fz i Exc (repEx a d))) (hN : X.N[i]? = some x) (hc : PE (X.suite a ((a, oe) :: pn)) (.Name y p2) (tC cv)) (hcv : ∀ u', RelV cv u' → u' = u) (hk : PySem.W.kitOne X.K (.ref C) u = some b) (hm : X.mg "isinstance" = none)
    (hv : Vis X.env.scope x := by first | exact Or.inl rfl | exact Or.inr (Or.inl rfl) | exact Or.inr (Or.inr rfl)) (hd : (x == ("__debug__" : Str)) = false := by decide) (hcd : (x == ("__classdict__" : Str)) = false := by decide) (hg : Gl X "isinstance" := by rfl)
    (he : starEach (.Name x p3 :: .Name y p2 :: []) X.env = (false, eval (.Name x p3) X.env) :: starEach (.Name y p2 :: []) X.env := by rfl) (he2 : starEach (.Name y p2 :: []) X.env = (false, eval (.Name y p2) X.env) :: starEach [] X.env := by rfl) (hpl : (backTo pos (starEach (.Name y p2 :: []) X.env)).any (·.1) = false := by rfl) :
    PE (X.suite a ((a, oe) :: pn)) (.Call (.Name "isinstance" p) [.Name x p3, .Name y p2] [] pos) (tX F kF c fun γ => Rs.ok b) :=
  pe_mono (pe_callB (X := X.suite a ((a, oe) :: pn)) (call_isX T hz.zc hf) hg hm (by decide +kernel) (pa_cons (pe_var (X := X.suite a ((a, oe) :: pn)) hN hv hd hcd) (pa_cons hc pa_nil he2) he) (by decide) (by decide) he hpl) fun σ H Q ⟨H0, G0, G, os, γ, st, p⟩ => by
    obtain ⟨v1, e1, e2, r1⟩ := @Var.fz _ _ _ _ _ i Exc (repEx a d) _ v _ _ st.r
    subst e2
    refine ⟨_, e1, cv, u, b, rfl, hcv, ?_, hk, p H G (.bl b) (Fr.refl st.f.gh) rfl⟩
    unfold RepX at r1
    split at r1
    · exact .inl r1
    · obtain ⟨dd, fs, g1, g2, _⟩ := r1
      exact .inr ⟨dd, fs, g1, st.f.gh.v g2⟩
/-- what a field holds -/
class FV (α : Type) [Rep α] where
  get : PD → Rs α
  rp : ∀ {wd G v x} {y : α}, get x = .ok y → RepPD G v x → rep wd G v y
  ex : ∀ {x e}, get x ≠ .ex e
omit [TabT] in
instance : FV Int := ⟨fun x => match x with | .int i => .ok i | _ => .no, fun {wd G v x y} h r => by
  cases x with
  | int i => cases h; exact r
  | _ => (cases h), fun {x e} h => by cases x <;> cases h⟩
open Classical in
noncomputable instance : FV Str := ⟨fun x => match x with | .str s => if SOk s then .ok s else .no | _ => .no, fun {wd G v x y} h r => by
  cases x with
  | str s =>
    dsimp only at h
    split at h
    · rename_i hs; cases h; exact ⟨r, hs⟩
    · cases h
  | _ => (cases h), fun {x e} h => by
  cases x with
  | str s =>
    dsimp only at h
    split at h <;> cases h
  | _ => cases h⟩
omit [TabT] in
def Exc.at {α : Type} [Rep α] [FV α] (x : Exc) (f : Str) : Rs α := match x.fld with
  | [] => .no
  | y :: ys => match List.lookup f (y :: ys) with
    | some z => FV.get z
    | none => .no
/-- e.f -/
theorem e_fldE [Rep α] [FV α] (T : CatC X.K C) (hz : L2N.Zn (.ref C) d oe) (hf : ∃ vs, oe.data = .fields vs) (v : Var c (@Ent.fz i Exc (repEx a d))) (hno : PySem.W.findIn X.K (.ref C) f = some none) (hN : X.N[i]? = some x)
    (hv : Vis X.env.scope x := by first | exact Or.inl rfl | exact Or.inr (Or.inl rfl) | exact Or.inr (Or.inr rfl)) (hd : (x == ("__debug__" : Str)) = false := by decide) (hcd : (x == ("__classdict__" : Str)) = false := by decide) (hb : attributeBase (.Name x p3) f X.env (eval (.Name x p3) X.env) = eval (.Name x p3) X.env := by rfl) :
    PE (X.suite a ((a, oe) :: pn)) (.Attribute (.Name x p3) f pos) (tX F (kF (α := α)) c fun γ => Exc.at (v.get γ) f) :=
  pe_mono (pe_xf T.xf hno hz.zc hf (pe_var (X := X.suite a ((a, oe) :: pn)) hN hv hd hcd) hb) fun σ H Q ⟨H0, G0, G, os, γ, st, p⟩ => by
    obtain ⟨v1, e1, e2, r1⟩ := @Var.fz _ _ _ _ _ i Exc (repEx a d) _ v _ _ st.r
    subst e2
    refine ⟨_, e1, rfl, rfl, ?_⟩
    unfold Exc.at at p
    dsimp only at p
    cases hfl : (v.get γ).fld with
    | nil => rw [hfl] at p; exact p.elim
    | cons y0 ys =>
      rw [hfl] at p
      dsimp only at p
      unfold RepX at r1
      rw [if_neg (by rw [hfl]; exact fun z => nomatch z)] at r1
      obtain ⟨dd, fs, g1, g2, _, g3⟩ := r1
      cases hl : List.lookup f (y0 :: ys) with
      | none => rw [hl] at p; exact p.elim
      | some z =>
        rw [hl] at p
        dsimp only at p
        obtain ⟨u, k1, k2⟩ := g3 f z (by rw [hfl]; exact hl)
        refine ⟨dd, fs, u, g1, st.f.gh.v g2, k1, ?_⟩
        cases hgz : (FV.get z : Rs α) with
        | no => rw [hgz] at p; exact p.elim
        | ex e => exact (FV.ex hgz).elim
        | ok r => rw [hgz] at p; exact p H G u (Fr.refl st.f.gh) (FV.rp hgz k2)
/-! ### calls where an exception is handled -/
omit [TabT] in
theorem takes_cut {X : Cx} : L2N.Takes X (fun _ _ _ _ => False) := fun _ _ ⟨_, _, _, _, _, _, _, _, _, _, _, _, _, _, _, _, w⟩ => w.elim
theorem fn_okH {P : Program} {w : World} {K : PySem.W.Frag} {mg : Str → Option Value} {base : Heap} {ρ : Type} {wd : Wd} {kr : Kd wd ρ} {Γ : Ctx} {m : Ctx.T Γ → Rs ρ} {x qual : Str} {st : Stmt} {f : Addr} {fd : FuncData} {N ps : List Str} {k : Nat} (F : Fun K x qual st f fd) (S : FnScope N ps (defScope st)) (hl : Γ.length = ps.length)
    (body : ∀ (cdv : Value) (A : Around) (outer : List Env) (s : Shared) (H : Hp) (E : XK) (p : Addr × Obj), L2H.Hot1 A p → L2H.RoomH k (A.deeper (envOfC qual (defScope st) s.heap.objs.size f cdv)) →
      PSs (L2H.cxH (L2N.CX P w) P w K mg base N qual (defScope st) f cdv A outer s H E p) (defBody st) (tT ⟨wd, Sl.all N.length, fun cls d _ H => E cls d H⟩ kr Γ m)) : L2H.FnH P w K mg base (L2N.CX P w) (k + 1) f fd ps (spF wd kr Γ m) := by
  have hpl : ps.length ≤ N.length := by have := congrArg List.length S.pre; rw [List.length_take] at this; omega
  refine okH F S (fun vs H Q E h => h.1.trans hl) (fun cdv A outer s H vs Q E p hp hr h => ⟨_, body cdv A outer s H E p hp hr, ?_⟩)
  obtain ⟨h1, G, γ, gh, tb, ra, p⟩ := h
  refine ⟨H, G, G, [], γ, ⟨?_, Fr.refl gh, List.nodup_nil, fun _ z => (by cases z), RA.r (fun k v e => start_get e) ra, tb⟩, ?_⟩
  · refine ⟨?_, trivial⟩
    show _ = N.length
    unfold L2.start
    rw [List.length_append, List.length_map, List.length_replicate]
    omega
  · cases e : m γ with
    | no => rw [e] at p; exact p
    | ex x => rw [e] at p; exact fun d σ H' G' _ => p d H' G'
    | ok r => rw [e] at p; exact fun H' G' v f q => p H' G' v f q
theorem e_callH {kr : Kd F.wd ρ} {Γ : Ctx} {m : Ctx.T Γ → Rs ρ} {ma : Ctx.T c → Rs (Ctx.T Γ)} {e : Expr} {es : List Expr} {q : Pos} {fa : Addr} {fd : FuncData} {ps : List Str} {k : Nat} (tk : L2N.Takes X F.W) (hot : L2H.HotC X) (Fn : L2H.FnH X.prog X.w X.K X.mg X.base (L2N.CX X.prog X.w) k fa fd ps (spF F.wd kr Γ m)) (hr : L2H.RoomH k X.A) (hm : X.mg x = some (.ref fa)) (hk : PySem.W.keepIn X.K (.ref fa) = true) (hb : Binds X.K fd ps [])
    (ha : PA X (e :: es) (tA F c 0 Γ ma)) (hg : Gl X x := by rfl) (hdb : (x == ("__debug__" : Str)) = false := by decide) (he : starEach (e :: es) X.env = (false, eval e X.env) :: starEach es X.env := by rfl) (hpl : (backTo pos (starEach es X.env)).any (·.1) = false := by rfl) :
    PE X (.Call (.Name x q) (e :: es) [] pos) (tX F kr c fun γ => (ma γ).bind m) :=
  pe_mono (L2H.pe_callH Fn hr hot hg hm hk hb (fun σ => L2N.passAt tk σ) ha hdb he hpl) fun σ H Q h => sp_of h
end
omit [TabT] in
theorem bt_ValueError : bootBuiltins "ValueError" = some (.type "ValueError") := by decide +kernel
section
variable {X : Cx} {F : Fx} {ρ : Type} {kr : Kd F.wd ρ} {c c' : Ctx} {sts : List Stmt}
/-- a block that always raises, where one is wanted that goes on -/
theorem b_ts {m : Ctx.T c → Rs ρ} (h : PSs X sts (tT F kr c m)) : PSs X sts (tS F c c' fun γ => (m γ).bind fun _ => .no) :=
  pss_mono h fun D σ H ⟨H0, G0, G, os, γ, st, p⟩ => ⟨H0, G0, G, os, γ, st, by
    dsimp only at p
    cases e : m γ with
    | no => rw [e] at p; exact p
    | ex x => rw [e] at p; exact p
    | ok z => rw [e] at p; exact p.elim⟩
end
/-- a def that falls off its end, or returns nothing -/
theorem fn_okG {P : Program} {w : World} {K : PySem.W.Frag} {mg : Str → Option Value} {base : Heap} {wd : Wd} {Γ c' : Ctx} {m : Ctx.T Γ → Rs (Ctx.T c' ⊕ Unit)} {x qual : Str} {st : Stmt} {f : Addr} {fd : FuncData} {N ps : List Str} {k : Nat} (F : Fun K x qual st f fd) (S : FnScope N ps (defScope st)) (hl : Γ.length = ps.length)
    (body : ∀ (cdv : Value) (A : Around) (outer : List Env) (s : Shared) (H : Hp) (E : XK), Room k (A.deeper (envOfC qual (defScope st) s.heap.objs.size f cdv)) →
      PSs (cxOf (L2N.CX P w) P w K mg base N qual (defScope st) f cdv A outer s H E) (defBody st) (tG ⟨wd, Sl.all N.length, fun cls d _ H => E cls d H⟩ (kF : Kd wd Unit) Γ c' m)) : FnOk P w K mg base (L2N.CX P w) (k + 1) f fd ps (spF wd (kF (α := Unit)) Γ fun γ => (m γ).bind fun _ => .ok ()) := by
  have hpl : ps.length ≤ N.length := by have := congrArg List.length S.pre; rw [List.length_take] at this; omega
  refine okN F S (fun vs H Q E h => h.1.trans hl) (fun cdv A outer s H vs Q E hr h => ⟨_, body cdv A outer s H E hr, ?_⟩)
  obtain ⟨h1, G, γ, gh, tb, ra, p⟩ := h
  refine ⟨H, G, G, [], γ, ⟨?_, Fr.refl gh, List.nodup_nil, fun _ z => (by cases z), RA.r (fun k v e => start_get e) ra, tb⟩, ?_⟩
  · refine ⟨?_, trivial⟩
    show _ = N.length
    unfold L2.start
    rw [List.length_append, List.length_map, List.length_replicate]
    omega
  · dsimp only at p
    cases e : m γ with
    | no => rw [e] at p; exact p
    | ex x => rw [e] at p; exact fun d σ H' G' _ => p d H' G'
    | ok r =>
      rw [e] at p
      cases r with
      | inl g => exact fun σ' H' G' os st => p H' G' .non st.f rfl
      | inr u => exact fun H' G' v f q => p H' G' v f q
omit [TabT] in
theorem room_mark {j k : Nat} {A : Around} {h : Option Value} (r : Room k A) (hj : j ≤ k) : L2H.RoomH j (A.mark h) :=
  ⟨by have := r.dp; show A.depth + 3 * j + 5 < _; omega, by have := r.un; show A.units + 16 * j + 200 < _; omega⟩
/-! ### builtins of two -/
section
variable {X : Cx} {F : Fx} {c : Ctx} {α β δ : Type} {k1 : Kd F.wd α} {k2 : Kd F.wd β} {k3 : Kd F.wd δ} {a b : Expr} {ma : Ctx.T c → Rs α} {mb : Ctx.T c → Rs β} {pos p : Pos}
theorem e_b2 {x : Str} {id : String} {r : List V → Hp → VK → Prop} {f : α → β → Rs δ} (hc : CallR X (.builtin id) r) (hs : Sem2 k1 k2 k3 (fun x y => r [x, y]) f) (hg : Gl X x) (hm : X.mg x = none) (hv : bootBuiltins x = some (.builtin id)) (ha : PE X a (tX F k1 c ma)) (hb : PE X b (tX F k2 c mb)) (hn : x ≠ "__name__" := by decide)
    (hdb : (x == ("__debug__" : Str)) = false := by decide) (he : starEach (a :: b :: []) X.env = (false, eval a X.env) :: starEach (b :: []) X.env := by rfl) (he2 : starEach (b :: []) X.env = (false, eval b X.env) :: starEach [] X.env := by rfl) (hpl : (backTo pos (starEach (b :: []) X.env)).any (·.1) = false := by rfl) :
    PE X (.Call (.Name x p) [a, b] [] pos) (tX F k3 c fun γ => (ma γ).bind fun x => (mb γ).bind fun y => f x y) :=
  pe_mono (pe_callB hc hg hm hv (pa_cons ha (pa_cons hb pa_nil he2) he) hn hdb he hpl) fun σ H Q h => tX2 hs h
theorem m_max2 {wd : Wd} : Sem2 (wd := wd) kF kF kF (fun x y => (fun xs H Q => ∃ i j, xs = [V.int i, V.int j] ∧ Q (.int (if j > i then j else i)) H : List V → Hp → VK → Prop) [x, y]) (fun (a b : Int) => .ok (max a b)) := by
  intro W σ B1 B2 H G x y a b Q gh hx hy p
  rw [show x = .int a from hx, show y = .int b from hy]
  refine ⟨a, b, rfl, p H G _ (Fr.refl gh) ?_⟩
  show V.int _ = V.int _
  congr 1
  split <;> omega
theorem m_min2 {wd : Wd} : Sem2 (wd := wd) kF kF kF (fun x y => (fun xs H Q => ∃ i j, xs = [V.int i, V.int j] ∧ Q (.int (if j < i then j else i)) H : List V → Hp → VK → Prop) [x, y]) (fun (a b : Int) => .ok (min a b)) := by
  intro W σ B1 B2 H G x y a b Q gh hx hy p
  rw [show x = .int a from hx, show y = .int b from hy]
  refine ⟨a, b, rfl, p H G _ (Fr.refl gh) ?_⟩
  show V.int _ = V.int _
  congr 1
  split <;> omega
end
/-! ### in -/
omit [TabT] in
theorem room65 {k : Nat} {A : Around} (r : Room k A) : A.units + 65 < cLine := by have := r.un; omega
omit [TabT] in
def memB {α : Type} [DecidableEq α] (a : α) (as : List α) : Bool := decide (a ∈ as)
omit [TabT] in
theorem memB_iff {α : Type} [DecidableEq α] {a : α} {as : List α} : memB a as = true ↔ a ∈ as := decide_eq_true_iff
omit [TabT] in
theorem any_mem {α : Type} [Rep α] [DecidableEq α] [PyEq α] (a : α) (as : List α) : ((as.map PyEq.d).any fun z => PyData.eqv z (PyEq.d a)) = decide (a ∈ as) := by
  induction as with
  | nil => rfl
  | cons b as ih =>
    rw [List.map_cons, List.any_cons, ih, PyEq.eqv]
    by_cases h : b = a
    · rw [dtrue h, dtrue (show a ∈ b :: as by rw [h]; exact List.mem_cons_self)]; rfl
    · rw [decide_eq_false h]
      by_cases h2 : a ∈ as
      · rw [dtrue h2, dtrue (List.mem_cons_of_mem _ h2)]; rfl
      · rw [decide_eq_false h2, decide_eq_false fun z => (List.mem_cons.mp z).elim (fun q => h q.symm) h2]; rfl
theorem m_inD {α : Type} [Rep α] [DecidableEq α] [PyEq α] {wd : Wd} {K : PySem.W.Frag} (hd : PyEq.dep (List α) ≤ 64 := by decide) : Sem2 (wd := wd) kF kB kF (rInD K) (fun (a : α) (as : List α) => .ok (memB a as)) := by
  intro W σ B1 B2 H G x y a as Q gh hx hy p
  obtain ⟨h1, h2⟩ := dpB (K := K) gh hy
  refine ⟨_, as.map PyEq.d, PyEq.dp gh hx, h1, shaped_of hx (Nat.le_trans (Nat.le_succ _) hd), shapedB h2 hd, ?_⟩
  rw [any_mem]
  exact p H G _ (Fr.refl gh) rfl
theorem m_niD {α : Type} [Rep α] [DecidableEq α] [PyEq α] {wd : Wd} {K : PySem.W.Frag} (hd : PyEq.dep (List α) ≤ 64 := by decide) : Sem2 (wd := wd) kF kB kF (rNotInD K) (fun (a : α) (as : List α) => .ok (!memB a as)) := by
  intro W σ B1 B2 H G x y a as Q gh hx hy p
  obtain ⟨h1, h2⟩ := dpB (K := K) gh hy
  refine ⟨_, as.map PyEq.d, PyEq.dp gh hx, h1, shaped_of hx (Nat.le_trans (Nat.le_succ _) hd), shapedB h2 hd, ?_⟩
  rw [any_mem]
  exact p H G _ (Fr.refl gh) rfl
theorem m_inTI {wd : Wd} {K : PySem.W.Frag} : Sem2 (wd := wd) kF kF kF (rIn K false) (fun (a : Int) (as : Tup Int) => .ok (decide (a ∈ as.items))) := by
  intro W σ B1 B2 H G x y a as Q gh hx ⟨q, o, e1, e2, vs, e3, e4, r⟩ p
  subst e1; subst e3
  rw [r.ints] at e2
  rw [show x = .int a from hx]
  refine ⟨q, _, rfl, .inr (.of (gh.v e2)), rfl, flat_ints as.items, ?_⟩
  show Q (.bl (inV _ _)) H
  rw [inV_ints]
  exact p H G _ (Fr.refl gh) rfl
theorem m_niTI {wd : Wd} {K : PySem.W.Frag} : Sem2 (wd := wd) kF kF kF (rIn K true) (fun (a : Int) (as : Tup Int) => .ok (!decide (a ∈ as.items))) := by
  intro W σ B1 B2 H G x y a as Q gh hx ⟨q, o, e1, e2, vs, e3, e4, r⟩ p
  subst e1; subst e3
  rw [r.ints] at e2
  rw [show x = .int a from hx]
  refine ⟨q, _, rfl, .inr (.of (gh.v e2)), rfl, flat_ints as.items, ?_⟩
  show Q (.bl (!inV _ _)) H
  rw [inV_ints]
  exact p H G _ (Fr.refl gh) rfl
theorem m_isV {wd : Wd} {α : Type} [Rep α] (h : ∀ {G v} {a : α}, rep wd G v a → v ≠ .non) : Sem2 (wd := wd) kF kF kF (fun x y H Q => y = .non ∧ Q (.bl (decide (x = .non))) H) (fun (a : α) (_ : Unit) => .ok false) := by
  intro W σ B1 B2 H G x y a b Q gh hx hy p
  refine ⟨hy, ?_⟩
  rw [decide_eq_false (h hx)]
  exact p H G _ (Fr.refl gh) rfl
theorem m_notV {wd : Wd} {α : Type} [Rep α] (h : ∀ {G v} {a : α}, rep wd G v a → v ≠ .non) : Sem2 (wd := wd) kF kF kF (fun x y H Q => y = .non ∧ Q (.bl (!decide (x = .non))) H) (fun (a : α) (_ : Unit) => .ok true) := by
  intro W σ B1 B2 H G x y a b Q gh hx hy p
  refine ⟨hy, ?_⟩
  rw [decide_eq_false (h hx)]
  exact p H G _ (Fr.refl gh) rfl
/-! ### is, of bools -/
omit [TabT] in
theorem op_isB {X : Cx} : OpR X (compareOp .Is) (fun x y H Q => ∃ a b : Bool, x = .bl a ∧ y = .bl b ∧ Q (.bl (a == b)) H) := by
  intro pins s σ H x y v u Q I rx ry h
  obtain ⟨a, b, rfl, rfl, q⟩ := h
  cases rx
  cases ry
  exact is_bool (fin_bl I q rfl)
omit [TabT] in
theorem op_isnB {X : Cx} : OpR X (compareOp .IsNot) (fun x y H Q => ∃ a b : Bool, x = .bl a ∧ y = .bl b ∧ Q (.bl (a != b)) H) := by
  intro pins s σ H x y v u Q I rx ry h
  obtain ⟨a, b, rfl, rfl, q⟩ := h
  cases rx
  cases ry
  exact isnot_bool (fin_bl I q rfl)
theorem m_isB {wd : Wd} : Sem2 (wd := wd) kF kF kF (fun x y H Q => ∃ a b : Bool, x = .bl a ∧ y = .bl b ∧ Q (.bl (a == b)) H) (fun (a b : Bool) => .ok (a == b)) := by
  intro W σ B1 B2 H G x y a b Q gh hx hy p
  exact ⟨a, b, hx, hy, p H G _ (Fr.refl gh) rfl⟩
theorem m_isnB {wd : Wd} : Sem2 (wd := wd) kF kF kF (fun x y H Q => ∃ a b : Bool, x = .bl a ∧ y = .bl b ∧ Q (.bl (a != b)) H) (fun (a b : Bool) => .ok (a != b)) := by
  intro W σ B1 B2 H G x y a b Q gh hx hy p
  exact ⟨a, b, hx, hy, p H G _ (Fr.refl gh) rfl⟩
/-! ### isinstance of a caught error, several classes -/
omit [TabT] in
def tCs (vs : List V) : TA := fun _ H Q => Q vs H
omit [TabT] in
theorem pa_c0 {X : Cx} : PA X [] (tCs []) := pa_nil
theorem pa_c {X : Cx} {e : Expr} {es : List Expr} {v : V} {vs : List V} (h : PE X e (tC v)) (r : PA X es (tCs vs)) (hs : starEach (e :: es) X.env = (false, eval e X.env) :: starEach es X.env := by rfl) : PA X (e :: es) (tCs (v :: vs)) := pa_cons h r hs
omit [TabT] in
theorem any_0 {K : PySem.W.Frag} {t : Value} : PySem.W.kitAny K t [] = some false := rfl
omit [TabT] in
theorem any_f {K : PySem.W.Frag} {t c : Value} {r : List Value} {b : Bool} (h : PySem.W.kitOne K t c = some false) (k : PySem.W.kitAny K t r = some b) : PySem.W.kitAny K t (c :: r) = some b := by
  unfold PySem.W.kitAny
  rw [h]
  exact k
omit [TabT] in
theorem any_t {K : PySem.W.Frag} {t c : Value} {r : List Value} (h : PySem.W.kitOne K t c = some true) : PySem.W.kitAny K t (c :: r) = some true := by
  unfold PySem.W.kitAny
  rw [h]
omit [TabT] in
theorem refs_eq : ∀ {cs : List Addr} {us : List Value}, Vals (cs.map V.ref) us → us = cs.map Value.ref
  | [], _, h => by cases h; rfl
  | c :: cs, _, h => by
    cases h with
    | cons r rs =>
      rw [List.map_cons, ← refs_eq rs]
      congr 1
section
variable {X : Cx} {F : Fx} {c : Ctx} {x : Str} {C a : Addr} {oe : Obj} {d : Option Addr} {pn : List (Addr × Obj)} {i : Nat} {p p2 p3 pos : Pos}
omit [TabT] in
def rIsXt (K : PySem.W.Frag) (C a : Addr) (d : Option Addr) : List V → Hp → VK → Prop := fun xs H Q => ∃ (q : Addr) (cs : List Addr) (b : Bool), xs = [.ref a, .ref q] ∧ H q = some (.tup (cs.map V.ref)) ∧ (d = none ∨ ∃ dd fs, d = some dd ∧ H dd = some (.xd fs)) ∧ PySem.W.kitAny K (.ref C) (cs.map Value.ref) = some b ∧ Q (.bl b) H
omit [TabT] in
theorem call_isXt (T : CatC X.K C) (hz : Zc (.ref C) d oe) (hf : ∃ vs, oe.data = .fields vs) : CallR (X.suite a ((a, oe) :: pn)) (.builtin "isinstance") (rIsXt X.K C a d) := by
  intro pins s σ H xs us Q I r h
  obtain ⟨q, cs, b, rfl, hq, hd, e, k⟩ := h
  obtain ⟨u1, u2, rfl, r1, r2⟩ := vals2 r
  obtain rfl : u1 = Value.ref a := r1
  obtain rfl : u2 = Value.ref q := r2
  obtain ⟨hget, _⟩ := I.pin (a, oe) (List.mem_append.mpr (.inl List.mem_cons_self))
  obtain ⟨od, J⟩ := inst_of I.hok hget hz hf hd
  obtain ⟨cd, hcd, _⟩ := PySem.W.any_some T.xf.hdC
  have ht : ObjOk X.prog X.w H s.heap q (.tup (cs.map V.ref)) := I.hok q _ hq
  obtain ⟨_, its, hv, o, ho, hc, n, hdt⟩ := ht
  have ei := refs_eq hv
  subst ei
  obtain ⟨oc, od2, odt, osl⟩ := o
  dsimp only at hc hdt
  subst hc hdt
  exact PySem.W.kia_tup (PySem.W.kitx_exc (by rw [hcd]; rfl) T.xf.ga T.xf.gg T.xf.exC T.ha T.hn T.ht T.hm) I.kIn J ho e (fun z => nomatch z) fun tk => ⟨.bl b, H, I.kept (t' := tk) fun _ _ z => z, rfl, k⟩
theorem e_isT {b : Bool} {cs : List Addr} {es : List Expr} {x1} (T : CatC X.K C) (hz : L2N.Zn (.ref C) d oe) (hf : ∃ vs, oe.data = .fields vs) (v : Var c (@Ent.fz i Exc (repEx a d))) (hN : X.N[i]? = some x) (hc : PA (X.suite a ((a, oe) :: pn)) es (tCs (cs.map V.ref))) (hl : cs.length ≤ 1000) (hk : PySem.W.kitAny X.K (.ref C) (cs.map Value.ref) = some b) (hm : X.mg "isinstance" = none)
    (hv : Vis X.env.scope x := by first | exact Or.inl rfl | exact Or.inr (Or.inl rfl) | exact Or.inr (Or.inr rfl)) (hd : (x == ("__debug__" : Str)) = false := by decide) (hcd : (x == ("__classdict__" : Str)) = false := by decide) (hg : Gl X "isinstance" := by rfl)
    (he : starEach (.Name x p3 :: .Tuple es x1 p2 :: []) X.env = (false, eval (.Name x p3) X.env) :: starEach (.Tuple es x1 p2 :: []) X.env := by rfl) (he2 : starEach (.Tuple es x1 p2 :: []) X.env = (false, eval (.Tuple es x1 p2) X.env) :: starEach [] X.env := by rfl) (hpl : (backTo pos (starEach (.Tuple es x1 p2 :: []) X.env)).any (·.1) = false := by rfl) :
    PE (X.suite a ((a, oe) :: pn)) (.Call (.Name "isinstance" p) [.Name x p3, .Tuple es x1 p2] [] pos) (tX F kF c fun γ => Rs.ok b) :=
  pe_mono (pe_callB (X := X.suite a ((a, oe) :: pn)) (call_isXt T hz.zc hf) hg hm (by decide +kernel) (pa_cons (pe_var (X := X.suite a ((a, oe) :: pn)) hN hv hd hcd) (pa_cons (pe_tup hc) pa_nil he2) he) (by decide) (by decide) he hpl) fun σ H Q ⟨H0, G0, G, os, γ, st, p⟩ => by
    obtain ⟨v1, e1, e2, r1⟩ := @Var.fz _ _ _ _ _ i Exc (repEx a d) _ v _ _ st.r
    subst e2
    refine ⟨_, e1, ?_⟩
    refine ⟨by rw [List.length_map, sizeLine_eq]; omega, fun q hq => ⟨q, cs, b, rfl, upd_same, ?_, hk, p (upd H q _) G (.bl b) (Fr.alloc st.f.gh hq) rfl⟩⟩
    unfold RepX at r1
    split at r1
    · exact .inl r1
    · obtain ⟨dd, fs, g1, g2, _⟩ := r1
      have g3 := st.f.gh.v g2
      exact .inr ⟨dd, fs, g1, by rw [upd_ne (ne_of_none g3 hq)]; exact g3⟩
end
/-! ### None is None -/
theorem m_isU {wd : Wd} : Sem2 (wd := wd) kF kF kF (fun x y H Q => y = .non ∧ Q (.bl (decide (x = .non))) H) (fun (a : Unit) (_ : Unit) => .ok true) := by
  intro W σ B1 B2 H G x y a b Q gh hx hy p
  refine ⟨hy, ?_⟩
  rw [decide_eq_true (show x = .non from hx)]
  exact p H G _ (Fr.refl gh) rfl
theorem m_notU {wd : Wd} : Sem2 (wd := wd) kF kF kF (fun x y H Q => y = .non ∧ Q (.bl (!decide (x = .non))) H) (fun (a : Unit) (_ : Unit) => .ok false) := by
  intro W σ B1 B2 H G x y a b Q gh hx hy p
  refine ⟨hy, ?_⟩
  rw [decide_eq_true (show x = .non from hx)]
  exact p H G _ (Fr.refl gh) rfl
/-! ### what is never come to -/
theorem e_never {X : Cx} {F : Fx} {c : Ctx} {α : Type} {k : Kd F.wd α} {e : Expr} : PE X e (tX F k c fun _ => .no) := ⟨fun _ _ _ _ _ _ ⟨_, _, _, _, _, _, p⟩ => p.elim⟩
theorem q_never {X : Cx} {F : Fx} {c : Ctx} {e : Expr} : PT X e (tQ F c fun _ => .no) := ⟨fun _ _ _ _ _ _ ⟨_, _, _, _, _, _, p⟩ => p.elim⟩
end
end Wm
set_option Elab.async false
set_option linter.all false
set_option maxRecDepth 100000
set_option maxHeartbeats 4000000
namespace Wm
open PySem PySem.Spec PyProof.Rows L2
open Rep (rep)
open Own (own)
variable [TabT]
/-! ### sorted(..) of texts -/
omit [TabT] in
theorem ltc_asymm : ∀ {a b : List Nat}, ltCps a b = true → ltCps b a = false
  | [], [], h => by cases h
  | [], _ :: _, _ => rfl
  | _ :: _, [], h => by cases h
  | a :: r, b :: t, h => by
    simp only [ltCps, Bool.or_eq_true, Bool.and_eq_true, decide_eq_true_eq, beq_iff_eq] at h
    simp only [ltCps, Bool.or_eq_false_iff, Bool.and_eq_false_iff, decide_eq_false_iff_not, beq_eq_false_iff_ne]
    rcases h with h | ⟨h1, h2⟩
    · exact ⟨by omega, .inl (by omega)⟩
    · exact ⟨by omega, .inr (ltc_asymm h2)⟩
omit [TabT] in
theorem ltc_anti : ∀ {a b : List Nat}, ltCps a b = false → ltCps b a = false → a = b
  | [], [], _, _ => rfl
  | [], _ :: _, h, _ => by cases h
  | _ :: _, [], _, h => by cases h
  | a :: r, b :: t, h, k => by
    simp only [ltCps, Bool.or_eq_false_iff, Bool.and_eq_false_iff, decide_eq_false_iff_not, beq_eq_false_iff_ne] at h k
    obtain ⟨h1, h2⟩ := h
    obtain ⟨k1, k2⟩ := k
    have e : a = b := by omega
    subst e
    rcases h2 with z | h2
    · exact absurd rfl z
    · rcases k2 with z | k2
      · exact absurd rfl z
      · rw [ltc_anti h2 k2]
omit [TabT] in
theorem ltc_trans : ∀ {a b c : List Nat}, ltCps b a = false → ltCps c b = false → ltCps c a = false
  | [], [], [], _, _ => rfl
  | [], [], _ :: _, _, h => rfl
  | [], _ :: _, [], _, h => by cases h
  | [], _ :: _, _ :: _, _, _ => rfl
  | _ :: _, [], [], h, _ => by cases h
  | _ :: _, [], _ :: _, h, _ => by cases h
  | _ :: _, _ :: _, [], _, h => by cases h
  | a :: r, b :: t, c :: u, h, k => by
    simp only [ltCps, Bool.or_eq_false_iff, Bool.and_eq_false_iff, decide_eq_false_iff_not, beq_eq_false_iff_ne] at h k ⊢
    obtain ⟨h1, h2⟩ := h
    obtain ⟨k1, k2⟩ := k
    refine ⟨by omega, ?_⟩
    by_cases e : c = a
    · refine .inr ?_
      have e1 : b = a := by omega
      subst e1
      subst e
      rcases h2 with z | h2
      · exact absurd rfl z
      · rcases k2 with z | k2
        · exact absurd rfl z
        · exact ltc_trans h2 k2
    · exact .inl e
omit [TabT] in
def leS (a b : Str) : Bool := !ltCps b.cps.toList a.cps.toList
omit [TabT] in
theorem leS_trans {a b c : Str} (h : leS a b = true) (k : leS b c = true) : leS a c = true := by
  unfold leS at *
  rw [Bool.not_eq_true'] at *
  exact ltc_trans h k
omit [TabT] in
theorem leS_total (a b : Str) : (leS a b || leS b a) = true := by
  unfold leS
  cases e : ltCps b.cps.toList a.cps.toList with
  | false => rfl
  | true => rw [ltc_asymm e]; rfl
omit [TabT] in
theorem leS_anti {a b : Str} (h : leS a b = true) (k : leS b a = true) : a = b := by
  unfold leS at *
  rw [Bool.not_eq_true'] at *
  exact Str.ext' (ltc_anti k h)
omit [TabT] in
def sortStr (xs : List Str) : List Str := xs.mergeSort leS
omit [TabT] in
theorem sortStr_perm (xs : List Str) : (sortStr xs).Perm xs := List.mergeSort_perm _ _
omit [TabT] in
theorem sortStr_up (xs : List Str) : (sortStr xs).Pairwise (fun a b => leS a b = true) := List.pairwise_mergeSort (le := leS) (fun _ _ _ h k => leS_trans h k) leS_total xs
omit [TabT] in
theorem sortStr_len (xs : List Str) : (sortStr xs).length = xs.length := (sortStr_perm xs).length_eq
omit [TabT] in
theorem risingS_up : ∀ {xs : List Str} {p : Str}, risingS p xs = true → (p :: xs).Pairwise (fun a b => leS a b = true)
  | [], p, _ => List.pairwise_singleton _ _
  | x :: xs, p, h => by
    have h' : (!ltCps x.cps.toList p.cps.toList && risingS x xs) = true := h
    rw [Bool.and_eq_true] at h'
    have ih := risingS_up h'.2
    refine List.pairwise_cons.mpr ⟨fun y hy => ?_, ih⟩
    rcases List.mem_cons.mp hy with e | e
    · rw [e]; exact h'.1
    · exact leS_trans h'.1 ((List.pairwise_cons.mp ih).1 y e)
omit [TabT] in
theorem sortedS_up : ∀ {xs : List Str}, sortedS xs = true → xs.Pairwise (fun a b => leS a b = true)
  | [], _ => List.Pairwise.nil
  | x :: xs, h => risingS_up h
omit [TabT] in
theorem sortStr_is {xs ys : List Str} (p : ys.Perm xs) (u : ys.Pairwise (fun a b => leS a b = true)) : ys = sortStr xs :=
  List.Perm.eq_of_pairwise (fun a b _ _ h1 h2 => leS_anti h1 h2) u (sortStr_up xs) (p.trans (sortStr_perm xs).symm)
omit [TabT] in
theorem reps.strs_ok {wd : Wd} {G : Hp} : ∀ {vs : List V} {as : List Str}, reps wd G vs as → ∀ a ∈ as, SOk a
  | [], [], _, _, h => by cases h
  | _ :: _, _ :: _, ⟨h, t⟩, a, m => by
    rcases List.mem_cons.mp m with e | e
    · rw [e]; exact h.2
    · exact reps.strs_ok t a e
  | [], _ :: _, h, _, _ => h.elim
  | _ :: _, [], h, _, _ => h.elim
omit [TabT] in
theorem reps.of_strs {wd : Wd} {G : Hp} : ∀ {as : List Str}, (∀ a ∈ as, SOk a) → reps wd G (as.map V.str) as
  | [], _ => trivial
  | a :: as, h => ⟨⟨rfl, h a List.mem_cons_self⟩, reps.of_strs fun b hb => h b (List.mem_cons_of_mem _ hb)⟩
omit [TabT] in
def sortS (xs : List Str) : Rs (List Str) := if xs.length < 64 then .ok (sortStr xs) else .no
theorem m_sortedS {wd : Wd} {K : PySem.W.Frag} : Sem1 (wd := wd) kB kO (fun x => rSortedS K [x]) sortS := by
  intro W σ B H G x a Q gh ⟨q, o, e1, e2, vs, e3, e4, r⟩ p
  subst e1; subst e3
  unfold sortS at p
  by_cases hl : a.length < 64
  · rw [if_pos hl] at p
    refine ⟨q, a, rfl, by rw [← r.strs]; exact .of e2, hl, fun ys d hp hu nd => ?_⟩
    have e := sortStr_is hp (sortedS_up hu)
    subst e
    exact p _ _ _ (Fr.alloc gh nd) ⟨d, _, rfl, nd, gh.free nd, upd_same, _, rfl, by rw [List.length_map, sortStr_len, ← r.len]; exact e4, reps.of_strs fun z hz => r.strs_ok z ((sortStr_perm a).mem_iff.mp hz)⟩
  · rw [if_neg hl] at p
    exact p.elim
/-! ### dicts -/
class KeyT (κ : Type) [Rep κ] where
  key : κ → Key
  inj : ∀ {a b : κ}, key a = key b → a = b
  to : ∀ {wd G v a}, rep wd G v a → v = kV (key a)
  any : ∀ {wd G wd' G' v} {a : κ}, rep wd G v a → rep wd' G' v a
omit [TabT] in
instance : KeyT Int := ⟨.inl, fun h => Sum.inl.inj h, fun h => h, fun h => h⟩
omit [TabT] in
instance : KeyT Str := ⟨.inr, fun h => Sum.inr.inj h, fun h => h.1, fun h => h⟩
structure Dct (κ α : Type) where
  es : List (κ × α)
/-- a dict that is only looked at -/
structure DV (κ α : Type) where
  d : Dct κ α
section
variable {κ α : Type} [Rep κ] [KeyT κ] [Rep α] {wd : Wd} {G G' : Hp}
omit [TabT] in
def rkv (wd : Wd) (G : Hp) : List (Key × V) → List (κ × α) → Prop
  | [], [] => True
  | p :: ps, e :: es => (p.1 = KeyT.key e.1 ∧ rep wd G (kV p.1) e.1 ∧ rep wd G p.2 e.2) ∧ rkv wd G ps es
  | _, _ => False
omit [TabT] in
theorem rkv.mono (s : Same G G') : ∀ {ps : List (Key × V)} {es : List (κ × α)}, rkv wd G ps es → rkv wd G' ps es
  | [], [], _ => trivial
  | _ :: _, _ :: _, ⟨⟨h1, h2, h3⟩, t⟩ => ⟨⟨h1, Rep.mono s h2, Rep.mono s h3⟩, rkv.mono s t⟩
  | [], _ :: _, h => h.elim
  | _ :: _, [], h => h.elim
omit [TabT] in
theorem rkv.len : ∀ {ps : List (Key × V)} {es : List (κ × α)}, rkv wd G ps es → ps.length = es.length
  | [], [], _ => rfl
  | _ :: _, _ :: _, ⟨_, t⟩ => congrArg (· + 1) (rkv.len t)
  | [], _ :: _, h => h.elim
  | _ :: _, [], h => h.elim
omit [TabT] in
theorem rkv.keys : ∀ {ps : List (Key × V)} {es : List (κ × α)}, rkv wd G ps es → ps.map (·.1) = es.map fun e => KeyT.key e.1
  | [], [], _ => rfl
  | _ :: _, _ :: _, ⟨⟨h1, _⟩, t⟩ => by rw [List.map_cons, List.map_cons, h1, rkv.keys t]
  | [], _ :: _, h => h.elim
  | _ :: _, [], h => h.elim
omit [TabT] in
theorem rkv.keyv : ∀ {ps : List (Key × V)} {es : List (κ × α)}, rkv wd G ps es → reps wd G (ps.map fun p => kV p.1) (es.map (·.1))
  | [], [], _ => trivial
  | _ :: _, _ :: _, ⟨⟨_, h2, _⟩, t⟩ => ⟨h2, rkv.keyv t⟩
  | [], _ :: _, h => h.elim
  | _ :: _, [], h => h.elim
end
namespace Dct
variable {κ α : Type} [DecidableEq κ]
omit [TabT] in
def get? (d : Dct κ α) (k : κ) : Option α := (d.es.find? fun e => decide (e.1 = k)).map (·.2)
omit [TabT] in
def put (d : Dct κ α) (k : κ) (a : α) : Dct κ α := ⟨if (d.es.any fun e => decide (e.1 = k)) = true then d.es.map (fun e => if e.1 = k then (e.1, a) else e) else d.es ++ [(k, a)]⟩
end Dct
section
variable {κ α : Type} [DecidableEq κ] [Rep κ] [KeyT κ] [Rep α] {wd : Wd} {G : Hp}
omit [TabT] in
theorem key_iff {a b : κ} : KeyT.key a = KeyT.key b ↔ a = b := ⟨KeyT.inj, fun h => by rw [h]⟩
omit [TabT] in
theorem rkv.get : ∀ {ps : List (Key × V)} {es : List (κ × α)} (k : κ), rkv wd G ps es → match (Dct.mk es).get? k with | none => valV ps (KeyT.key k) = none | some a => ∃ v, valV ps (KeyT.key k) = some v ∧ rep wd G v a
  | [], [], _, _ => rfl
  | p :: ps, e :: es, k, ⟨⟨h1, h2, h3⟩, t⟩ => by
    unfold Dct.get?
    dsimp only
    rw [List.find?_cons]
    by_cases c : e.1 = k
    · rw [decide_eq_true c]
      exact ⟨p.2, valV_pos (by rw [h1, c]), h3⟩
    · rw [decide_eq_false c]
      have := rkv.get k t
      unfold Dct.get? at this
      dsimp only at this ⊢
      rw [valV_neg (fun z => c (KeyT.inj (h1.symm.trans z)))]
      exact this
  | [], _ :: _, _, h => h.elim
  | _ :: _, [], _, h => h.elim
omit [TabT] in
theorem rkv.anyk : ∀ {ps : List (Key × V)} {es : List (κ × α)} (k : κ), rkv wd G ps es → (ps.any fun p => decide (p.1 = KeyT.key k)) = es.any fun e => decide (e.1 = k)
  | [], [], _, _ => rfl
  | p :: ps, e :: es, k, ⟨⟨h1, h2, h3⟩, t⟩ => by
    rw [List.any_cons, List.any_cons, rkv.anyk k t, h1]
    congr 1
    rw [decide_eq_decide]
    exact key_iff
  | [], _ :: _, _, h => h.elim
  | _ :: _, [], _, h => h.elim
omit [TabT] in
theorem rkv.repl {k : κ} {v : V} {a : α} (hv : rep wd G v a) : ∀ {ps : List (Key × V)} {es : List (κ × α)}, rkv wd G ps es → rkv wd G (ps.map fun p => if p.1 = KeyT.key k then (p.1, v) else p) (es.map fun e => if e.1 = k then (e.1, a) else e)
  | [], [], _ => trivial
  | p :: ps, e :: es, ⟨⟨h1, h2, h3⟩, t⟩ => by
    refine ⟨?_, rkv.repl hv t⟩
    dsimp only
    by_cases c : e.1 = k
    · rw [if_pos c, if_pos (by rw [h1, c])]
      exact ⟨h1, h2, hv⟩
    · rw [if_neg c, if_neg fun z => c (KeyT.inj (h1.symm.trans z))]
      exact ⟨h1, h2, h3⟩
  | [], _ :: _, h => h.elim
  | _ :: _, [], h => h.elim
omit [TabT] in
theorem rkv.snoc {k : κ} {v : V} {a : α} (hk : rep wd G (kV (KeyT.key k)) k) (hv : rep wd G v a) : ∀ {ps : List (Key × V)} {es : List (κ × α)}, rkv wd G ps es → rkv wd G (ps ++ [(KeyT.key k, v)]) (es ++ [(k, a)])
  | [], [], _ => ⟨⟨rfl, hk, hv⟩, trivial⟩
  | _ :: _, _ :: _, ⟨h, t⟩ => ⟨h, rkv.snoc hk hv t⟩
  | [], _ :: _, h => h.elim
  | _ :: _, [], h => h.elim
omit [TabT] in
theorem rkv.put {ps : List (Key × V)} {es : List (κ × α)} {k : κ} {v : V} {a : α} (h : rkv wd G ps es) (hk : rep wd G (kV (KeyT.key k)) k) (hv : rep wd G v a) : rkv wd G (putK ps (KeyT.key k) v) ((Dct.mk es).put k a).es := by
  unfold putK Dct.put
  dsimp only
  rw [h.anyk k]
  by_cases c : (es.any fun e => decide (e.1 = k)) = true
  · rw [if_pos c, if_pos c]; exact h.repl hv
  · rw [if_neg c, if_neg c]; exact h.snoc hk hv
end
omit [TabT] in
instance {κ α : Type} [Rep κ] [KeyT κ] [Rep α] : Own (Dct κ α) where
  own := fun wd G o d => ∃ ps, o = .dK ps ∧ ps.length ≤ sizeLine ∧ rkv wd G ps d.es
  pl := fun ⟨_, e, _⟩ => by subst e; exact ⟨(fun _ z => nomatch z), (fun _ z => nomatch z)⟩
  mono := fun s ⟨ps, e, l, h⟩ => ⟨ps, e, l, h.mono s⟩
omit [TabT] in
instance {κ α : Type} [Rep κ] [KeyT κ] [Rep α] : Own (DV κ α) where
  own := fun wd G o d => ∃ ps, (o = .dK ps ∨ ∃ ob, o = .frz ob (.dK ps)) ∧ ps.length ≤ sizeLine ∧ rkv wd G ps d.d.es
  pl := fun ⟨_, e, _⟩ => by
    rcases e with e | ⟨_, e⟩ <;> subst e <;> exact ⟨(fun _ z => nomatch z), (fun _ z => nomatch z)⟩
  mono := fun s ⟨ps, e, l, h⟩ => ⟨ps, e, l, h.mono s⟩
omit [TabT] in
instance {κ α : Type} [Rep κ] [KeyT κ] [Rep α] : LkO (DV κ α) := ⟨fun ⟨ps, e, l, h⟩ z => by
  rcases e with e | ⟨_, e⟩ <;> rw [e] at z <;> cases z
  exact ⟨_, .inr ⟨_, rfl⟩, l, h⟩⟩
section
variable {X : Cx} {F : Fx} {c : Ctx} {κ α β : Type} [Rep κ] [KeyT κ] [Rep α] {e o i f : Expr} {pos p apos cpos : Pos}
/-- an owned dict, looked at -/
theorem e_dv {m : Ctx.T c → Rs (Dct κ α)} (h : PE X e (tX F kB c m)) : PE X e (tX F (kB (β := DV κ α)) c fun γ => (m γ).bind fun d => .ok (DV.mk d)) :=
  pe_mono h fun σ H Q ⟨H0, G0, G, os, γ, st, p⟩ => ⟨H0, G0, G, os, γ, st, by
    cases e : m γ with
    | no => dsimp only at p; rw [e] at p; exact p
    | ex x => dsimp only at p; rw [e] at p; exact p
    | ok b =>
      dsimp only at p; rw [e] at p
      exact fun H' G' v f ⟨q, o, e1, e2, ps, e3, e4, e5⟩ => p H' G' v f ⟨q, o, e1, e2, ps, .inl e3, e4, e5⟩⟩
theorem e_dnew : PE X (.Dict [] [] pos) (tX F kO c fun _ => .ok (⟨[]⟩ : Dct κ α)) :=
  pe_mono pe_dnewK fun σ H Q ⟨H0, G0, G, os, γ, st, p⟩ => fun d nd => p _ _ _ (Fr.alloc st.f.gh nd) ⟨d, _, rfl, nd, st.f.gh.free nd, upd_same, [], rfl, Nat.zero_le _, trivial⟩
omit [TabT] in
theorem rd_dv {H : Hp} {q : Addr} {o : HO} {ps : List (Key × V)} (h : H q = some o) (e : o = .dK ps ∨ ∃ ob, o = .frz ob (.dK ps)) : Rd H q (.dK ps) := by
  rcases e with e | ⟨ob, e⟩
  · subst e; exact .inl h
  · subst e; exact .inr ⟨ob, h⟩
omit [TabT] in
theorem rd_up {H H' : Hp} {q : Addr} {u : HO} (r : Rd H q u) (s : Same H H') (n : ∀ ps, u ≠ .tbl ps := by intro _ z; cases z) : Rd H' q u := by
  rcases r with r | ⟨ob, r⟩
  · exact .inl (s.v r n)
  · exact .inr ⟨ob, s.v r⟩
variable [DecidableEq κ]
omit [TabT] in
def dgetR (d : Dct κ α) (k : κ) : Rs α := match d.get? k with | some a => .ok a | none => .no
/-- d[k], there -/
theorem e_dget {m : Ctx.T c → Rs (DV κ α)} {mk : Ctx.T c → Rs κ} (hu : X.A.units + 1 < cLine) (h : PE X o (tX F kB c m)) (hk : PE X i (tX F kF c mk)) (hs : NoSl i := by exact fun _ _ => rfl) :
    PE X (.Subscript o i pos) (tX F kF c fun γ => (m γ).bind fun d => (mk γ).bind fun k => dgetR d.d k) :=
  pe_mono (pe_dget hu h hk hs) fun σ H Q ⟨H0, G0, G, os, γ, st, p⟩ => ⟨H0, G0, G, os, γ, st, p.step kB fun x H1 G1 d f1 ⟨q, ob, e1, e2, ps, e3, e4, e5⟩ p1 => ⟨H0, G0, G1, os, γ, st.ext f1, p1.step kF fun y H2 G2 k f2 r2 p2 => by
    have g := (e5.mono f2.g).get k
    unfold dgetR at p2
    change Post F.W kF σ H2 G2 Q (match d.d.get? k with | some a => .ok a | none => .no) at p2
    cases eg : d.d.get? k with
    | none => rw [eg] at p2; exact p2.elim
    | some a =>
      rw [eg] at p2 g
      obtain ⟨v, hv, rv⟩ := g
      exact ⟨q, v, e1, .inl ⟨ps, KeyT.key k, rd_up (rd_dv e2 e3) f2.h, KeyT.to r2, hv.symm⟩, p2 _ _ _ (Fr.refl f2.gh) rv⟩⟩⟩
/-- d.get(k, z) -/
theorem e_dget2 {m : Ctx.T c → Rs (DV κ α)} {mk : Ctx.T c → Rs κ} {mz : Ctx.T c → Rs α} (hu : X.A.units + 1 < cLine) (h : PE X o (tX F kB c m)) (hk : PE X e (tX F kF c mk)) (hz : PE X f (tX F kF c mz)) (mm : M2 X o "get" apos e f cpos := by exact ⟨by rfl, by rfl, by rfl, by rfl⟩) :
    PE X (.Call (.Attribute o "get" apos) [e, f] [] cpos) (tX F kF c fun γ => (m γ).bind fun d => (mk γ).bind fun k => (mz γ).bind fun z => .ok ((d.d.get? k).getD z)) :=
  pe_mono (pe_dget2 hu h hk hz mm) fun σ H Q ⟨H0, G0, G, os, γ, st, p⟩ => ⟨H0, G0, G, os, γ, st, p.step kB fun x H1 G1 d f1 ⟨q, ob, e1, e2, ps, e3, e4, e5⟩ p1 => ⟨q, e1, .inl ⟨ps, rd_dv e2 e3⟩, H0, G0, G1, os, γ, st.ext f1, p1.step kF fun y H2 G2 k f2 r2 p2 =>
    ⟨H0, G0, G2, os, γ, (st.ext f1).ext f2, p2.step kF fun w H3 G3 z f3 r3 p3 => by
    have g := (e5.mono (f2.g.trans f3.g)).get k
    refine ⟨valV ps (KeyT.key k), .inl ⟨ps, KeyT.key k, rd_up (rd_dv e2 e3) (f2.h.trans f3.h), KeyT.to r2, rfl⟩, ?_⟩
    change Post F.W kF σ H3 G3 Q (.ok ((d.d.get? k).getD z)) at p3
    cases eg : d.d.get? k with
    | none =>
      rw [eg] at p3 g
      dsimp only at g
      rw [g]
      exact p3 _ _ _ (Fr.refl f3.gh) r3
    | some a =>
      rw [eg] at p3 g
      obtain ⟨v, hv, rv⟩ := g
      rw [hv]
      exact p3 _ _ _ (Fr.refl f3.gh) rv⟩⟩⟩
omit [TabT] in
theorem get_any {d : Dct κ α} {k : κ} {wd : Wd} {G : Hp} {ps : List (Key × V)} (h : rkv wd G ps d.es) : (valV ps (KeyT.key k)).isSome = (d.get? k).isSome := by
  have g := h.get k
  change match d.get? k with | none => valV ps (KeyT.key k) = none | some a => ∃ v, valV ps (KeyT.key k) = some v ∧ rep wd G v a at g
  cases eg : d.get? k with
  | none =>
    rw [eg] at g
    dsimp only at g
    rw [g]; rfl
  | some a =>
    rw [eg] at g
    obtain ⟨v, hv, _⟩ := g
    rw [hv]; rfl
theorem tX_din {m : Ctx.T c → Rs (DV κ α)} {mk : Ctx.T c → Rs κ} {σ : L2.St} {H : Hp} {Q : VK} (h : tX F kF c (fun γ => (mk γ).bind fun k => (m γ).bind fun d => .ok (d.d.get? k).isSome) σ H Q) : tDIn (tX F kF c mk) (tX F kB c m) σ H Q := by
  obtain ⟨H0, G0, G, os, γ, st, p⟩ := h
  exact ⟨H0, G0, G, os, γ, st, p.step kF fun y H1 G1 k f1 r1 p1 => ⟨H0, G0, G1, os, γ, st.ext f1, p1.step kB fun x H2 G2 d f2 ⟨q, ob, e1, e2, ps, e3, e4, e5⟩ p2 =>
    ⟨q, _, e1, .inl ⟨ps, KeyT.key k, rd_dv e2 e3, KeyT.to r1, rfl⟩, by rw [get_any e5]; exact p2 _ _ _ (Fr.refl f2.gh) rfl⟩⟩⟩
theorem tX_dnotin {m : Ctx.T c → Rs (DV κ α)} {mk : Ctx.T c → Rs κ} {σ : L2.St} {H : Hp} {Q : VK} (h : tX F kF c (fun γ => (mk γ).bind fun k => (m γ).bind fun d => .ok (!(d.d.get? k).isSome)) σ H Q) : tDNotIn (tX F kF c mk) (tX F kB c m) σ H Q := by
  obtain ⟨H0, G0, G, os, γ, st, p⟩ := h
  exact ⟨H0, G0, G, os, γ, st, p.step kF fun y H1 G1 k f1 r1 p1 => ⟨H0, G0, G1, os, γ, st.ext f1, p1.step kB fun x H2 G2 d f2 ⟨q, ob, e1, e2, ps, e3, e4, e5⟩ p2 =>
    ⟨q, _, e1, .inl ⟨ps, KeyT.key k, rd_dv e2 e3, KeyT.to r1, rfl⟩, by rw [get_any e5]; exact p2 _ _ _ (Fr.refl f2.gh) rfl⟩⟩⟩
omit [TabT] in
omit [TabT] in
/-- d[k] = a -/
def dputR {κ α : Type} [DecidableEq κ] (d : Dct κ α) (k : κ) (a : α) : Rs (Dct κ α) := if d.es.length < 16777216 then .ok (d.put k a) else .no
theorem s_dput {j : Nat} {m : Ctx.T c → Rs α} {mi : Ctx.T c → Rs κ} {x : Str} {p1 p2 : Pos} (hu : X.A.units + 1 < cLine) (v : Var c (.ow j (Dct κ α))) (h : PE X e (tX F kF c m)) (hi : PE X i (tX F kF c mi)) (hN : X.N[j]? = some x := by rfl) (hv : Vis X.env.scope x := by first | exact Or.inl rfl | exact Or.inr (Or.inl rfl) | exact Or.inr (Or.inr rfl))
    (hd : (x == ("__debug__" : Str)) = false := by decide) (hcd : (x == ("__classdict__" : Str)) = false := by decide)
    (hs : swapsWith e (some (.Subscript (.Name x p1) i p2)) pos.line X.env = pure false := by rfl) :
    PS X (.Assign [.Subscript (.Name x p1) i p2] e pos) (tS F c c fun γ => (m γ).bind fun a => (mi γ).bind fun k => (dputR (v.get γ) k a).bind fun ys => .ok (v.put γ ys)) :=
  ps_mono (ps_dput hu (pe_var hN hv hd hcd) hi h hs) fun D σ H ⟨H0, G0, G, os, γ, st, p⟩ => ⟨H0, G0, G, os, γ, st, p.step st kF fun va H1 G1 a f1 r1 p1 => by
    have st1 := st.ext f1
    obtain ⟨q, o, e1, e2, e3, e4⟩ := st1.write v
    refine ⟨.ref q, e1, H0, G0, G1, os, γ, st1, p1.step st1 kF fun vk H2 G2 k f2 r2 p2 => ?_⟩
    have st2 := st1.ext f2
    obtain ⟨q2, o2, d1, d2, ⟨ps, d3, d5, d6⟩, d4⟩ := st2.write v
    subst d3
    have eq : q2 = q := by rw [e1] at d1; injection d1 with d1; injection d1 with d1; injection d1 with d1; exact d1.symm
    subst eq
    have p3 : PostN F H0 G0 c D ((dputR (v.get γ) k a).bind fun ys => .ok (v.put γ ys)) := p2
    unfold dputR at p3
    by_cases hl : (v.get γ).es.length < 16777216
    · rw [if_pos hl] at p3
      have hps : ps.length < sizeLine := by rw [d6.len, sizeLine_eq]; exact hl
      have hk : vk = kV (KeyT.key k) := KeyT.to r2
      refine ⟨q2, _, rfl, .inl ⟨ps, KeyT.key k, d2, hk, hps, rfl⟩, p3 _ _ _ _ (d4 _ _ ⟨_, rfl, ?_, d6.put (by rw [← hk]; exact r2) (Rep.mono f2.g r1)⟩)⟩
      have := length_putK ps (KeyT.key k) va
      omega
    · rw [if_neg hl] at p3
      exact p3.elim⟩
end
section
variable {wd : Wd} {κ α : Type} [Rep κ] [KeyT κ] [Rep α]
omit [TabT] in
def rLenDV : List V → Hp → VK → Prop := fun xs H Q => ∃ a kvs, xs = [V.ref a] ∧ Rd H a (.dK kvs) ∧ Q (.int kvs.length) H
omit [TabT] in
theorem call_lenDV {X : Cx} : CallR X (.builtin "len") rLenDV := by
  intro pins s σ H xs us Q I r h
  obtain ⟨a, kvs, rfl, ha, q⟩ := h
  obtain ⟨u, rfl, ru⟩ := vals1 r
  cases ru
  exact d_len I ha fun t s' I' => ⟨.int kvs.length, H, I', ⟨t, rfl⟩, q⟩
theorem m_lenDV : Sem1 (wd := wd) kB kF (fun x => rLenDV [x]) (fun (d : DV κ α) => .ok (d.d.es.length : Int)) := by
  intro W σ B H G x d Q gh ⟨q, o, e1, e2, ps, e3, e4, e5⟩ p
  subst e1
  refine ⟨q, ps, rfl, rd_dv e2 e3, ?_⟩
  rw [e5.len]
  exact p _ _ _ (Fr.refl gh) rfl
theorem m_listDV : Sem1 (wd := wd) kB kO (fun x => (fun xs H Q => ∃ (a : Addr) (kvs : List (Key × V)), xs = [.ref a] ∧ Rd H a (.dK kvs) ∧ ∀ p, H p = none → Q (.ref p) (upd H p (.lst (kvs.map fun kv => kV kv.1))) : List V → Hp → VK → Prop) [x]) (fun (d : DV κ α) => .ok (d.d.es.map (·.1))) := by
  intro W σ B H G x d Q gh ⟨q, o, e1, e2, ps, e3, e4, e5⟩ p
  subst e1
  exact ⟨q, ps, rfl, rd_dv e2 e3, fun a nd => p _ _ _ (Fr.alloc gh nd) ⟨a, _, rfl, nd, gh.free nd, upd_same, _, rfl, by rw [List.length_map]; exact e4, e5.keyv⟩⟩
theorem m_dictDV : Sem1 (wd := wd) kB kO (fun x => (fun xs H Q => ∃ (a : Addr) (kvs : List (Key × V)), xs = [.ref a] ∧ Rd H a (.dK kvs) ∧ ∀ p, H p = none → Q (.ref p) (upd H p (.dK kvs)) : List V → Hp → VK → Prop) [x]) (fun (d : DV κ α) => .ok d.d) := by
  intro W σ B H G x d Q gh ⟨q, o, e1, e2, ps, e3, e4, e5⟩ p
  subst e1
  exact ⟨q, ps, rfl, rd_dv e2 e3, fun a nd => p _ _ _ (Fr.alloc gh nd) ⟨a, _, rfl, nd, gh.free nd, upd_same, ps, rfl, e4, e5⟩⟩
omit [TabT] in
theorem keysS {G : Hp} : ∀ {ps : List (Key × V)} {es : List (Str × α)}, rkv wd G ps es → ps.map (·.1) = (es.map (·.1)).map Sum.inr
  | [], [], _ => rfl
  | _ :: _, _ :: _, ⟨⟨h1, _⟩, t⟩ => by rw [List.map_cons, List.map_cons, List.map_cons, h1, keysS t]; rfl
  | [], _ :: _, h => h.elim
  | _ :: _, [], h => h.elim
omit [TabT] in
theorem keysI {G : Hp} : ∀ {ps : List (Key × V)} {es : List (Int × α)}, rkv wd G ps es → ps.map (·.1) = (es.map (·.1)).map Sum.inl
  | [], [], _ => rfl
  | _ :: _, _ :: _, ⟨⟨h1, _⟩, t⟩ => by rw [List.map_cons, List.map_cons, List.map_cons, h1, keysI t]; rfl
  | [], _ :: _, h => h.elim
  | _ :: _, [], h => h.elim
omit [TabT] in
theorem keys_sok {G : Hp} : ∀ {ps : List (Key × V)} {es : List (Str × α)}, rkv wd G ps es → ∀ k ∈ es.map (·.1), SOk k
  | [], [], _, _, h => by cases h
  | _ :: _, _ :: _, ⟨⟨_, h2, _⟩, t⟩, k, m => by
    rcases List.mem_cons.mp m with e | e
    · rw [e]; exact h2.2
    · exact keys_sok t k e
  | [], _ :: _, h, _, _ => h.elim
  | _ :: _, [], h, _, _ => h.elim
theorem m_sortedDS : Sem1 (wd := wd) kB kO (fun x => (fun xs H Q => ∃ (a : Addr) (kvs : List (Key × V)) (ks : List Str), xs = [.ref a] ∧ Rd H a (.dK kvs) ∧ kvs.map (·.1) = ks.map Sum.inr ∧ ks.length < 64 ∧
    ∀ ys p, ys.Perm ks → sortedS ys = true → H p = none → Q (.ref p) (upd H p (.lst (ys.map V.str))) : List V → Hp → VK → Prop) [x]) (fun (d : DV Str α) => sortS (d.d.es.map (·.1))) := by
  intro W σ B H G x d Q gh ⟨q, o, e1, e2, ps, e3, e4, e5⟩ p
  subst e1
  unfold sortS at p
  dsimp only at p
  by_cases hl : (d.d.es.map (·.1)).length < 64
  · rw [if_pos hl] at p
    refine ⟨q, ps, _, rfl, rd_dv e2 e3, keysS e5, hl, fun ys a hp hu nd => ?_⟩
    have e := sortStr_is hp (sortedS_up hu)
    subst e
    exact p _ _ _ (Fr.alloc gh nd) ⟨a, _, rfl, nd, gh.free nd, upd_same, _, rfl, by rw [List.length_map, sortStr_len, sizeLine_eq]; omega, reps.of_strs fun z hz => keys_sok e5 z ((sortStr_perm _).mem_iff.mp hz)⟩
  · rw [if_neg hl] at p
    exact p.elim
omit [TabT] in
def sortID (xs : List Int) : Rs (List Int) := if xs.length < 64 then .ok (sortI xs) else .no
theorem m_sortedDI : Sem1 (wd := wd) kB kO (fun x => (fun xs H Q => ∃ (a : Addr) (kvs : List (Key × V)) (ks : List Int), xs = [.ref a] ∧ Rd H a (.dK kvs) ∧ kvs.map (·.1) = ks.map Sum.inl ∧ ks.length < 64 ∧
    ∀ (ys : List Int) (p : Addr), ys.Perm ks → ys.Pairwise (· ≤ ·) → H p = none → Q (.ref p) (upd H p (.lst (ys.map V.int))) : List V → Hp → VK → Prop) [x]) (fun (d : DV Int α) => sortID (d.d.es.map (·.1))) := by
  intro W σ B H G x d Q gh ⟨q, o, e1, e2, ps, e3, e4, e5⟩ p
  subst e1
  unfold sortID at p
  dsimp only at p
  by_cases hl : (d.d.es.map (·.1)).length < 64
  · rw [if_pos hl] at p
    refine ⟨q, ps, _, rfl, rd_dv e2 e3, keysI e5, hl, fun ys a hp hu nd => ?_⟩
    have e := sortI_is hp hu
    subst e
    exact p _ _ _ (Fr.alloc gh nd) ⟨a, _, rfl, nd, gh.free nd, upd_same, _, rfl, by rw [List.length_map, sortI_len, sizeLine_eq]; omega, reps.of_ints⟩
  · rw [if_neg hl] at p
    exact p.elim
theorem ty_dict {K : PySem.W.Frag} {B H G : Hp} {v : V} {d : DV κ α} (_ : SameL G H) (h : (kB (wd := wd)).rel B H G v d) : TyX K H v (.type "dict") := by
  obtain ⟨q, o, e1, e2, ps, e3, e4, e5⟩ := h
  subst e1
  rcases e3 with e | ⟨ob, e⟩
  · subst e; exact .base (.dK e2)
  · subst e; exact .fDict e2
/-! ### + of an own class -/
variable {X : Cx} {n : Nat} {f C : Addr} {fd : FuncData} {ps : List Str} {sp : Sp}
omit [TabT] in
def rAddW (C : Addr) (sp : Sp) : R2 := fun x y H Q => ∃ a b dx dy fs gs, x = .ref a ∧ y = .ref b ∧ H a = some (.ins C dx fs) ∧ H b = some (.ins C dy gs) ∧ sp [.ref a, .ref b] H (fun v H' => (∃ p, v = .ref p) ∧ Q v H') fun _ _ _ => False
omit [TabT] in
theorem op_addW (Fn : FnOk X.prog X.w X.K X.mg X.base (L2N.CX X.prog X.w) n f fd ps sp) (hs : PySem.W.findIn X.K (.ref C) "__add__" = some (some (.ref f))) (hf : PySem.W.isFn X.K (.ref f) = true) (hc : PySem.W.selfFirst X.K C = true) (room : Room n X.A) (hb : Binds X.K fd ps []) : OpR X (binaryOp .Add) (rAddW C sp) := by
  intro pins s σ H x y v u Q I rx ry hq
  obtain ⟨a, b, dx, dy, fs, gs, rfl, rfl, ha, hb', hsp⟩ := hq
  cases rx; cases ry
  obtain ⟨mA, J, _⟩ := ins_get I.hok ha
  obtain ⟨mB, J', _⟩ := ins_get I.hok hb'
  obtain ⟨od, J, _⟩ := J.look
  obtain ⟨od', J', _⟩ := J'.look
  obtain ⟨m, hF⟩ := I.fr
  show wpAny (model X.prog X.w) X.A (binaryOp .Add (.ref a) (.ref b)) (EP X pins σ Q) X.xe s
  refine PySem.W.binop_K (op := .Add) hF I.ok.mod.kin J J'.type hc hs hf ?_
  refine wpAny_mono (run_fnSD (us := [.ref a, .ref b]) (vs := [.ref a, .ref b]) (dvs := []) (ds := []) (E := fun _ _ _ _ => False) Fn room hb .nil (fun pins H s e s' I z => by
    obtain ⟨_, _, _, _, _, _, _, _, _, _, _, _, z⟩ := z
    exact z.elim) I (.cons rfl (.cons rfl .nil)) hsp) (fun r s' z => ?_) fun _ _ x => x
  obtain ⟨v, H', I', rv, ⟨p, ev⟩, q⟩ := z
  subst ev
  cases rv
  exact ⟨.ref p, H', I', rfl, q⟩
theorem m_addW {β : Type} [Own β] {Cn : String} {fl : List Str} {mf : Ctx.T [.bo 0 β, .bo 1 β] → Rs β} (Ii : IsIns Cn β fl) (hC : wd.cm Cn = C) : Sem2T (wd := wd) kB kB kO (rAddW C (spF wd (kO (β := β)) [.bo 0 β, .bo 1 β] mf)) fun a b => (mf (a, b, ())).nox := by
  intro W σ B1 B2 H G x y a b Q tb gh hx hy p
  obtain ⟨q, o, e1, e2, e3⟩ := hx
  obtain ⟨q', o', d1, d2, d3⟩ := hy
  obtain ⟨dx, fs, e4, e5⟩ := Ii.ins e3
  obtain ⟨dy, gs, d4, d5⟩ := Ii.ins d3
  subst hC
  refine ⟨q, q', dx, dy, fs, gs, e1, d1, by rw [e2, e4], by rw [d2, d4], rfl, G, (a, b, ()), gh, tb, ⟨q, o, _, rfl, rfl, e2, e3, q', o', _, rfl, rfl, d2, d3, rfl⟩, ?_⟩
  dsimp only at p
  cases em : mf (a, b, ()) with
  | no => rw [em] at p; exact p
  | ex z => rw [em] at p; exact p.elim
  | ok r =>
    rw [em] at p
    exact fun H' G' v f r => ⟨let ⟨p, o, e, _⟩ := r; ⟨p, e⟩, p H' G' v f r⟩
end
omit [TabT] in
theorem room2 {k : Nat} {A : Around} (r : Room k A) : A.units + 1 < cLine := by have := r.un; omega
section
variable {X : Cx} {F : Fx} {c : Ctx} {κ α : Type} [Rep κ] [KeyT κ] [Rep α] [DecidableEq κ] {e o : Expr} {pos : Pos} {m : Ctx.T c → Rs (DV κ α)} {mk : Ctx.T c → Rs κ}
theorem e_din (hu : X.A.units + 1 < cLine) (hk : PE X e (tX F kF c mk)) (h : PE X o (tX F kB c m)) (h1 : behindInMarks .In o = false := by first | exact nomark _ | rfl) : PE X (.Compare e [.In] [o] pos) (tX F kF c fun γ => (mk γ).bind fun k => (m γ).bind fun d => .ok (d.d.get? k).isSome) :=
  pe_mono (pe_cmp (pc_din hu hk h) h1) fun σ H Q q => tX_din q
theorem e_dnotin (hu : X.A.units + 1 < cLine) (hk : PE X e (tX F kF c mk)) (h : PE X o (tX F kB c m)) (h1 : behindInMarks .NotIn o = false := by first | exact nomark _ | rfl) : PE X (.Compare e [.NotIn] [o] pos) (tX F kF c fun γ => (mk γ).bind fun k => (m γ).bind fun d => .ok (!(d.d.get? k).isSome)) :=
  pe_mono (pe_cmp (pc_dnotin hu hk h) h1) fun σ H Q q => tX_dnotin q
theorem q_din (hu : X.A.units + 1 < cLine) (hk : PE X e (tX F kF c mk)) (h : PE X o (tX F kB c m)) (h1 : behindInMarks .In o = false := by first | exact nomark _ | rfl) : PT X (.Compare e [.In] [o] pos) (tQ F c fun γ => (mk γ).bind fun k => (m γ).bind fun d => .ok (d.d.get? k).isSome) :=
  pt_mono (pt_cmp (pc_din hu hk h) h1) fun σ H Q q => tX_din q
theorem q_dnotin (hu : X.A.units + 1 < cLine) (hk : PE X e (tX F kF c mk)) (h : PE X o (tX F kB c m)) (h1 : behindInMarks .NotIn o = false := by first | exact nomark _ | rfl) : PT X (.Compare e [.NotIn] [o] pos) (tQ F c fun γ => (mk γ).bind fun k => (m γ).bind fun d => .ok (!(d.d.get? k).isSome)) :=
  pt_mono (pt_cmp (pc_dnotin hu hk h) h1) fun σ H Q q => tX_dnotin q
end
end Wm
set_option Elab.async false
set_option linter.all false
set_option maxRecDepth 100000
set_option maxHeartbeats 4000000
namespace Wm
open PySem PySem.Spec PyProof.Rows L2
open Rep (rep)
open Own (own)
variable [TabT]
/-! ### enumerate of a tuple -/
omit [TabT] in
abbrev itO (l : Addr) : Obj := { cls := .type "tuple_iterator", data := .fields #[.ref l, .int 0 0] }
omit [TabT] in
abbrev enO (n : Addr) : Obj := { cls := .type "enumerate", data := .fields #[.none, .bool false, .ref n, rawInt 0, .none, .none] }
open AutoSeq1 (wpAny_loadPart') in
omit [TabT] in
theorem enT_new (l : Addr) (its : Array Value) (n : Nat) (dct : Option Addr) (sl : Array (Option Value)) :
    Meets (Builtin.«enumerate.__new__» ⟨[.type "enumerate", .ref l], []⟩) (fun _ R s =>
      s.heap.get? l = some ⟨.type "tuple", dct, .seq its n, sl⟩ ∧ R (.ok (.ret (.ref (s.heap.push (itO l)).objs.size))) { s with heap := (s.heap.push (itO l)).push (enO s.heap.objs.size) }) :=
  .of_wp fun prog w A R s ⟨q, h⟩ => by
    obtain ⟨hp, g, d, tk, os⟩ := s
    have z := sub_enumerate
    have hT : Heap.IsTuple (Shared.heap ⟨hp, g, d, tk, os⟩) l its := ⟨_, q, rfl, n, rfl⟩
    wp_walk using wpAny_loadPart' q
    refine wpAny_stack_any fun _ => wpAny_pure ?_
    split
    · rename_i k _ _ _ _ _
      cases (k == Value.type "enumerate") <;> (wp_walk using wpAny_loadPart' q, wpAny_pyIter_tuple hT; exact ⟨_, rfl, h⟩)
    · wp_walk using wpAny_loadPart' q, wpAny_pyIter_tuple hT
      exact ⟨_, rfl, h⟩
section
variable {prog : Program} {w : World} {A : Around} {E : Value → Shared → Prop} {s : Shared}
omit [TabT] in
theorem call_enT {l : Addr} {its : Array Value} {Q : Value → Shared → Prop} (hT : s.heap.IsTuple l its)
    (h : ∀ h', IsEnum h' (s.heap.objs.size + 1) s.heap.objs.size 0 .none → h'.IsTupleIter s.heap.objs.size l 0 → (∀ b o, s.heap.get? b = some o → h'.get? b = some o) → Q (.ref (s.heap.objs.size + 1)) { s with heap := h' }) :
    wpAny (model prog w) A (call (.type "enumerate") [.ref l]) Q E s := by
  obtain ⟨⟨c, dct, dt, sl⟩, q, hc, n, hd⟩ := hT
  obtain rfl : c = .type "tuple" := hc
  obtain rfl : dt = .seq its n := hd
  refine callType_new F.called_enumerate (by decide) (F.typeCall_enumerate_1 _) (F.newCall_enumerate_1 _) (fun ob => F.args_object_init_2 ob _) F.entry_enumerate_new (enT_new l its n dct sl) ⟨q, ?_⟩
  have z : (s.heap.push (itO l)).objs.size = s.heap.objs.size + 1 := Heap.size_push ..
  have g1 : ((s.heap.push (itO l)).push (enO s.heap.objs.size)).get? (s.heap.objs.size + 1) = some (enO s.heap.objs.size) := by
    have := Heap.get?_push_size (s.heap.push (itO l)) (o := enO s.heap.objs.size) rfl
    rwa [z] at this
  show _ ∧ _
  rw [z]
  exact ⟨⟨_, g1, rfl⟩, h _ g1 ⟨_, Heap.get?_push_of_some _ (Heap.get?_push_size _ rfl), rfl, rfl⟩ fun b o e => Heap.get?_push_of_some _ (Heap.get?_push_of_some _ e)⟩
end
section
variable {prog : Program} {w : World} {A : Around} {E : Value → Shared → Prop} {s : Shared}
omit [TabT] in
theorem pyNext_enT_end {e it t : Addr} {i : Nat} {its : Array Value} {old : Value} {Q : Option Value → Shared → Prop} (hh : A.handled = none) (he : IsEnum s.heap e it i old) (hit : s.heap.IsTupleIter it t i) (hl : s.heap.IsTuple t its) (hx : its[i]? = none)
    (k : ∀ h', Heap.ExtBut it s.heap h' → Q none { s with heap := h' }) : wpAny (model prog w) A (pyNext (.ref e)) Q E s := by
  have ty : s.TypeIs (.ref e) "enumerate" := ⟨_, he, rfl⟩
  unfold pyNext
  refine wpAny_bind (wpAny_attempt (wpAny_callSpecial?_slot (name := Str.ofString "__next__") ty F.slot_enumerate_next (wpAny_call_entry F.slot_enumerate_next ty F.entry_enumerate_next ?_ (F.args_enumerate_next_1 _))))
  show wpAny _ _ (field (.ref e) 2 >>= _) _ _ _
  refine wpAny_bind (wpAny_field he rfl (x := .ref it) rfl (wpAny_bind (wpAny_nextOf_tuple_end hh hit hl hx fun h' x eb ⟨o, ho, hc⟩ => ?_)))
  exact wpAny_bind (wpAny_isInstance (T := "StopIteration") (b := true) ⟨o, ho, hc⟩ isSubtype_stop (wpAny_pure (k _ eb)))
end
omit [TabT] in
omit [TabT] in
/-- the tuple at a, each item in a new pair -/
def ItT (K : PySem.W.Frag) (a : Addr) : It :=
  ⟨fun i H => ∃ (xs : List V) (x : V), SqT K H a xs ∧ xs[i]? = some x, fun i H v H' => ∃ t x, v = .ref t ∧ H t = none ∧ H' = upd H t (.tup [.int (i : Nat), x]) ∧ ∀ xs, SqT K H a xs → xs[i]? = some x, fun i H => ∃ xs : List V, SqT K H a xs ∧ xs.length ≤ i⟩
omit [TabT] in
theorem turn_enT {P : Program} {w : World} {K : PySem.W.Frag} {elts : List Expr} {kk : Nat} {tpos : Pos} (a e it : Addr) (h1 : e ≠ it) (h2 : a ≠ it) (h3 : a ≠ e) :
    Turn P w K (.Tuple elts kk tpos) (ItT K a) [e, it] e (fun i h => (∃ old, IsEnum h e it ((i : Nat) : Int) old) ∧ h.IsTupleIter it a i) where
  mem := List.mem_cons_self
  obj := fun i h st b hb => by
    obtain ⟨⟨old, he⟩, o, ho, hc, hd⟩ := st
    rcases List.mem_cons.mp hb with z | z
    · subst z; exact ⟨_, he, fun v q => nomatch q⟩
    · rw [List.mem_singleton.mp z]; exact ⟨o, ho, fun v q => by rw [hd] at q; cases q⟩
  keep := fun i h h' ⟨⟨old, he⟩, hi⟩ k => ⟨⟨old, k e List.mem_cons_self _ he⟩, hi.at fun o q => k it (List.mem_cons_of_mem _ List.mem_cons_self) o q⟩
  item := by
    intro X hP hw hK hc i pins s σ H E I hf st hg
    subst hP; subst hw; subst hK
    obtain ⟨⟨old, he⟩, hit⟩ := st
    obtain ⟨xs, x, hq, hx⟩ := hg
    obtain ⟨its, rv, p, hz⟩ := I.tuple hq
    have hlt : i < its.toArray.size := by
      have := (List.getElem?_eq_some_iff.mp hx).1
      rw [rv.length] at this
      simpa using this
    have le := Heap.lt_size he
    have li : it < s.heap.objs.size := let ⟨_, q, _⟩ := hit; Heap.lt_size q
    refine wpAny_pyNext_enum_itemD (Draws.tuple (A := X.A.in1) (I.ok.hd hc) it a h2 its.toArray) he ⟨hit, p⟩ hlt h1 (by simp [h1, Ne.symm h3]) fun v h' tk hv ho hst hT hsz hk => ?_
    have hu : its[i]? = some v := by simpa using hv
    obtain ⟨u, hu2, ru⟩ := rv.get hx
    obtain rfl : u = v := Option.some.inj (hu2.symm.trans hu)
    refine ⟨_, rfl, wpAny_letOwnedTupleGo_enum (s := { s with heap := h', toks := tk + 1 }) ho fun h'' he' sb => ?_⟩
    have keepO : ∀ b, b ≠ e → b ≠ it → ∀ ob, s.heap.get? b = some ob → h''.get? b = some ob := fun b n1 n2 ob q => (sb.2 b n1).trans (hk b ob n1 n2 q)
    have hT2 : h''.get? s.heap.objs.size = some { cls := .type "tuple", data := .seq #[.int i tk, u] } := (sb.2 _ (Nat.ne_of_gt le)).trans hT
    have J : Inv X pins σ (upd H s.heap.objs.size (.tup [.int (i : Nat), x])) { s with heap := h'', toks := tk + 1 } :=
      I.turnedNew (ch := [e, it]) (fun b ob hb q => keepO b (fun z => hb (by simp [z])) (fun z => hb (by simp [z])) ob q) hf (Nat.le_refl _) ⟨by show 2 ≤ sizeLine; decide, [.int i tk, u], .cons ⟨_, rfl⟩ (.cons ru .nil), ⟨_, hT2, rfl, _, rfl⟩⟩
    refine ⟨.ref s.heap.objs.size, _, J, rfl, ⟨_, x, rfl, I.hok.fresh (Nat.le_refl _), rfl, fun ys hy => by rw [I.tuple_inj hy hq]; exact hx⟩, ⟨⟨u, by rw [show ((i + 1 : Nat) : Int) = (i : Int) + 1 by omega]; exact he'⟩, hst.1.at fun o q => (sb.2 it (Ne.symm h1)).trans q⟩, fun b hb => ?_⟩
    have hb' : b < s.heap.objs.size := by
      rcases List.mem_cons.mp hb with z | z
      · rw [z]; exact le
      · rw [List.mem_singleton.mp z]; exact li
    rw [upd_ne (Nat.ne_of_lt hb')]
    exact (hf b hb).1
  done := by
    intro X hP hw hK hc i pins s σ H E I hf st hg
    subst hP; subst hw; subst hK
    obtain ⟨⟨old, he⟩, hit⟩ := st
    obtain ⟨xs, hq, hx⟩ := hg
    obtain ⟨its, rv, p, hz⟩ := I.tuple hq
    have hl := rv.length
    obtain ⟨f0, f1, _, f3, f4, f5⟩ := hf it (List.mem_cons_of_mem _ List.mem_cons_self)
    exact pyNext_enT_end (I.ok.hd hc) he hit p (by simp; omega) fun h' eb => ⟨rfl, I.turned (t' := s.toks) (fun b o hb q => eb b o hb q) f0 f1 f3 f4 f5⟩
  self := fun A i s Q E ⟨⟨_, he⟩, _⟩ h => wpAny_pyIter_enum he h
omit [TabT] in
def iEnT (K : PySem.W.Frag) (ta : TA) : TI := fun σ H R => ta σ H fun vs H1 => ∃ a xs, vs = [.ref a] ∧ SqT K H1 a xs ∧ R (ItT K a) H1
omit [TabT] in
theorem pi_enT {X : Cx} {e : Expr} {ta : TA} {p pos tpos : Pos} {elts : List Expr} {kk : Nat} (hg : Gl X "enumerate") (hm : X.mg "enumerate" = none) (ha : PA X [e] ta) (hs : starEach [e] X.env = [(false, eval e X.env)] := by rfl) :
    PI X (.Tuple elts kk tpos) (.Call (.Name "enumerate" p) [e] [] pos) (iEnT X.K ta) := by
  refine ⟨fun pins s σ H R I h => ?_⟩
  refine Call_ (ld_blt I hg hm boot_enumerate (PyProof.Rows.callWith_type1 (thn (ha.run pos pins s σ H _ I h) fun us t ⟨vs, H1, J, r1, a, xs, ex, hq, q⟩ => ?_) hs rfl))
  subst ex
  cases r1 with
  | cons r rr =>
    cases rr; cases r
    obtain ⟨its, rv, tp, hz⟩ := J.tuple hq
    have la : a < t.heap.objs.size := let ⟨_, q, _⟩ := tp; Heap.lt_size q
    refine call_enT tp fun h' he hit hk => wpAny_pyIter_enum he ?_
    have J2 : Inv X pins σ H1 { t with heap := h' } := J.kept (t' := t.toks) hk
    refine ⟨t.heap.objs.size + 1, [t.heap.objs.size + 1, t.heap.objs.size], _, _, H1, rfl, J2, turn_enT a (t.heap.objs.size + 1) t.heap.objs.size (Nat.succ_ne_self _) (Nat.ne_of_lt la) (Nat.ne_of_lt (Nat.lt_succ_of_lt la)), ⟨⟨.none, he⟩, hit⟩, fun b hb => ?_, q⟩
    have lb : t.heap.objs.size ≤ b := by
      rcases List.mem_cons.mp hb with z | z
      · rw [z]; exact Nat.le_succ _
      · rw [List.mem_singleton.mp z]; exact Nat.le_refl _
    exact J.fpOk lb (J.hok.fresh lb)
theorem wk_enT {K : PySem.W.Frag} {wd : Wd} {α : Type} [Rep α] {p : Addr} {vs : List V} {B G1 : Hp} {xs : List α} (hp : B p = some (.tup vs)) (r : reps wd G1 vs xs) : Wk wd (ItT K p) B G1 (enumI xs) where
  stop := fun i H s hi => ⟨vs, .of (s.v hp), by rw [r.len]; rw [enumI_len] at hi; exact hi⟩
  go := fun i H a s ha => let ⟨v, hv, _⟩ := r.get (enumI_get.mp ha).2; ⟨vs, v, .of (s.v hp), hv⟩
  yld := fun i H G x H' a s g gh ha ⟨T, y, ex, nT, eH, hy⟩ => by
    subst eH
    obtain ⟨a1, a2⟩ := enumI_get.mp ha
    obtain ⟨v, hv, hr⟩ := r.get a2
    obtain rfl : v = y := Option.some.inj (hv.symm.trans (hy vs (.of (s.v hp))))
    have gT : G T = none := gh.free nT
    exact ⟨upd G T _, (Fr.alloc gh nT).freeze nT gT upd_same, T, _, ex, upd_same, .int (i : Nat), v, rfl, by rw [a1]; rfl, Rep.mono (Same.upd' g (g.free gT)) hr⟩
theorem i_enumT {X : Cx} {F : Fx} {c : Ctx} {α : Type} [Rep α] {fr : Bs} (hfr : fr = .g ∨ fr = .h) {e : Expr} {m : Ctx.T c → Rs (Tup α)} {p pos tpos : Pos} {elts : List Expr} {kk : Nat} (hK : F.wd.K = X.K) (hg : Gl X "enumerate") (hm : X.mg "enumerate" = none) (h : PE X e (tX F kF c m)) (he : starEach (e :: []) X.env = (false, eval e X.env) :: starEach [] X.env := by rfl) (hs : starEach [e] X.env = [(false, eval e X.env)] := by rfl) :
    PI X (.Tuple elts kk tpos) (.Call (.Name "enumerate" p) [e] [] pos) (tI F fr c fun γ => (m γ).bind fun t => .ok (enumI t.items)) :=
  pi_mono (pi_enT hg hm (pa_cons h pa_nil he) hs) fun σ H Rr q => tI_of (k := kF) q (fun v H0 H1 G1 b h0 gh ⟨p, o, e1, e2, vs, e3, e4, r⟩ w => by
    subst e3
    refine ⟨p, vs, by rw [e1], .of (gh.v e2), w _ (wk_enT ?_ r)⟩
    rcases hfr with z | z
    · subst z; exact e2
    · subst z; exact gh.v e2) fun _ _ z => nomatch z
/-! ### list(range(a, b, -1)) -/
omit [TabT] in
def downV (a b : Int) : List V := (List.range (a - b).toNat).map fun i => V.int (a + (i : Nat) * (-1))
omit [TabT] in
theorem downV_len (a b : Int) : (downV a b).length = (a - b).toNat := by unfold downV; rw [List.length_map, List.length_range]
omit [TabT] in
theorem downV_rng (a b : Int) : downV a b = (rngD a b).map V.int := by
  unfold downV rngD
  rw [List.map_map]
  apply List.map_congr_left
  intro i _
  show V.int (a + (i : Nat) * (-1)) = V.int (a - (i : Int))
  congr 1
  omega
omit [TabT] in
theorem vals_down {a b : Int} {acc : Array Value} (h : ItemsOf (fun i v => ∃ t, v = .int (a + i * (-1)) t) acc (a - b).toNat) : Vals (downV a b) acc.toList := by
  have e : acc.toList.length = (a - b).toNat := by rw [Array.length_toList]; exact h.1
  unfold downV
  rw [← e]
  refine vals_of_get acc.toList _ fun j u hj => ?_
  obtain ⟨t, q⟩ := h.2 j u (by rw [← hj, Array.getElem?_toList])
  exact ⟨t, q⟩
omit [TabT] in
def tDown (t : TA) : TE := fun σ H Q => t σ H fun vs H1 => ∃ a b : Int, vs = [.int a, .int b, .int (-1)] ∧ -(2 ^ 62) ≤ a ∧ a < 2 ^ 62 ∧ -(2 ^ 62) ≤ b ∧ b < 2 ^ 62 ∧ (a - b).toNat ≤ 2 ^ 24 ∧ ∀ q, H1 q = none → Q (.ref q) (upd H1 q (.lst (downV a b)))
omit [TabT] in
theorem pe_listDown {X : Cx} {x y z : Expr} {t : TA} {p p2 pos pos2 : Pos} (hc : X.calm = true) (hl : X.mg "list" = none) (hm : X.mg "range" = none) (hgl : Gl X "list") (hg : Gl X "range") (ha : PA X [x, y, z] t)
    (hs : starEach [x, y, z] X.env = (false, eval x X.env) :: starEach [y, z] X.env) (hpl : (backTo pos2 (starEach [y, z] X.env)).any (·.1) = false) (ne : starEach [.Call (.Name "range" p2) [x, y, z] [] pos2] X.env = (false, eval (.Call (.Name "range" p2) [x, y, z] [] pos2) X.env) :: starEach [] X.env) :
    PE X (.Call (.Name "list" p) [.Call (.Name "range" p2) [x, y, z] [] pos2] [] pos) (tDown t) := by
  refine ⟨fun pins s σ H Q I h => ?_⟩
  have one : wpAny (model X.prog X.w) X.A (eval (.Call (.Name "range" p2) [x, y, z] [] pos2) X.env) (fun u s' => ∃ r a b t1 t2 t3 H', u = .ref r ∧ IsRange s'.heap r a b (-1) t1 t2 t3 ∧ Inv X pins σ H' s' ∧ -(2 ^ 62) ≤ a ∧ a < 2 ^ 62 ∧ -(2 ^ 62) ≤ b ∧ b < 2 ^ 62 ∧ (a - b).toNat ≤ 2 ^ 24 ∧ ∀ q, H' q = none → Q (.ref q) (upd H' q (.lst (downV a b)))) X.xe s := by
    refine Call_ (ld_blt I hg hm boot_range (PyProof.Rows.callWith_type1 (thn (ha.run pos2 pins s σ H _ I h) fun us s1 ⟨vs, H1, J, r1, a, b, e, a0, a1, b0, b1, hz, q⟩ => ?_) hs hpl))
    subst e
    cases r1 with
    | cons r rr =>
      cases rr with
      | cons r' rr =>
        cases rr with
        | cons r'' rr =>
          cases rr
          obtain ⟨t1, rfl⟩ := r
          obtain ⟨t2, rfl⟩ := r'
          obtain ⟨t3, rfl⟩ := r''
          exact call_range_3 (by decide) ⟨_, a, b, t1, t2, t3, H1, rfl, IsRange.new .., J.kept (t' := s1.toks) fun c o e => Heap.get?_push_of_some _ e, a0, a1, b0, b1, hz, q⟩ (.inl (PyProof.noPylong_small (by decide)))
  refine Call_ (ld_blt I hgl hl boot_list (PyProof.Rows.callWith_type1 (args_cons (thn one fun u s1 ⟨r, a, b, t1, t2, t3, H1, ex, hr, J, a0, a1, b0, b1, hz, q⟩ => args_nil ?_) ne) ne))
  subst ex
  refine call_list_range (n := (a - b).toNat) (J.ok.hd hc) hr (PySem.W.small_down a0 a1 b0 b1) (PySem.W.rangeSize_downNat a b) hz fun h' tk acc c' hk e' hi => ?_
  refine ⟨.ref s1.heap.objs.size, upd H1 s1.heap.objs.size (.lst (downV a b)), J.laid hk (Nat.le_refl _) (show ObjOk X.prog X.w _ _ _ (.lst (downV a b)) from ⟨?_, acc.toList, c', vals_down hi, ?_⟩), rfl, q _ (J.hok.fresh (Nat.le_refl _))⟩
  · rw [downV_len, sizeLine_eq]; omega
  · rw [Array.toArray_toList]; exact e'
omit [TabT] in
def RngDL (a b : Int) : Rs (List Int) := if -4611686018427387904 ≤ a ∧ a ≤ 4611686018427387903 ∧ -4611686018427387904 ≤ b ∧ b ≤ 4611686018427387903 ∧ (a - b).toNat ≤ 16777216 then .ok (rngD a b) else .no
theorem e_listRD {X : Cx} {F : Fx} {c : Ctx} {x y : Expr} {ma mb : Ctx.T c → Rs Int} {j : Nat} {p p2 p3 p4 pos pos2 : Pos} (hc : X.calm = true) (hl : X.mg "list" = none) (hm : X.mg "range" = none) (ha : PE X x (tX F kF c ma)) (hb : PE X y (tX F kF c mb)) (hgl : Gl X "list" := by rfl) (hg : Gl X "range" := by rfl)
    (na : starEach (x :: y :: .UnaryOp .USub (.Constant (.int 1) j p3) p4 :: []) X.env = (false, eval x X.env) :: starEach (y :: .UnaryOp .USub (.Constant (.int 1) j p3) p4 :: []) X.env := by rfl) (nb : starEach (y :: .UnaryOp .USub (.Constant (.int 1) j p3) p4 :: []) X.env = (false, eval y X.env) :: starEach (.UnaryOp .USub (.Constant (.int 1) j p3) p4 :: []) X.env := by rfl)
    (nc : starEach ((Expr.UnaryOp .USub (.Constant (.int 1) j p3) p4) :: []) X.env = (false, eval (.UnaryOp .USub (.Constant (.int 1) j p3) p4) X.env) :: starEach [] X.env := by rfl) (hpl : (backTo pos2 (starEach [y, .UnaryOp .USub (.Constant (.int 1) j p3) p4] X.env)).any (·.1) = false := by rfl)
    (ne : starEach [.Call (.Name "range" p2) [x, y, .UnaryOp .USub (.Constant (.int 1) j p3) p4] [] pos2] X.env = (false, eval (.Call (.Name "range" p2) [x, y, .UnaryOp .USub (.Constant (.int 1) j p3) p4] [] pos2) X.env) :: starEach [] X.env := by rfl) :
    PE X (.Call (.Name "list" p) [.Call (.Name "range" p2) [x, y, .UnaryOp .USub (.Constant (.int 1) j p3) p4] [] pos2] [] pos) (tX F kO c fun γ => (ma γ).bind fun a => (mb γ).bind fun b => RngDL a b) :=
  pe_mono (pe_listDown hc hl hm hgl hg (pa_cons ha (pa_cons hb (pa_cons (pe_un un_neg pe_int) pa_nil nc) nb) na) na hpl ne) fun σ H Q ⟨H0, G0, G, os, γ, st, p⟩ => ⟨H0, G0, G, os, γ, st, p.step kF fun v H1 G1 a f1 r1 p1 => ⟨H0, G0, G1, os, γ, st.ext f1, p1.step kF fun w H2 G2 b f2 r2 p2 => by
    obtain rfl : v = .int a := r1
    obtain rfl : w = .int b := r2
    unfold RngDL at p2
    by_cases hz : -4611686018427387904 ≤ a ∧ a ≤ 4611686018427387903 ∧ -4611686018427387904 ≤ b ∧ b ≤ 4611686018427387903 ∧ (a - b).toNat ≤ 16777216
    · rw [if_pos hz] at p2
      refine ⟨1, rfl, a, b, rfl, by omega, by omega, by omega, by omega, by omega, fun d nd => p2 _ _ _ (Fr.alloc f2.gh nd) ⟨d, _, rfl, nd, f2.gh.free nd, upd_same, _, rfl, by rw [downV_len, sizeLine_eq]; exact hz.2.2.2.2, ?_⟩⟩
      rw [downV_rng]
      exact reps.of_ints
    · rw [if_neg hz] at p2
      exact p2.elim⟩⟩
end Wm
set_option Elab.async false
set_option linter.all false
set_option maxRecDepth 100000
set_option maxHeartbeats 4000000
namespace L2
open PySem PySem.Spec PyProof.Rows
/-! ### xs[1::-1] -/
def rev2 {α : Type} (xs : List α) : List α := (xs.take 2).reverse
theorem rev2_pick (items : Array Value) : slicePick items (some 1) none (some (-1)) = (rev2 items.toList).toArray := by
  rcases items with ⟨l⟩
  match l with
  | [] => rfl
  | [a] =>
    unfold slicePick
    have e : sliceBounds (some 1) none (some (-1)) ([a] : List Value).toArray.size = (0, -1, -1) := by
      show sliceBounds (some 1) none (some (-1)) 1 = _
      first | decide +kernel | (simp [sliceBounds]; done)
    rw [e]
    rfl
  | a :: b :: t =>
    unfold slicePick
    have e : sliceBounds (some 1) none (some (-1)) (a :: b :: t).toArray.size = (1, -1, -1) := by
      have : (a :: b :: t).toArray.size = t.length + 2 := by simp
      rw [this]
      simp [sliceBounds]
      try omega
    rw [e]
    rfl
def tRev2L (K : PySem.W.Frag) (te : TE) : TE := fun σ H Q => te σ H fun x H1 => ∃ a xs, x = .ref a ∧ SqL K H1 a xs ∧ ∀ p, H1 p = none → Q (.ref p) (upd H1 p (.lst (rev2 xs)))
variable {X : Cx}
theorem pe_rev2L {e : Expr} {te : TE} {k kl : Nat} {pl0 p1 p2 p3 pos : Pos} (he : PE X e te) : PE X (.Subscript e (.Slice (some (.Constant (.int 1) kl pl0)) none (some (.UnaryOp .USub (.Constant (.int 1) k p1) p2)) p3) pos) (tRev2L X.K te) := by
  refine ⟨fun pins s σ H Q I h => ?_⟩
  refine Subscript_ (thn (he.run pins s σ H _ I h) fun v s1 ⟨x, H1, I1, r1, q1⟩ => ?_)
  obtain ⟨a, xs, ex, hx, q⟩ := q1
  subst ex
  cases r1
  have hst : PO X (some (.UnaryOp .USub (.Constant (.int 1) k p1) p2)) (tPart (tUn (rU fun i => .int (-i)) (tC (.int 1)))) := po_some (pe_un un_neg pe_int)
  have hlo : PO X (some (.Constant (.int 1) kl pl0)) (tPart (tC (.int 1))) := po_some pe_int
  refine wpAny_Slice (thn (hlo.run pins s1 σ H1 (fun o H2 => o = some 1 ∧ H2 = H1) I1 ⟨1, rfl, rfl, rfl⟩) fun vl s2 ⟨l, H2, I2, pl, el, e2⟩ => ?_)
  subst el e2
  refine thn (po_none.run pins s2 σ H2 (fun o H3 => o = none ∧ H3 = H2) I2 ⟨rfl, rfl⟩) fun vu s3 ⟨u, H3, I3, pu, eu, e3⟩ => ?_
  subst eu e3
  refine thn (hst.run pins s3 σ H3 (fun o H4 => o = some (-1) ∧ H4 = H3) I3 ⟨1, rfl, -1, rfl, rfl, rfl⟩) fun vs s4 ⟨o, H4, I4, ps, eo, e4⟩ => ?_
  subst eo e4
  have I5 : Inv X pins σ H4 { s4 with heap := s4.heap.push { cls := .type "slice", data := .fields #[vl, vu, vs] } } := I4.kept (t' := s4.toks) fun b ob q => Heap.get?_push_of_some _ q
  obtain ⟨its, r, ht, hz⟩ := I5.list hx
  have hlen := r.length
  show wpAny (model X.prog X.w) X.A (subscriptTail e (.Slice (some (.Constant (.int 1) kl pl0)) none (some (.UnaryOp .USub (.Constant (.int 1) k p1) p2)) p3) (.ref a) (.ref s4.heap.objs.size)) (EP X pins σ Q) X.xe { s4 with heap := s4.heap.push { cls := .type "slice", data := .fields #[vl, vu, vs] } }
  refine tail_any (ops := [.ref a, .ref s4.heap.objs.size]) ht.isList.typeIs (PySem.slot_list_getitem.lookup) ?_ (by with_unfolding_all rfl)
  refine wpAny_getItem_list_slice ht.isList (Heap.IsSliceOf.new _ vl vu vs) pl pu ps (by decide) ?_ (by rw [List.size_toArray]; omega)
  rw [rev2_pick]
  have e2 : (rev2 xs).length ≤ xs.length := by unfold rev2; rw [List.length_reverse, List.length_take]; omega
  refine ⟨.ref _, _, I5.laid (t' := s4.toks) (o := .lst (rev2 xs)) (fun b ob q => Heap.get?_push_of_some _ q) (Nat.le_refl _) ?_, rfl, q _ (I5.hok.fresh (Nat.le_refl _))⟩
  refine ⟨by omega, _, 0, ?_, Heap.get?_push_size _ rfl⟩
  exact (r.take 2).reverse
end L2
namespace Wm
open PySem PySem.Spec PyProof.Rows L2
open Rep (rep)
open Own (own)
variable [TabT]
section
variable {X : Cx} {F : Fx} {c : Ctx} {α : Type} {e : Expr}
theorem e_rev2 [Rep α] {m : Ctx.T c → Rs (List α)} {k kl : Nat} {pl0 p1 p2 p3 pos : Pos} (hK : F.wd.K = X.K) (h : PE X e (tX F kB c m)) : PE X (.Subscript e (.Slice (some (.Constant (.int 1) kl pl0)) none (some (.UnaryOp .USub (.Constant (.int 1) k p1) p2)) p3) pos) (tX F kO c fun γ => (m γ).bind fun x => .ok (rev2 x)) :=
  pe_mono (pe_rev2L h) fun σ H Q ⟨H0, G0, G, os, γ, st, p⟩ => ⟨H0, G0, G, os, γ, st, by
    cases e : m γ with
    | no => dsimp only at p; rw [e] at p; exact p
    | ex x => dsimp only at p; rw [e] at p; exact p
    | ok b =>
      dsimp only at p; rw [e] at p
      exact fun H1 G1 v f1 ⟨q, o, e1, e2, vs, e3, e4, r⟩ => by
        subst e1; subst e3
        have e5 : (rev2 vs).length ≤ vs.length := by unfold rev2; rw [List.length_reverse, List.length_take]; omega
        refine ⟨q, vs, rfl, .of e2, fun d nd => p _ G1 _ (f1.trans (Fr.alloc f1.gh nd)) ⟨d, _, rfl, f1.h.free nd, f1.gh.free nd, upd_same, _, rfl, by omega, (reps.rev (reps.take 2 r))⟩⟩⟩
/-! ### tuple + tuple -/
omit [TabT] in
def catA {α : Type} (a b : Tup α) : Rs (Tup α) := if a.items.length + b.items.length ≤ 16777216 then .ok (Tup.mk (a.items ++ b.items)) else .no
variable {wd : Wd} {K : PySem.W.Frag}
theorem m_catA [Rep α] : Sem2 (wd := wd) kF kF kF (rCatA K) (fun (a b : Tup α) => catA a b) := by
  intro W σ B1 B2 H G x y a b Q gh ⟨q, o, e1, e2, vs, e3, e4, r⟩ ⟨q', o', d1, d2, ws, d3, d4, r'⟩ p
  subst e1; subst e3; subst d1; subst d3
  have p' : Post W kF σ H G Q (catA a b) := p
  unfold catA at p'
  by_cases h : a.items.length + b.items.length ≤ 16777216
  · rw [if_pos h] at p'
    have hz : vs.length + ws.length ≤ sizeLine := by rw [r.len, r'.len, sizeLine_eq]; exact h
    refine ⟨q, q', vs, ws, rfl, rfl, .of (gh.v e2), .of (gh.v d2), hz, fun z => ?_, fun z1 z2 => ?_, fun _ _ d nd => ?_⟩
    · subst z
      exact p' H G _ (Fr.refl gh) ⟨q', _, rfl, d2, ws, rfl, d4, by
        have := r.len
        have e : a.items = [] := List.eq_nil_of_length_eq_zero this.symm
        show reps wd G ws (a.items ++ b.items)
        rw [e]; exact r'⟩
    · subst z2
      exact p' H G _ (Fr.refl gh) ⟨q, _, rfl, e2, vs, rfl, e4, by
        have := r'.len
        have e : b.items = [] := List.eq_nil_of_length_eq_zero this.symm
        show reps wd G vs (a.items ++ b.items)
        rw [e, List.append_nil]; exact r⟩
    · exact p' _ _ _ ((Fr.alloc gh nd).freeze nd (gh.free nd) upd_same) ⟨d, _, rfl, upd_same, _, rfl, by rw [List.length_append]; exact hz, (r.app r').mono (Same.upd' (Same.refl _) (gh.free nd))⟩
  · rw [if_neg h] at p'
    exact p'.elim
end
end Wm
set_option Elab.async false
set_option linter.all false
set_option maxRecDepth 100000
set_option maxHeartbeats 4000000
/-! break and continue -/
namespace Wm
open PySem PySem.Spec PyProof.Rows L2
open Rep (rep)
open Own (own)
variable [TabT]
/-- a block in a loop with the context cl: what follows; (true, γ): a break; (false, γ): a continue -/
def PostE (F : Fx) (cl : Ctx) (H0 G0 : Hp) (c : Ctx) (D : Ends) : Rs (Ctx.T c ⊕ (Bool × Ctx.T cl)) → Prop
  | .ok (.inl γ) => ∀ σ H G os, Stt F.wd F.n H0 G0 σ H G os c γ → D.nx σ H
  | .ok (.inr (b, γ)) => ∀ σ H G os, Stt F.wd F.n H0 G0 σ H G os cl γ → if b = true then D.bk σ H else D.ct σ H
  | .ex x => ∀ d σ H G, F.n.P σ → Fr H0 G0 H G → RepX G d x → F.W (.ref (F.wd.cm x.cls)) d σ H
  | .no => False
def tE (F : Fx) (cl c c' : Ctx) (m : Ctx.T c → Rs (Ctx.T c' ⊕ (Bool × Ctx.T cl))) : TS := fun D σ H => ∃ H0 G0 G os γ, Stt F.wd F.n H0 G0 σ H G os c γ ∧ PostE F cl H0 G0 c' D (m γ)
section
variable {F : Fx} {α : Type} {k : Kd F.wd α} {H0 G0 H G : Hp} {σ : L2.St} {cl c c' : Ctx} {D D' : Ends} {Q : VK} {r : Rs α}
theorem PostE.step {f : α → Rs (Ctx.T c' ⊕ (Bool × Ctx.T cl))} {n9 : Ctx} {os9 : List Addr} {γ9 : Ctx.T n9} (h : PostE F cl H0 G0 c' D (r.bind f)) (s : Stt F.wd F.n H0 G0 σ H G os9 n9 γ9) (k : Kd F.wd α) (i : ∀ v H1 G1 a, Fr H G H1 G1 → k.rel H H1 G1 v a → PostE F cl H0 G0 c' D (f a) → Q v H1) : Post F.W k σ H G Q r := by
  cases r with
  | no => exact h
  | ex x => exact fun d H2 G2 q z => h d σ H2 G2 s.len (s.f.trans q) z
  | ok a => exact fun H2 G2 v f2 q => i v H2 G2 a f2 q h
theorem PostE.seqN {r : Rs (Ctx.T c)} {f : Ctx.T c → Rs (Ctx.T c' ⊕ (Bool × Ctx.T cl))} (h : PostE F cl H0 G0 c' D (r.bind f)) (i : ∀ σ H G os γ, Stt F.wd F.n H0 G0 σ H G os c γ → PostE F cl H0 G0 c' D (f γ) → D'.nx σ H) : PostN F H0 G0 c D' r := by
  cases r with
  | no => exact h
  | ex x => exact h
  | ok γ => exact fun σ H G os st => i σ H G os γ st h
end
section
variable {X : Cx} {F : Fx} {α ρ : Type} {cl c c1 c' : Ctx} {st : Stmt} {rest sts : List Stmt}
theorem b_nilE (s : Sub c c') : PSs X [] (tE F cl c c' fun γ => .ok (.inl (s.proj γ))) :=
  pss_mono pss_nil fun D σ H ⟨H0, G0, G, os, γ, st, p⟩ => by
    obtain ⟨os', _, q⟩ := st.sub s
    exact p σ H G os' q
theorem b_brk {pos : Pos} (s : Sub c cl) : PSs X [.Break pos] (tE F cl c c' fun γ => .ok (.inr (true, s.proj γ))) :=
  pss_mono (pss_one ps_break) fun D σ H ⟨H0, G0, G, os, γ, st, p⟩ => by
    obtain ⟨os', _, q⟩ := st.sub s
    exact p σ H G os' q
theorem b_cnt {pos : Pos} (s : Sub c cl) : PSs X [.Continue pos] (tE F cl c c' fun γ => .ok (.inr (false, s.proj γ))) :=
  pss_mono (pss_one ps_continue) fun D σ H ⟨H0, G0, G, os, γ, st, p⟩ => by
    obtain ⟨os', _, q⟩ := st.sub s
    exact p σ H G os' q
theorem b_consE {m1 : Ctx.T c → Rs (Ctx.T c1)} {m2 : Ctx.T c1 → Rs (Ctx.T c' ⊕ (Bool × Ctx.T cl))} (h1 : PS X st (tS F c c1 m1)) (h2 : PSs X rest (tE F cl c1 c' m2)) : PSs X (st :: rest) (tE F cl c c' fun γ => (m1 γ).bind m2) :=
  pss_mono (pss_cons h1 h2) fun D σ H ⟨H0, G0, G, os, γ, s, p⟩ => ⟨H0, G0, G, os, γ, s, p.seqN fun σ H G os γ s2 p2 => ⟨H0, G0, G, os, γ, s2, p2⟩⟩
theorem b_goE {m1 : Ctx.T c → Rs (Ctx.T c1 ⊕ (Bool × Ctx.T cl))} {m2 : Ctx.T c1 → Rs (Ctx.T c' ⊕ (Bool × Ctx.T cl))} (h1 : PS X st (tE F cl c c1 m1)) (h2 : PSs X rest (tE F cl c1 c' m2)) : PSs X (st :: rest) (tE F cl c c' fun γ => (m1 γ).leftG m2) :=
  pss_mono (pss_cons h1 h2) fun D σ H ⟨H0, G0, G, os, γ, s, p⟩ => ⟨H0, G0, G, os, γ, s, by
    dsimp only [Rs.leftG] at p
    cases e : m1 γ with
    | no => rw [e] at p; exact p
    | ex x => rw [e] at p; exact p
    | ok z =>
      rw [e] at p
      rcases z with g | ⟨b, g⟩
      · exact fun σ H G os s2 => ⟨H0, G0, G, os, g, s2, p⟩
      · exact p⟩
theorem b_subE {m : Ctx.T c1 → Rs (Ctx.T c' ⊕ (Bool × Ctx.T cl))} (s : Sub c c1) (h : PSs X sts (tE F cl c1 c' m)) : PSs X sts (tE F cl c c' fun γ => m (s.proj γ)) :=
  pss_mono h fun D σ H ⟨H0, G0, G, os, γ, st, p⟩ => by
    obtain ⟨os', _, q⟩ := st.sub s
    exact ⟨H0, G0, G, os', _, q, p⟩
theorem b_frzE {m : Ctx.T c1 → Rs (Ctx.T c' ⊕ (Bool × Ctx.T cl))} (s : Frz c c1) (h : PSs X sts (tE F cl c1 c' m)) : PSs X sts (tE F cl c c' fun γ => m (s.proj γ)) :=
  pss_mono h fun D σ H ⟨H0, G0, G, os, γ, st, p⟩ => by
    obtain ⟨os', G', q⟩ := st.frz s
    exact ⟨H0, G0, G', os', _, q, p⟩
theorem b_narE {m : Ctx.T c1 → Rs (Ctx.T c' ⊕ (Bool × Ctx.T cl))} (s : Nar c c1) (h : PSs X sts (tE F cl c1 c' m)) : PSs X sts (tE F cl c c' fun γ => (s.go γ).bind m) :=
  pss_mono h fun D σ H ⟨H0, G0, G, os, γ, st, p⟩ => by
    dsimp only at p
    cases e : s.go γ with
    | no => rw [e] at p; exact p.elim
    | ex x => exact (s.noex e).elim
    | ok g => rw [e] at p; exact ⟨H0, G0, G, os, g, st.nar s e, p⟩
/-- a plain block as one in a loop -/
theorem b_se {m : Ctx.T c → Rs (Ctx.T c')} (h : PSs X sts (tS F c c' m)) : PSs X sts (tE F cl c c' fun γ => (m γ).bind fun x => .ok (.inl x)) :=
  pss_mono h fun D σ H ⟨H0, G0, G, os, γ, s, p⟩ => ⟨H0, G0, G, os, γ, s, by
    cases e : m γ with
    | no => dsimp only at p; rw [e] at p; exact p
    | ex x => dsimp only at p; rw [e] at p; exact p
    | ok z => dsimp only at p; rw [e] at p; exact p⟩
theorem b_neverE {sts : List Stmt} : PSs X sts (tE F cl c c' fun _ => .no) := pss_mono pss_never fun D σ H ⟨H0, G0, G, os, γ, st, p⟩ => p
theorem s_ifE {t : Expr} {a b : List Stmt} {mt : Ctx.T c → Rs Bool} {m1 m2 : Ctx.T c → Rs (Ctx.T c' ⊕ (Bool × Ctx.T cl))} {pos : Pos} (ht : PT X t (tQ F c mt)) (ha : PSs X a (tE F cl c c' m1)) (hb : PSs X b (tE F cl c c' m2)) : PS X (.If t a b pos) (tE F cl c c' fun γ => (mt γ).bind fun x => if x = true then m1 γ else m2 γ) :=
  ps_mono (ps_if ht ha hb) fun D σ H ⟨H0, G0, G, os, γ, st, p⟩ => ⟨H0, G0, G, os, γ, st, p.step st kF fun v H1 G1 b fr rb p1 => ⟨b, rb, by
    cases b with
    | false => exact ⟨H0, G0, G1, os, γ, st.ext fr, p1⟩
    | true => exact ⟨H0, G0, G1, os, γ, st.ext fr, p1⟩⟩⟩
/-! ### the loop -/
omit [TabT] in
def Rs.foldC {γ α : Type} (f : γ → α → Rs (γ ⊕ (Bool × γ))) : γ → List α → Rs γ
  | g, [] => .ok g
  | g, x :: xs => (f g x).bind fun z => match z with
    | .inl g' => Rs.foldC f g' xs
    | .inr (false, g') => Rs.foldC f g' xs
    | .inr (true, g') => .ok g'
theorem s_forE [Rep α] {tg iter : Expr} {body : List Stmt} {pos : Pos} {g : TG} {mL : Ctx.T c → Rs (List α)} {mb : Ctx.T c1 → Rs (Ctx.T c ⊕ (Bool × Ctx.T c))} {push : α → Ctx.T c → Ctx.T c1} (hp : PassesOwn (model X.prog X.w) X.A X.env X.xe) (hc : X.calm = true)
    {fr : Bs} (hfr : fr = .g ∨ fr = .z) (hi : PI X tg iter (tI F fr c mL)) (hg : PG X tg g) (ht : TgtOk F g c c1 push) (hb : PSs X body (tE F c c1 c mb)) (hs : ∀ x, foldedSetIterable iter X.env x = pure x := by intro _; rfl) :
    PS X (.For tg iter body [] pos) (tS F c c fun γ => (mL γ).bind fun xs => Rs.foldC (fun γ x => mb (push x γ)) γ xs) :=
  ps_mono (ps_for hp hc hi hg hb hs) fun D σ H ⟨H0, G0, G, os, γ, st, p⟩ => ⟨H0, G0, G, os, γ, st, by
    dsimp only at p
    cases e : mL γ with
    | no => rw [e] at p; exact p
    | ex x => rw [e] at p; exact fun d H2 G2 s z => p d σ H2 G2 st.len (st.f.trans s) z
    | ok xs =>
      rw [e] at p
      refine fun H1 G1 J f w => for_any (n := xs.length) (fun i σ' H' => ∃ G' os' γ', Stt F.wd F.n H0 G0 σ' H' G' os' c γ' ∧ Same G1 G' ∧ PostN F H0 G0 c D (Rs.foldC (fun γ x => mb (push x γ)) γ' (xs.drop i)))
        ⟨G1, os, γ, st.ext f, Same.refl _, p⟩ ?_ ?_
      · rintro i σ' H' hi ⟨G', os', γ', st', sg, p'⟩
        obtain ⟨a, ha, hd⟩ := drop_get hi
        rw [hd] at p'
        have hB : SameL (fr.at G1 H1 H0) H' := by
          cases hfr with
          | inl q => subst q; exact sg.transL st'.f.gh
          | inr q => subst q; exact st'.f.h.l
        refine ⟨w.go i H' a hB ha, fun x H2 hy => ?_⟩
        obtain ⟨G2, f2, r2⟩ := w.yld i H' G' x H2 a hB sg st'.f.gh ha hy
        refine ht (st'.ext f2) r2 fun σ3 st3 => ⟨H0, G2, G2, os', _, st3.rebase, ?_⟩
        simp only [Rs.foldC] at p'
        cases e2 : mb (push a γ') with
        | no => rw [e2] at p'; exact p'
        | ex x => rw [e2] at p'; exact fun d σ4 H4 G4 l4 f4 z => p' d σ4 H4 G4 l4 (st3.f.base f4) z
        | ok z =>
          rw [e2] at p'
          rcases z with g' | ⟨b, g'⟩
          · exact fun σ4 H4 G4 os4 st4 => ⟨G4, os4, g', st4.unbase st3.f, sg.trans (f2.g.trans st4.f.g), p'⟩
          · cases b with
            | false => exact fun σ4 H4 G4 os4 st4 => ⟨G4, os4, g', st4.unbase st3.f, sg.trans (f2.g.trans st4.f.g), p'⟩
            | true => exact fun σ4 H4 G4 os4 st4 => p' σ4 H4 G4 os4 (st4.unbase st3.f)
      · rintro σ' H' ⟨G', os', γ', st', sg, p'⟩
        rw [List.drop_length] at p'
        have hB : SameL (fr.at G1 H1 H0) H' := by
          cases hfr with
          | inl q => subst q; exact sg.transL st'.f.gh
          | inr q => subst q; exact st'.f.h.l
        exact ⟨w.stop _ H' hB (Nat.le_refl _), p' _ _ _ _ st'⟩⟩
end
end Wm
set_option Elab.async false
set_option linter.all false
set_option maxRecDepth 100000
set_option maxHeartbeats 4000000
/-! values of one type or another -/
namespace Wm
open PySem PySem.Spec PyProof.Rows L2
open Rep (rep)
open Own (own)
variable [TabT]
omit [TabT] in
instance {α β : Type} [Rep α] [Rep β] : Rep (α ⊕ β) where
  rep := fun wd G v a => match a with
    | .inl a => rep wd G v a
    | .inr b => rep wd G v b
  mono := fun {wd G G' v a} s h => by
    cases a with
    | inl a => exact Rep.mono (α := α) s h
    | inr b => exact Rep.mono (α := β) s h
omit [TabT] in
def theL {α β : Type} (o : α ⊕ β) : Rs α := match o with | .inl a => .ok a | .inr _ => .no
omit [TabT] in
def theR {α β : Type} (o : α ⊕ β) : Rs β := match o with | .inr a => .ok a | .inl _ => .no
structure Cst (α β : Type) [Rep α] [Rep β] where
  go : α → β
  ok : ∀ {wd : Wd} {G : Hp} {v : V} {a : α}, rep wd G v a → rep wd G v (go a)
omit [TabT] in
def Cst.i {α : Type} [Rep α] : Cst α α := ⟨fun a => a, fun h => h⟩
omit [TabT] in
def Cst.l {α β : Type} [Rep α] [Rep β] : Cst α (α ⊕ β) := ⟨.inl, fun h => h⟩
omit [TabT] in
def Cst.r {α β γ : Type} [Rep α] [Rep β] [Rep γ] (k : Cst α β) : Cst α (γ ⊕ β) := ⟨fun a => .inr (k.go a), fun h => k.ok h⟩
omit [TabT] in
def Cst.p {α β α' β' : Type} [Rep α] [Rep β] [Rep α'] [Rep β'] (k : Cst α α') (j : Cst β β') : Cst (α × β) (α' × β') :=
  ⟨fun a => (k.go a.1, j.go a.2), fun ⟨p, o, e, g, v, w, e2, h1, h2⟩ => ⟨p, o, e, g, v, w, e2, k.ok h1, j.ok h2⟩⟩
omit [TabT] in
omit [TabT] in
/-- a pair, three things, as a tuple of one kind -/
def Cst.pt {α : Type} [Rep α] : Cst (α × α) (Tup α) :=
  ⟨fun a => ⟨[a.1, a.2]⟩, fun ⟨p, o, e, g, v, w, e2, h1, h2⟩ => ⟨p, o, e, g, [v, w], e2, by rw [sizeLine_eq]; show (2 : Nat) ≤ _; decide, h1, h2, trivial⟩⟩
omit [TabT] in
def Cst.tt {α : Type} [Rep α] : Cst (T3 α α α) (Tup α) :=
  ⟨fun a => ⟨[a.a, a.b, a.c]⟩, fun ⟨p, o, e, g, v, w, u, e2, h1, h2, h3⟩ => ⟨p, o, e, g, [v, w, u], e2, by rw [sizeLine_eq]; show (3 : Nat) ≤ _; decide, h1, h2, h3, trivial⟩⟩
section
variable {X : Cx} {F : Fx} {c : Ctx} {α β : Type} {e : Expr}
theorem e_theL [Rep α] [Rep β] {m : Ctx.T c → Rs (α ⊕ β)} (h : PE X e (tX F kF c m)) : PE X e (tX F kF c fun γ => (m γ).bind theL) :=
  pe_mono h fun σ H Q ⟨H0, G0, G, os, γ, st, p⟩ => ⟨H0, G0, G, os, γ, st, p.step kF fun v H1 G1 a fr ra p1 => by
    cases a with
    | inr b => exact p1.elim
    | inl b => exact p1 H1 G1 v (Fr.refl fr.gh) ra⟩
theorem e_theR [Rep α] [Rep β] {m : Ctx.T c → Rs (α ⊕ β)} (h : PE X e (tX F kF c m)) : PE X e (tX F kF c fun γ => (m γ).bind theR) :=
  pe_mono h fun σ H Q ⟨H0, G0, G, os, γ, st, p⟩ => ⟨H0, G0, G, os, γ, st, p.step kF fun v H1 G1 a fr ra p1 => by
    cases a with
    | inl b => exact p1.elim
    | inr b => exact p1 H1 G1 v (Fr.refl fr.gh) ra⟩
theorem e_cst [Rep α] [Rep β] (k : Cst α β) {m : Ctx.T c → Rs α} (h : PE X e (tX F kF c m)) : PE X e (tX F kF c fun γ => (m γ).bind fun a => .ok (k.go a)) :=
  pe_mono h fun σ H Q ⟨H0, G0, G, os, γ, st, p⟩ => ⟨H0, G0, G, os, γ, st, p.step kF fun v H1 G1 a fr ra p1 => p1 H1 G1 v (Fr.refl fr.gh) (k.ok ra)⟩
end
end Wm
set_option Elab.async false
set_option linter.all false
set_option maxRecDepth 100000
set_option maxHeartbeats 4000000
/-! sorted(xs) and sorted(xs, reverse=True) of items that are data -/
namespace L2
open PySem PySem.Spec PyProof.Rows
open PySem.W (EachIs AllAlike Sortable dataLe)
section
variable {X : Cx} {pins : List (Addr × Obj)} {σ : St} {H : Hp} {s : Shared} {β : Type}
def rSortD (K : PySem.W.Frag) (rev : Bool) (enc : β → PyData) : Addr → Hp → VK → Prop := fun a H Q => ∃ (xs : List V) (bs : List β), SqL K H a xs ∧ EachIs (fun x b => Dp K H x (enc b)) xs bs ∧ AllAlike (bs.map enc) ∧ Sortable (bs.map enc) ∧ (∀ b, b ∈ bs → (enc b).depth ≤ 60) ∧
  ∀ p, H p = none → Q (.ref p) (upd H p (.lst (((xs.zip bs).mergeSort (dataLe rev fun z => enc z.2)).map Prod.fst)))
theorem each_reads (I : Inv X pins σ H s) {enc : β → PyData} : ∀ {xs : List V} {bs : List β} {us : List Value}, EachIs (fun x b => Dp X.K H x (enc b)) xs bs → Vals xs us →
    EachIs (fun u (z : V × β) => RelV z.1 u) us (xs.zip bs) ∧ EachIs (fun u (z : V × β) => ∃ as, Reads s.heap u (enc z.2) as) us (xs.zip bs)
  | [], _, _, .nil, .nil => ⟨.nil, .nil⟩
  | _ :: _, _, _, .cons h t, .cons r rs => by
    obtain ⟨a, b⟩ := each_reads I t rs
    exact ⟨.cons r a, .cons (Dp.reads I _ _ _ h r) b⟩
theorem each_vals : ∀ {us : List Value} {zs : List (V × β)}, EachIs (fun u (z : V × β) => RelV z.1 u) us zs → Vals (zs.map Prod.fst) us
  | _, _, .nil => .nil
  | _, _, .cons h t => .cons h (each_vals t)
theorem zip_snd : ∀ {xs : List V} {bs : List β}, xs.length = bs.length → (xs.zip bs).map Prod.snd = bs
  | [], [], _ => rfl
  | _ :: xs, b :: bs, h => by
    rw [List.zip_cons_cons, List.map_cons, zip_snd (by simpa using h)]
theorem sortD_run {a : Addr} {rev : Bool} {enc : β → PyData} {Q : VK} (hu : X.A.units + 64 < cLine) (I : Inv X pins σ H s) (h : rSortD X.K rev enc a H Q) :
    wpAny (model X.prog X.w) X.A (call (.builtin "sorted") [.ref a] [(Str.ofString "reverse", .bool rev)]) (EP X pins σ Q) X.xe s ∧ (rev = false → wpAny (model X.prog X.w) X.A (call (.builtin "sorted") [.ref a]) (EP X pins σ Q) X.xe s) := by
  obtain ⟨xs, bs, hs, he, hal, hk, hdep, q⟩ := h
  obtain ⟨its, rv, hl, hz⟩ := I.list hs
  obtain ⟨e1, e2⟩ := each_reads I he rv
  have hlen := he.length
  have hzl : (xs.zip bs).length = bs.length := by rw [List.length_zip, hlen, Nat.min_self]
  have hmap : (xs.zip bs).map (fun z : V × β => enc z.2) = bs.map enc := by
    rw [show (fun z : V × β => enc z.2) = enc ∘ Prod.snd from rfl, ← List.map_map, zip_snd hlen]
  have fin : ∀ out : List Value, out.length = (xs.zip bs).length → EachIs (fun u (z : V × β) => RelV z.1 u) out ((xs.zip bs).mergeSort (dataLe rev fun z => enc z.2)) → EP X pins σ Q (.ref (s.heap.objs.size + 1)) { s with heap := sortedAll s.heap its (List.toArray out) } := fun out ol eo => by
    obtain ⟨ep, he'⟩ := sortedAll_at s.heap its (List.toArray out)
    refine ⟨.ref _, upd H (s.heap.objs.size + 1) (.lst (((xs.zip bs).mergeSort (dataLe rev fun z => enc z.2)).map Prod.fst)), I.laid (t' := s.toks) (fun _ _ => sortedAll_old) (Nat.le_succ _) ⟨?_, _, ep, each_vals eo, he'⟩, rfl, q _ (I.hok.fresh (Nat.le_succ _))⟩
    rw [List.length_map, List.length_mergeSort, hzl, ← hlen]
    exact hz
  have hL : (xs.zip bs).length ≤ sizeLine := by rw [hzl, ← hlen]; exact hz
  have hd : ∀ z : V × β, z ∈ xs.zip bs → X.A.units + 2 + (enc z.2).depth < cLine := fun z hz => by
    have := hdep z.2 (List.of_mem_zip hz).2
    omega
  exact ⟨PySem.W.sorted_rev_data (enc := fun z : V × β => enc z.2) hl.isList e1 e2 (by rw [hmap]; exact hal) (by rw [hmap]; exact hk) hL hd fin, fun hr => by
    subst hr
    exact PySem.W.sorted_data (enc := fun z : V × β => enc z.2) hl.isList e1 e2 (by rw [hmap]; exact hal) (by rw [hmap]; exact hk) hL hd fin⟩
theorem cr_sortedD {enc : β → PyData} (hu : X.A.units + 64 < cLine) : CallR X (.builtin "sorted") fun vs H Q => ∃ a, vs = [V.ref a] ∧ rSortD X.K false enc a H Q := by
  intro pins s σ H vs us Q I r h
  obtain ⟨a, rfl, h⟩ := h
  obtain rfl := Vals.ref1 r
  exact (sortD_run hu I h).2 rfl
theorem cr_sortedDR {enc : β → PyData} (hu : X.A.units + 64 < cLine) : CallRK X (.builtin "sorted") [Str.ofString "reverse"] fun vs zs H Q => ∃ a, vs = [V.ref a] ∧ zs = [V.bl true] ∧ rSortD X.K true enc a H Q := by
  intro pins s σ H vs zs us ws Q I r rz h
  obtain ⟨a, rfl, rfl, h⟩ := h
  obtain rfl := Vals.ref1 r
  obtain ⟨w1, rfl, e1⟩ := vals1 rz
  obtain rfl : w1 = Value.bool true := e1
  exact (sortD_run hu I h).1
end
end L2
namespace Wm
open PySem PySem.Spec PyProof.Rows L2
open PySem.W (EachIs AllAlike Sortable dataLe)
open Rep (rep)
open Own (own)
variable [TabT]
class SortT (α : Type) [Rep α] [DecidableEq α] [PyEq α] where
  al : ∀ a b : α, PySem.W.alike (PyEq.d a) (PyEq.d b) = true
  so : ∀ xs : List α, Sortable (xs.map PyEq.d)
  le : α → α → Bool
  up : ∀ a b : α, dataLe false PyEq.d a b = le a b
  dn : ∀ a b : α, dataLe true PyEq.d a b = le b a
omit [TabT] in
instance : SortT Int where
  al := fun _ _ => by simp [PyEq.d, PySem.W.alike]
  so := fun xs => Sortable.others fun b => ⟨by simp [PyEq.d], by simp [PyEq.d]⟩
  le := fun a b => decide (a ≤ b)
  up := fun a b => congrFun (congrFun (PySem.W.dataLe_int (β := Int) fun x => x) a) b
  dn := fun a b => congrFun (congrFun (PySem.W.dataGe_int (β := Int) fun x => x) a) b
omit [TabT] in
def leP (a b : Int × Int) : Bool := decide (a.1 < b.1 ∨ (a.1 = b.1 ∧ a.2 ≤ b.2))
omit [TabT] in
instance : SortT (Int × Int) where
  al := fun _ _ => by simp [PyEq.d, PySem.W.alike, PySem.W.alikeAll]
  so := fun xs => Sortable.tuples fun b => ⟨_, _, rfl⟩
  le := leP
  up := fun a b => congrFun (congrFun (PySem.W.dataLe_ii (β := Int × Int) (fun x => x.1) fun x => x.2) a) b
  dn := fun a b => by
    rw [PySem.W.dataLe_eq]
    show (!PySem.W.dataLt (.tuple [.int a.1, .int a.2]) (.tuple [.int b.1, .int b.2])) = leP b a
    rw [PySem.W.dataLt_ii]
    unfold leP
    by_cases c : a.1 < b.1 ∨ (a.1 = b.1 ∧ a.2 < b.2)
    · rw [decide_eq_true c, decide_eq_false (by omega)]; rfl
    · rw [decide_eq_false c, decide_eq_true (by omega)]; rfl
section
variable {α : Type} [Rep α] [DecidableEq α] [PyEq α] [SortT α] {wd : Wd} {K : PySem.W.Frag}
omit [TabT] in
theorem reps.each {H G : Hp} (s : SameL G H) : ∀ {vs : List V} {as : List α}, reps wd G vs as → EachIs (fun x b => Dp K H x (PyEq.d b)) vs as
  | [], [], _ => .nil
  | _ :: _, _ :: _, ⟨h, t⟩ => .cons (PyEq.dp s h) (reps.each s t)
  | [], _ :: _, h => h.elim
  | _ :: _, [], h => h.elim
omit [TabT] in
theorem reps.zip_all {G : Hp} : ∀ {vs : List V} {as : List α}, reps wd G vs as → ∀ z ∈ vs.zip as, rep wd G z.1 z.2
  | [], [], _, z, hz => by simp at hz
  | _ :: _, _ :: _, ⟨h, t⟩, z, hz => by
    rw [List.zip_cons_cons] at hz
    rcases List.mem_cons.mp hz with e | e
    · rw [e]; exact h
    · exact reps.zip_all t z e
  | [], _ :: _, h, _, _ => h.elim
  | _ :: _, [], h, _, _ => h.elim
omit [TabT] in
theorem reps.of_all {G : Hp} : ∀ {zs : List (V × α)}, (∀ z ∈ zs, rep wd G z.1 z.2) → reps wd G (zs.map Prod.fst) (zs.map Prod.snd)
  | [], _ => trivial
  | z :: zs, h => ⟨h z List.mem_cons_self, reps.of_all fun y hy => h y (List.mem_cons_of_mem _ hy)⟩
theorem sortD_use {W : WX} {σ : L2.St} {B H G : Hp} {x : V} {a : List α} {Q : VK} {rev : Bool} {le : α → α → Bool} (hle : ∀ x y, dataLe rev PyEq.d x y = le x y) (hdep : PyEq.dep α ≤ 60) (gh : SameL G H) (hx : (kB (wd := wd)).rel B H G x a) (p : Post W (kO (wd := wd)) σ H G Q (.ok (a.mergeSort le))) :
    ∃ q, x = .ref q ∧ rSortD K rev (PyEq.d (α := α)) q H Q := by
  obtain ⟨q, o, e1, e2, vs, e3, e4, r⟩ := hx
  subst e1; subst e3
  refine ⟨q, rfl, vs, a, .of e2, r.each gh, AllAlike.of SortT.al, SortT.so a, fun b _ => Nat.le_trans (PyEq.depth b) hdep, fun d nd => ?_⟩
  have hp := List.mergeSort_perm (vs.zip a) (dataLe rev fun z : V × α => PyEq.d z.2)
  have e : ((vs.zip a).mergeSort (dataLe rev fun z : V × α => PyEq.d z.2)).map Prod.snd = a.mergeSort le := by
    rw [List.map_mergeSort (s := le) fun y _ z _ => by rw [← hle]; rfl, zip_snd r.len]
  refine p _ _ _ (Fr.alloc gh nd) ⟨d, _, rfl, nd, gh.free nd, upd_same, _, rfl, ?_, ?_⟩
  · rw [List.length_map, hp.length_eq, List.length_zip, r.len, Nat.min_self, ← r.len]
    exact e4
  · rw [← e]
    exact reps.of_all fun z hz => r.zip_all z (hp.mem_iff.mp hz)
theorem m_sortD (hdep : PyEq.dep α ≤ 60 := by decide) : Sem1 (wd := wd) kB kO (fun x => (fun vs H Q => ∃ q, vs = [V.ref q] ∧ rSortD K false (PyEq.d (α := α)) q H Q) [x]) (fun a : List α => .ok (a.mergeSort SortT.le)) := by
  intro W σ B H G x a Q gh hx p
  obtain ⟨q, e, h⟩ := sortD_use (K := K) SortT.up hdep gh hx p
  exact ⟨q, by rw [e], h⟩
section
variable {X : Cx} {F : Fx} {c : Ctx} {ma : Ctx.T c → Rs (List α)} {e : Expr} {p pos : Pos} {x : Str} {j : Nat} {p1 p2 : Pos}
/-- sorted(xs, reverse=True) -/
theorem e_sortDR (hK : F.wd.K = X.K) (hu : X.A.units + 64 < cLine) (hg : Gl X x) (hm : X.mg x = none) (hv : bootBuiltins x = some (.builtin "sorted")) (ha : PE X e (tX F kB c ma)) (hdep : PyEq.dep α ≤ 60 := by decide) (hn : x ≠ "__name__" := by decide) (hdb : (x == ("__debug__" : Str)) = false := by decide)
    (he : starEach (e :: []) X.env = (false, eval e X.env) :: starEach [] X.env := by rfl) (he2 : backTo pos (starEach (e :: []) X.env) = (false, eval e X.env) :: backTo pos (starEach [] X.env) := by rfl) (hpl : (backTo pos (starEach (e :: []) X.env)).any (·.1) = false := by rfl)
    (hall : (backToKw pos (keywordEach [.mk (some "reverse") (.Constant (.bool true) j p1) p2] X.env)).all (·.1.isSome) = true := by rfl) (hnone : (backToKw pos (keywordEach [.mk (some "reverse") (.Constant (.bool true) j p1) p2] X.env)).any (·.1.isNone) = false := by rfl)
    (hks : (backToKw pos (keywordEach [.mk (some "reverse") (.Constant (.bool true) j p1) p2] X.env)).filterMap (·.1) = [Str.ofString "reverse"] := by rfl) :
    PE X (.Call (.Name x p) [e] [.mk (some "reverse") (.Constant (.bool true) j p1) p2] pos) (tX F kO c fun γ => (ma γ).bind fun a => .ok (a.mergeSort fun y z => SortT.le z y)) :=
  pe_mono (pe_callBK (cr_sortedDR (enc := PyEq.d (α := α)) hu) hg hm hv (pa_cons ha pa_nil he) (pk_cons pe_bl pk_nil) hn hdb he2 hpl hall hnone hks) fun σ H Q ⟨H0, G0, G, os, γ, st, p⟩ => ⟨H0, G0, G, os, γ, st, by
    cases e : ma γ with
    | no => dsimp only at p; rw [e] at p; exact p
    | ex x => dsimp only at p; rw [e] at p; exact p
    | ok b =>
      dsimp only at p; rw [e] at p
      intro H1 G1 v f1 rv
      obtain ⟨q, ev, h⟩ := sortD_use (K := X.K) (W := F.W) (σ := σ) (Q := Q) SortT.dn hdep f1.gh rv fun H2 G2 v2 f2 r2 => p H2 G2 v2 (f1.trans f2) (kO.back f1.h r2)
      exact ⟨q, by rw [ev], rfl, h⟩⟩
end
end
/-! ### not xs -/
section
variable {X : Cx} {F : Fx} {c : Ctx} {α : Type} {e : Expr}
theorem e_notT {k : Kd F.wd α} {m : Ctx.T c → Rs α} {tv : α → Bool} {pos : Pos} (hv : ∀ {B H G v a}, SameL G H → k.rel B H G v a → TruV X.K v H (tv a)) (h : PE X e (tX F k c m)) :
    PE X (.UnaryOp .Not e pos) (tX F kF c fun γ => (m γ).bind fun a => .ok (!tv a)) :=
  pe_mono (pe_notT h) fun σ H Q ⟨H0, G0, G, os, γ, st, p⟩ => ⟨H0, G0, G, os, γ, st, p.step k fun v H1 G1 a f1 r p1 => ⟨_, hv f1.gh r, p1 H1 G1 _ (Fr.refl f1.gh) rfl⟩⟩
end
end Wm
set_option Elab.async false
set_option linter.all false
set_option maxRecDepth 100000
set_option maxHeartbeats 4000000
namespace Wm
open PySem PySem.Spec PyProof.Rows L2
open Rep (rep)
open Own (own)
variable [TabT]
/-! ### any(xs), all(xs) of truth values -/
theorem m_any {wd : Wd} {K : PySem.W.Frag} : Sem1 (wd := wd) kB kF (fun x => rAny K [x]) (fun bs : List Bool => .ok (bs.any id)) := by
  intro W σ B H G x a Q gh ⟨q, o, e1, e2, vs, e3, e4, r⟩ p
  subst e1; subst e3
  exact ⟨q, a, rfl, by rw [← r.bls]; exact .of e2, p H G _ (Fr.refl gh) rfl⟩
theorem m_all {wd : Wd} {K : PySem.W.Frag} : Sem1 (wd := wd) kB kF (fun x => rAll K [x]) (fun bs : List Bool => .ok (bs.all id)) := by
  intro W σ B H G x a Q gh ⟨q, o, e1, e2, vs, e3, e4, r⟩ p
  subst e1; subst e3
  exact ⟨q, a, rfl, by rw [← r.bls]; exact .of e2, p H G _ (Fr.refl gh) rfl⟩
omit [TabT] in
theorem bt_any : bootBuiltins "any" = some (.builtin "any") := by decide +kernel
omit [TabT] in
theorem bt_all : bootBuiltins "all" = some (.builtin "all") := by decide +kernel
/-! ### xs or [], xs a list or None -/
section
variable {X : Cx} {F : Fx} {c : Ctx} {α : Type} {a b : Expr}
theorem e_orL [Rep α] {m : Ctx.T c → Rs (Option (List α))} {pos : Pos} (ha : PE X a (tX F kN c m)) (hb : PE X b (tX F kO c fun _ => .ok ([] : List α))) :
    PE X (.BoolOp .Or [a, b] pos) (tX F kB c fun γ => (m γ).bind fun o => .ok (o.getD [])) :=
  pe_mono (pe_orT ha (pe_one hb)) fun σ H Q ⟨H0, G0, G, os, γ, st, p⟩ => ⟨H0, G0, G, os, γ, st, p.step kN fun v H1 G1 o f1 r p1 => by
    cases o with
    | none =>
      refine ⟨false, by rw [show v = .non from r]; exact rfl, ?_⟩
      rw [if_neg (by decide)]
      exact ⟨H0, G0, G1, os, γ, st.ext f1, fun H2 G2 v2 f2 ⟨q, o, e1, e2, e3, e4, e5⟩ => p1 H2 G2 v2 f2 ⟨q, o, e1, e4, e5⟩⟩
    | some xs =>
      obtain ⟨q, o, e1, e2, vs, e3, e4, rr⟩ := r
      subst e1; subst e3
      cases xs with
      | nil =>
        cases vs with
        | cons => exact rr.elim
        | nil =>
          refine ⟨false, .inl ⟨[], .of e2, rfl⟩, ?_⟩
          rw [if_neg (by decide)]
          exact ⟨H0, G0, G1, os, γ, st.ext f1, fun H2 G2 v2 f2 ⟨q, o, e1, e2, e3, e4, e5⟩ => p1 H2 G2 v2 f2 ⟨q, o, e1, e4, e5⟩⟩
      | cons y ys =>
        cases vs with
        | nil => exact rr.elim
        | cons w ws =>
          refine ⟨true, .inl ⟨w :: ws, .of e2, rfl⟩, ?_⟩
          rw [if_pos rfl]
          exact p1 H1 G1 _ (Fr.refl f1.gh) ⟨q, _, rfl, e2, _, rfl, e4, rr⟩⟩
end
/-! ### isinstance of a text or None, a number or None -/
theorem ty_optS {wd : Wd} {K : PySem.W.Frag} {B H G : Hp} {v : V} {a : Option Str} (_ : SameL G H) (h : (kF (wd := wd)).rel B H G v a) : TyX K H v (if a.isSome then .type "str" else .type "NoneType") := by
  cases a with
  | none => rw [show v = .non from h]; exact .base .non
  | some b => rw [show v = .str b from h.1]; exact .base (.str b)
theorem ty_optI {wd : Wd} {K : PySem.W.Frag} {B H G : Hp} {v : V} {a : Option Int} (_ : SameL G H) (h : (kF (wd := wd)).rel B H G v a) : TyX K H v (if a.isSome then .type "int" else .type "NoneType") := by
  cases a with
  | none => rw [show v = .non from h]; exact .base .non
  | some b => rw [show v = .int b from h]; exact .base (.int b)
omit [TabT] in
theorem kit_optS {K : PySem.W.Frag} : ∀ o : Option Str, PySem.W.kitOne K (if o.isSome then .type "str" else .type "NoneType") (.type "str") = some o.isSome
  | none => kit_ty (a := "NoneType") (b := "str") (r := false) (by decide +kernel)
  | some _ => kit_ty (a := "str") (b := "str") (r := true) (by decide +kernel)
omit [TabT] in
theorem kit_optI {K : PySem.W.Frag} : ∀ o : Option Int, PySem.W.kitOne K (if o.isSome then .type "int" else .type "NoneType") (.type "int") = some o.isSome
  | none => kit_ty (a := "NoneType") (b := "int") (r := false) (by decide +kernel)
  | some _ => kit_ty (a := "int") (b := "int") (r := true) (by decide +kernel)
end Wm
set_option Elab.async false
set_option linter.all false
set_option maxRecDepth 100000
set_option maxHeartbeats 4000000
/-! sorted(xs, key=lambda y: (-r[y][0], y)): r a captured list of pairs -/
namespace L2
open PySem PySem.Spec PyProof.Rows
section
variable {P : Program} {w : World} {A : Around} {s : Shared}
/-- what the lambda's scope must be -/
structure KeyScope (scope : Scope) (y r : Str) : Prop where
  kind : scope.kind = .function
  co : scope.isCoroutine = false
  gen : scope.isGenerator = false
  nc : ∀ z ∈ scope.names, z.2 ≠ .cell
  par : scope.names.lookup y = some .local
  cap : scope.names.lookup r = some .free
  fr : ∀ z ∈ scope.names, z.2 = .free → z.1 = r
def keyScopeB (scope : Scope) (y r : Str) : Bool := decide (scope.kind = .function) && !scope.isCoroutine && !scope.isGenerator && (scope.names.all fun z => !decide (z.2 = .cell) && (!decide (z.2 = .free) || decide (z.1 = r))) && decide (scope.names.lookup y = some .local) && decide (scope.names.lookup r = some .free)
theorem keyScope_by {scope : Scope} {y r : Str} (h : keyScopeB scope y r = true) : KeyScope scope y r := by
  unfold keyScopeB at h
  simp only [Bool.and_eq_true, Bool.or_eq_true, Bool.not_eq_true', decide_eq_true_eq, decide_eq_false_iff_not, List.all_eq_true] at h
  obtain ⟨⟨⟨⟨⟨h1, h2⟩, h3⟩, h4⟩, h5⟩, h6⟩ := h
  exact ⟨h1, h2, h3, fun z hz => (h4 z hz).1, h5, h6, fun z hz e => ((h4 z hz).2).resolve_left fun n => n e⟩
/-- one call of the key: it keeps all and gives the pair -/
theorem key_call {f c' cr tp : Addr} {q y r : Str} {params : Arguments} {scope : Scope} {clos : List (Str × Addr)} {pm ctv : Value} {p : Addr} {us its : List Value} {i a : Int} {t ta : Tok} {ps1 ps2 ps3 ps4 ps5 ps6 ps7 ps8 : Pos} {jj : Nat} {x1 : Nat}
    (hd : A.depth < recursionLimit) (nl : s.heap.NoLimit) (S : KeyScope scope y r)
    (hf : s.heap.get? f = some (PySem.W.kla_obj "<lambda>" q params (.Tuple [.UnaryOp .USub (.Subscript (.Subscript (.Name r ps1) (.Name y ps2) ps3) (.Constant (.int 0) jj ps4) ps5) ps6, .Name y ps7] x1 ps8) scope clos pm c' ctv)) (hc : s.heap.CodeRec (.ref c') q)
    (hb : bindArgs (PySem.W.kla_fn "<lambda>" q params (.Tuple [.UnaryOp .USub (.Subscript (.Subscript (.Name r ps1) (.Name y ps2) ps3) (.Constant (.int 0) jj ps4) ps5) ps6, .Name y ps7] x1 ps8) scope clos pm (.ref c') ctv) ⟨[.int i t], []⟩ = pure [(y, .int i t)])
    (hcl : clos.lookup r = some cr) (hcell : s.heap.IsCell cr (some (.ref p))) (hp : s.heap.IsList p us.toArray) (h0 : 0 ≤ i) (hi : us[i.toNat]? = some (.ref tp)) (hl : us.length ≤ 16777216) (ht : IsTup s.heap tp its.toArray) (hits : its[0]? = some (.int a ta)) (hit2 : its.length ≤ 16777216)
    (hdy : (y == ("__debug__" : Str)) = false := by decide) (hdr : (r == ("__debug__" : Str)) = false := by decide) (hcr : (r == ("__classdict__" : Str)) = false := by decide) :
    wpAny (model P w) A (call (.ref f) [.int i t]) (PySem.W.KeyPure (.tuple [.int (-a), .int i]) s) (fun _ _ => False) s := by
  have rc : codeAny (model P w) A (.call (.ref f) ⟨[.int i t], []⟩) (fun z s' => match z with | .ok (.ret u) => PySem.W.KeyPure (.tuple [.int (-a), .int i]) s u s' | _ => False) s := by
    refine PySem.W.kla_callFunE hd hf rfl S.co S.gen rfl hc ?_
    rw [hb]
    refine wpAny_pure (wpAny_newFunctionEnv S.nc (fun z hz => by rw [List.mem_singleton.mp hz]; exact S.par) (fun h₁ hns hsb => ⟨nl.fresh _ hsb, ?_⟩) S.kind)
    have kp : ∀ b o, s.heap.get? b = some o → h₁.get? b = some o := fun b o e => hsb.extBut b o (Nat.ne_of_lt (Heap.lt_size e)) (Heap.get?_push_of_some _ e)
    have e0 : [(y, Value.int i t)].reverse.lookup y = some (.int i t) := by simp
    have ir : (its.toArray)[0]? = some (.int a ta) := by simpa using hits
    refine PySem.W.kla_codeExpr (wpAny_Tuple_spliced (Calls.spliced_cons (UnaryOp_ (Subscript_ (Subscript_ (wpAny_Name (wpAny_loadName_free S.kind S.cap hcl (hcell.keeps kp) (wpAny_Name (wpAny_loadName_local S.kind S.par hns e0 ?_) hdy) hcr) hdr))))))
    have hp' : h₁.IsList p us.toArray := let ⟨o, e, r⟩ := hp; ⟨o, kp _ _ e, r⟩
    have hlt := (List.getElem?_eq_some_iff.mp hi).1
    refine item_listR hp' h0 (by omega) (x := .ref tp) (by simpa using hi) (wpAny_Constant_int ?_) (by rfl)
    refine tail_any (ht.keeps kp).typeIs slot_tuple_getitem.lookup (getItem_tuple (j := 0) (ht.keeps kp) (by omega) (by omega) ?_ ir ?_) (by rfl)
    · have := (List.getElem?_eq_some_iff.mp hits).1
      rw [seqIndex_of (by omega) (by rw [List.size_toArray]; omega)]
      rfl
    refine neg_int (Calls.spliced_cons (wpAny_Name (wpAny_loadName_local S.kind S.par hns e0 (Calls.spliced_nil ⟨by show 2 ≤ sizeLine; decide, ?_⟩)) hdy))
    refine ⟨_, _, rfl, fun b o e => Heap.get?_push_of_some _ (kp b o e), ?_⟩
    exact .tuple (as := [] ++ ([] ++ [])) (Heap.get?_push_size _ rfl) rfl rfl (.cons (.int _ _) (.cons (.int _ _) .nil))
  refine wpAny_call (codeAny_mono rc fun z s' hq => ?_)
  cases z with
  | error e => exact hq.elim
  | ok fl =>
    cases fl with
    | ret u => exact hq
    | next => exact hq.elim
    | brk => exact hq.elim
    | cont => exact hq.elim
end
end L2
namespace Wm
open PySem PySem.Spec PyProof.Rows L2
open Rep (rep)
open Own (own)
variable [TabT]
section
variable {X : Cx} {pins : List (Addr × Obj)} {σ : L2.St} {H : Hp} {s : Shared}
/-- a lambda is made; the table may have grown, all else stays -/
theorem lam_mk {c P : Addr} {params : Arguments} {body : Expr} {scope : Scope} {pos : Pos} {E : Value → Shared → Prop} {Q : Value → Shared → Prop} (I : Inv X pins σ H s) (TB : LamX.TabB X.base X.mg c P) (hcode : X.env.code = .ref c)
    (hm : (P, X.env.qual ++ "<lambda>") ∈ TabT.T) (hu : ∀ p ∈ TabT.T, p.1 = P → p.2 = X.env.qual ++ "<lambda>") (hT : LamX.Tabs TabT.T H) (hdef : defaultsOf params X.env = ([], [])) (hfree : ∀ y ∈ scope.names, y.2 = .free → ∃ c, X.env.cells.lookup y.1 = some c)
    (h : ∀ (f c' : Addr) (pm ctv : Value) (H1 : Hp) (s' : Shared), Inv X pins σ H1 s' → Same H H1 → LamX.Tabs TabT.T H1 →
      s'.heap.get? f = some (PySem.W.kla_obj "<lambda>" (X.env.qual ++ "<lambda>") params body scope (cloFrom X.env.cells scope.names []) pm c' ctv) → s'.heap.CodeRec (.ref c') (X.env.qual ++ "<lambda>") → Q (.ref f) s') :
    wpAny (model X.prog X.w) X.A (eval (.Lambda params body scope pos) X.env) Q E s := by
  obtain ⟨ps, hP, ht, ha⟩ := hT _ hm
  have oP := I.hok P _ hP
  refine PySem.W.kla_eval hdef ?_
  cases hc : codeAmong pos ps.toList with
  | some cv =>
    obtain ⟨c', e, hco⟩ := ha pos cv hc
    subst e
    obtain ⟨⟨oc, vs, t, k1, k2, k3⟩, _, _⟩ := I.hok c' _ hco
    refine PySem.W.kla_makeFunctionHit (mg := X.mg) (c := c) (P := P) (ps := ps) (closure_ok hfree) I.ok.glob (I.mod.glob.keeps I.bk) hcode (TB.code.keeps I.bk) oP ht hc (TB.bm.keeps I.bk) fun ctv h' tk hx hsz => ?_
    have up : ∀ {o : Obj} (b : Addr) (u : Obj), s.heap.get? b = some u → (h'.push o).get? b = some u := fun b u e => Heap.get?_push_of_some _ (hx b u e)
    exact h _ c' _ ctv H _ (I.kept up) (Same.refl H) hT (Heap.get?_push_size _ rfl) ⟨c', oc, vs, t, rfl, up _ _ k1, k2, k3⟩
  | none =>
    refine PySem.W.kla_makeFunction (mg := X.mg) (c := c) (P := P) (ps := ps) (closure_ok hfree) I.ok.glob (I.mod.glob.keeps I.bk) hcode (TB.code.keeps I.bk) oP ht hc TB.gP (TB.bm.keeps I.bk) fun c' ctv h' tk hx hge hlt hrec htb => ?_
    obtain ⟨c2, oc, vs, t, e2, k1, k2, k3⟩ := hrec
    cases e2
    have nC : H c' = none := I.hok.fresh hge
    have nPc : P ≠ c' := ne_of_none hP nC
    have J := LamX.inv_table (q := X.env.qual ++ "<lambda>") (t' := tk) (more := #[rawInt pos.line, rawInt pos.col, .ref c']) (h' := h'.push (PySem.W.kla_obj "<lambda>" (X.env.qual ++ "<lambda>") params body scope (cloFrom X.env.cells scope.names []) ((X.mg "__name__").getD .none) c' ctv)) I hP
      (fun b o hb e => Heap.get?_push_of_some _ (hx b o hb e)) (Heap.get?_push_of_some _ htb) hge ⟨oc, vs, t, Heap.get?_push_of_some _ k1, k2, k3⟩
    have to : ∀ b o, H b = some o → b ≠ P → upd (upd H P (.tbl (ps ++ #[rawInt pos.line, rawInt pos.col, .ref c']))) c' (LamX.CodeO c' (X.env.qual ++ "<lambda>")) b = some o := fun b o e n => by
      rw [upd_ne (ne_of_none e nC), upd_ne n]
      exact e
    have atP : upd (upd H P (.tbl (ps ++ #[rawInt pos.line, rawInt pos.col, .ref c']))) c' (LamX.CodeO c' (X.env.qual ++ "<lambda>")) P = some (.tbl (ps ++ #[rawInt pos.line, rawInt pos.col, .ref c'])) := by rw [upd_ne nPc, upd_same]
    have coP : ∀ b z, H b = some (LamX.CodeO b z) → b ≠ P := fun b z e k => LamX.codeO_ne ps (Option.some.inj (e.symm.trans (by rw [k]; exact hP)))
    refine h _ c' _ ctv _ _ J (fun b o e => ?_) (fun p hp => ?_) (Heap.get?_push_size _ rfl) ⟨c', oc, vs, t, rfl, Heap.get?_push_of_some _ k1, k2, k3⟩
    · by_cases hb : b = P
      · subst hb
        rw [hP] at e
        exact .inr ⟨⟨ps, (Option.some.inj e).symm⟩, _, atP⟩
      · exact .inl (to b o e hb)
    · obtain ⟨ps2, a1, a2, a3⟩ := hT p hp
      by_cases hb : p.1 = P
      · rw [hu p hp hb, hb]
        have eL : (ps ++ #[rawInt pos.line, rawInt pos.col, .ref c']).toList = ps.toList ++ [rawInt pos.line, rawInt pos.col, .ref c'] := by simp
        refine ⟨_, atP, by rw [eL]; exact PySem.TriplesOk_snoc _ _ _ _ ht, fun p' cv hcv => ?_⟩
        rw [eL] at hcv
        rcases LamX.among_app _ ht hcv with z | z
        · obtain ⟨b, e1, e2⟩ := ha p' cv z
          exact ⟨b, e1, to b _ e2 (coP b _ e2)⟩
        · exact ⟨c', z, upd_same⟩
      · refine ⟨ps2, to _ _ a1 hb, a2, fun p' cv hcv => ?_⟩
        obtain ⟨b, e1, e2⟩ := a3 p' cv hcv
        exact ⟨b, e1, to b _ e2 (coP b _ e2)⟩
end
omit [TabT] in
omit [TabT] in
/-- the level of row k, the key's order -/
def lv0 (rs : List (Int × Str)) (k : Int) : Int := ((rs[k.toNat]?).map (·.1)).getD 0
omit [TabT] in
def keyLe (rs : List (Int × Str)) (a b : Int) : Bool := leP (-(lv0 rs a), a) (-(lv0 rs b), b)
omit [TabT] in
def sortOwn (rs : List (Int × Str)) (xs : List Int) : Rs (List Int) := if ∀ k ∈ xs, 0 ≤ k ∧ k < (rs.length : Int) then .ok (xs.mergeSort (keyLe rs)) else .no
omit [TabT] in
theorem each_ints : ∀ {as : List Int} {us : List Value}, Vals (as.map V.int) us → PySem.W.EachIs (fun u (a : Int) => ∃ t, u = Value.int a t) us as
  | [], _, .nil => .nil
  | _ :: _, _, .cons h t => .cons h (each_ints t)
omit [TabT] in
theorem ints_each : ∀ {as : List Int} {us : List Value}, PySem.W.EachIs (fun u (a : Int) => ∃ t, u = Value.int a t) us as → Vals (as.map V.int) us
  | _, _, .nil => .nil
  | _, _, .cons h t => .cons h (ints_each t)
/-- the code object of the def under way, its table -/
structure LamAt (X : Cx) (cc P : Addr) : Prop where
  tb : LamX.TabB X.base X.mg cc P
  code : X.env.code = .ref cc
  mem : (P, X.env.qual ++ "<lambda>") ∈ TabT.T
  un : ∀ p ∈ TabT.T, p.1 = P → p.2 = X.env.qual ++ "<lambda>"
section
variable {X : Cx} {F : Fx} {c : Ctx} {ma : Ctx.T c → Rs (List Int)} {e : Expr} {p pos lpos kpos : Pos} {x y r : Str} {ps1 ps2 ps3 ps4 ps5 ps6 ps7 ps8 : Pos} {jj x1 : Nat} {params : Arguments} {scope : Scope}
/-- sorted(xs, key=lambda y: (-r[y][0], y)) -/
theorem e_sortKey {i k : Nat} {cc P : Addr} (v : Var c (.bo i (List (Int × Str)))) (hK : F.wd.K = X.K) (hr : Room (k + 2) X.A) (LA : LamAt X cc P)
    (S : KeyScope scope y r) (hN : X.N[i]? = some r) (hrc : X.env.scope.names.lookup r = some .cell) (hdef : defaultsOf params X.env = ([], []) := by rfl)
    (hb : ∀ (q : Str) (cl : List (Str × Addr)) (pm cv ctv u : Value), bindArgs (PySem.W.kla_fn "<lambda>" q params (.Tuple [.UnaryOp .USub (.Subscript (.Subscript (.Name r ps1) (.Name y ps2) ps3) (.Constant (.int 0) jj ps4) ps5) ps6, .Name y ps7] x1 ps8) scope cl pm cv ctv) ⟨[u], []⟩ = pure [(y, u)])
    (hg : Gl X x) (hm : X.mg x = none) (hv : bootBuiltins x = some (.builtin "sorted")) (ha : PE X e (tX F kB c ma)) (hn : x ≠ "__name__" := by decide) (hdb : (x == ("__debug__" : Str)) = false := by decide)
    (hdy : (y == ("__debug__" : Str)) = false := by decide) (hdr : (r == ("__debug__" : Str)) = false := by decide) (hcr : (r == ("__classdict__" : Str)) = false := by decide)
    (he : starEach (e :: []) X.env = (false, eval e X.env) :: starEach [] X.env := by rfl) (he2 : backTo pos (starEach (e :: []) X.env) = (false, eval e X.env) :: backTo pos (starEach [] X.env) := by rfl) (hpl : (backTo pos (starEach (e :: []) X.env)).any (·.1) = false := by rfl) :
    PE X (.Call (.Name x p) [e] [⟨some "key", .Lambda params (.Tuple [.UnaryOp .USub (.Subscript (.Subscript (.Name r ps1) (.Name y ps2) ps3) (.Constant (.int 0) jj ps4) ps5) ps6, .Name y ps7] x1 ps8) scope lpos, kpos⟩] pos) (tX F kO c fun γ => (ma γ).bind fun xs => sortOwn (v.get γ) xs) := by
  refine ⟨fun pins s σ H Q I ⟨H0, G0, G, os, γ, st, pq⟩ => ?_⟩
  refine wpAny_Call_Name_kw (ld_blt I hg hm hv ?_ hn hdb)
  obtain ⟨pr, orr, hσ, hpr, hown⟩ := v.bo st.r
  have hrows := st.f.h.get hpr (Own.pl hown)
  have tbH := st.f.tb st.t
  refine PyProof.Rows.callWith_kw (thn ((pa_cons ha pa_nil he).run pos pins s σ H (fun vs H1 => ∃ u G1 xs, vs = [u] ∧ Fr H G H1 G1 ∧ (kB (wd := F.wd)).rel H H1 G1 u xs ∧ Post F.W (kO (wd := F.wd)) σ H1 G1 Q (sortOwn (v.get γ) xs)) I ⟨H0, G0, G, os, γ, st, pq.step kB fun u H1 G1 a f1 r1 p1 => ⟨u, G1, a, rfl, f1, r1, p1⟩⟩) fun us s1 ⟨vs, H1, I1, r1, u, G1, xs, ev, f1, rel1, p1⟩ => ?_) he2 hpl (by rfl) (by rfl)
  subst ev
  show wpAny _ _ (evalAll ((do let v ← eval (.Lambda params (.Tuple [.UnaryOp .USub (.Subscript (.Subscript (.Name r ps1) (.Name y ps2) ps3) (.Constant (.int 0) jj ps4) ps5) ps6, .Name y ps7] x1 ps8) scope lpos) X.env; standAt pos; pure v) :: [])) _ _ s1
  have tb1 := f1.tb tbH
  obtain ⟨crr, hcrr⟩ := I.ok.has r (.inl hrc)
  have hfree : ∀ z ∈ scope.names, z.2 = .free → ∃ c, X.env.cells.lookup z.1 = some c := fun z hz e => by rw [S.fr z hz e]; exact ⟨crr, hcrr⟩
  refine wpAny_evalAll_cons (wpAny_bind (lam_mk I1 LA.tb LA.code LA.mem LA.un tb1 hdef hfree fun f c' pm ctv H2 s2 I2 sm tb2 hf hcd => wpAny_bind (wpAny_standAt (wpAny_pure (wpAny_evalAll_nil ?_)))))
  have hall : ∀ k ∈ xs, 0 ≤ k ∧ k < ((v.get γ).length : Int) := by
    unfold sortOwn at p1
    by_cases z : ∀ k ∈ xs, 0 ≤ k ∧ k < ((v.get γ).length : Int)
    · exact z
    · rw [if_neg z] at p1; exact p1.elim
  have p2 : Post F.W (kO (wd := F.wd)) σ H1 G1 Q (.ok (xs.mergeSort (keyLe (v.get γ)))) := by
    unfold sortOwn at p1
    rw [if_pos hall] at p1
    exact p1
  obtain ⟨q, o, eu, hq, wv, eo, lw, rw1⟩ := rel1
  subst eu; subst eo
  obtain rfl := reps.ints rw1
  obtain rfl := Vals.ref1 r1
  obtain ⟨vr, er, lr, rr⟩ := hown
  subst er
  have hr2 : H2 pr = some (.lst vr) := sm.v (f1.h.v hrows)
  obtain ⟨its, rv, pl, hz⟩ := I2.list (.of (sm.v hq))
  obtain ⟨rits, rrv, rpl, rz⟩ := I2.list (.of hr2)
  have look : ∃ cr, (cloFrom X.env.cells scope.names []).lookup r = some cr ∧ s2.heap.IsCell cr (some (.ref pr)) := by
    obtain ⟨m, _, hl⟩ := I2.loc
    obtain ⟨w, rw', q⟩ := hl i r (.ref pr) hN hσ (.inr (.inl hrc))
    obtain rfl : w = Value.ref pr := rw'
    rcases q with ⟨k', _⟩ | ⟨_, c3, e', z⟩
    · have k' : X.env.scope.names.lookup r = some .local := k'
      rw [hrc] at k'; cases k'
    · obtain ⟨c4, h4⟩ := mem_lookup (cloFrom_has (cells := X.env.cells) (acc := []) (PySem.mem_of_lookup S.cap))
      refine ⟨c4, h4, ?_⟩
      rcases cloFrom_mem (PySem.mem_of_lookup h4) with hm | ⟨h1, h2⟩
      · cases hm
      · rw [h2, e']; exact z
  obtain ⟨cr, hcl, hcell⟩ := look
  have ee := each_ints rv
  have hz2 : xs.length ≤ sizeLine := by rw [List.length_map] at hz; exact hz
  show wpAny _ _ (call (.builtin "sorted") [.ref q] [(Str.ofString "key", .ref f)]) (EP X pins σ Q) X.xe s2
  refine PySem.W.sorted_key_data (b := false) (fun a : Int => .tuple [.int (-(lv0 (v.get γ) a)), .int a]) pl.isList ee ?_ ?_ hz2 ?_ (ksk_s1 _ _) (fun _ => ksk_l1 _ _) (fun _ => ksk_t1 _ _) ?_ ?_
  · intro d hd d' hd'
    obtain ⟨a, _, rfl⟩ := List.mem_map.mp hd
    obtain ⟨b, _, rfl⟩ := List.mem_map.mp hd'
    exact SortT.al (α := Int × Int) (-(lv0 (v.get γ) a), a) (-(lv0 (v.get γ) b), b)
  · exact PySem.W.Sortable.tuples fun b => ⟨_, _, rfl⟩
  · intro a _
    have h1 := hr.units
    have h2 := PyEq.depth (α := Int × Int) (-(lv0 (v.get γ) a), a)
    have h3 : PyEq.dep (Int × Int) ≤ 60 := by decide
    have h4 : (PyData.tuple [.int (-(lv0 (v.get γ) a)), .int a]).depth ≤ PyEq.dep (Int × Int) := h2
    show X.A.units + 2 + (PyData.tuple [.int (-(lv0 (v.get γ) a)), .int a]).depth < cLine
    omega
  · rintro u a ⟨t, rfl⟩ hin h tk kp
    obtain ⟨h0, h1⟩ := hall a hin
    obtain ⟨vk, hvk, hrk⟩ := rr.get (i := a.toNat) (List.getElem?_eq_getElem (by omega))
    obtain ⟨t0, o0, ev, eg, v1, v2, eo, e1, e2⟩ := hrk
    subst ev; subst eo
    obtain rfl : v1 = V.int _ := e1
    obtain ⟨w0, hw0, rw0⟩ := rrv.get hvk
    obtain rfl : w0 = Value.ref t0 := rw0
    obtain ⟨tits, trv, tpl, tz⟩ := I2.tuple (.of (sm.v (f1.h.v (st.f.gh.v eg))))
    obtain ⟨w1, hw1, ⟨ta, rfl⟩⟩ := trv.get (i := 0) rfl
    have hlv : lv0 (v.get γ) a = ((v.get γ)[a.toNat]'(by omega)).1 := by
      unfold lv0
      rw [List.getElem?_eq_getElem (by omega)]
      rfl
    obtain ⟨c9, oc, vs9, t9, ec, k1, k2, k3⟩ := hcd
    have := key_call (s := { s2 with heap := h, toks := tk }) (P := X.prog) (w := X.w) (t := t) (i := a) hr.in1.in1.depth (I2.nolimit.keeps kp) S (kp _ _ hf) ⟨c9, oc, vs9, t9, ec, kp _ _ k1, k2, k3⟩ (hb _ _ _ _ _ _) hcl (let ⟨o, e, z⟩ := hcell; ⟨o, kp _ _ e, z⟩) (let ⟨o, e, z⟩ := rpl.isList; ⟨o, kp _ _ e, z⟩) h0 hw0 (by rw [← rrv.length]; exact rz) (tpl.keeps kp) hw1 (by rw [← trv.length]; exact tz) hdy hdr hcr
    rw [← hlv] at this
    exact this
  · intro out cc2 h' tk kp _ hobj hlen hout
    have ek : PySem.W.dataLe false (fun a : Int => PyData.tuple [.int (-(lv0 (v.get γ) a)), .int a]) = keyLe (v.get γ) := by
      rw [PySem.W.dataLe_ii (fun a => -(lv0 (v.get γ) a)) fun a => a]
      rfl
    rw [ek] at hout
    have ll : ((xs.mergeSort (keyLe (v.get γ))).map V.int).length ≤ sizeLine := by rw [List.length_map, List.length_mergeSort]; exact hz2
    have nd : H2 (s2.heap.objs.size + 1) = none := I2.hok.fresh (Nat.le_succ _)
    have gh2 := f1.gh.trans sm
    have fL : Fr H1 G1 H2 G1 := ⟨sm, Same.refl _, gh2, fun _ _ e => .inl e, fun _ => tb2⟩
    refine ⟨.ref _, upd H2 (s2.heap.objs.size + 1) (.lst ((xs.mergeSort (keyLe (v.get γ))).map V.int)), I2.laid (t' := tk) kp (Nat.le_succ _) ⟨ll, _, cc2, ints_each hout, hobj⟩, rfl, ?_⟩
    exact p2 _ _ _ (fL.trans (Fr.alloc gh2 nd)) ⟨_, _, rfl, sm.free nd, gh2.free nd, upd_same, _, rfl, ll, reps.of_ints⟩
end
section
variable [TabT] {P : Program} {w : World} {K : PySem.W.Frag} {mg : Str → Option Value} {base : Heap}
/-- a def whose code object is told -/
theorem fn_okL {ρ : Type} {wd : Wd} {kr : Kd wd ρ} {Γ : Ctx} {m : Ctx.T Γ → Rs ρ} {x qual : Str} {st : Stmt} {f cc P' : Addr} {fd : FuncData} {N ps : List Str} {k : Nat} (hc : fd.code = .ref cc) (TB : LamX.TabB base mg cc P') (hm : (P', (qual ++ ".<locals>.") ++ "<lambda>") ∈ TabT.T) (hu : ∀ p ∈ TabT.T, p.1 = P' → p.2 = (qual ++ ".<locals>.") ++ "<lambda>") (F : Fun K x qual st f fd) (S : FnScope N ps (defScope st)) (hl : Γ.length = ps.length)
    (body : ∀ (A : Around) (outer : List Env) (s : Shared) (H : Hp) (E : XK), Room k (A.deeper (envOfC qual (defScope st) s.heap.objs.size f (.ref cc))) → LamAt (cxOf (L2N.CX P w) P w K mg base N qual (defScope st) f (.ref cc) A outer s H E) cc P' →
      PSs (cxOf (L2N.CX P w) P w K mg base N qual (defScope st) f (.ref cc) A outer s H E) (defBody st) (tT ⟨wd, Sl.all N.length, fun cls d _ H => E cls d H⟩ kr Γ m)) : FnOk P w K mg base (L2N.CX P w) (k + 1) f fd ps (spF wd kr Γ m) := by
  have hpl : ps.length ≤ N.length := by have := congrArg List.length S.pre; rw [List.length_take] at this; omega
  obtain ⟨oc, od, kV, doc, pm, an, cdv, ct, osl, rfl, lk, hcd⟩ := F.ex
  obtain rfl : cdv = .ref cc := hc
  refine fn_of lk hcd S (fun vs H Q E h => h.1.trans hl) fun A outer s H vs Q E hr h => ⟨_, body A outer s H E hr ⟨TB, rfl, hm, hu⟩, ?_⟩
  obtain ⟨h1, G, γ, gh, tb, ra, p⟩ := h
  refine ⟨H, G, G, [], γ, ⟨?_, Fr.refl gh, List.nodup_nil, fun _ z => (by cases z), RA.r (fun k v e => start_get e) ra, tb⟩, ?_⟩
  · refine ⟨?_, trivial⟩
    show _ = N.length
    unfold L2.start
    rw [List.length_append, List.length_map, List.length_replicate]
    omega
  · cases e : m γ with
    | no => rw [e] at p; exact p
    | ex x => rw [e] at p; exact fun d σ H' G' _ => p d H' G'
    | ok r => rw [e] at p; exact fun H' G' v f q => p H' G' v f q
end
end Wm
set_option Elab.async false
set_option linter.all false
set_option maxRecDepth 100000
set_option maxHeartbeats 4000000
/-! tuples of any length, of any kinds -/
namespace Wm
open PySem PySem.Spec PyProof.Rows L2
open Rep (rep)
open Own (own)
structure Nt (α : Type) where
  v : α
class NtR (α : Type) where
  reps : Wd → Hp → List V → α → Prop
  mono : ∀ {wd G G' vs a}, Same G G' → reps wd G vs a → reps wd G' vs a
instance : NtR Unit := ⟨fun _ _ vs _ => vs = [], fun _ h => h⟩
instance {α β : Type} [Rep α] [NtR β] : NtR (α × β) := ⟨fun wd G vs x => ∃ v vs', vs = v :: vs' ∧ rep wd G v x.1 ∧ NtR.reps wd G vs' x.2, fun s ⟨v, vs', e, h, t⟩ => ⟨v, vs', e, Rep.mono s h, NtR.mono s t⟩⟩
instance {α : Type} [NtR α] : Own (Nt α) where
  own := fun wd G o x => ∃ vs, o = .tup vs ∧ vs.length ≤ sizeLine ∧ NtR.reps wd G vs x.v
  pl := fun ⟨_, e, _⟩ => by subst e; exact Pl.tup
  mono := fun s ⟨vs, e, l, h⟩ => ⟨vs, e, l, NtR.mono s h⟩
instance {α : Type} [NtR α] : LkO (Nt α) := ⟨fun ⟨_, e, _⟩ z => by rw [e] at z; cases z⟩
class NtEq (α : Type) [NtR α] [DecidableEq α] where
  ds : α → List PyData
  dep : Nat
  dp : ∀ {wd : Wd} {K : PySem.W.Frag} {H G : Hp} {vs : List V} {a : α}, SameL G H → NtR.reps wd G vs a → DpAll K H vs (ds a)
  lay : ∀ {wd : Wd} {G : Hp} {vs : List V} {a : α}, NtR.reps wd G vs a → PyData.canLayAll0 (ds a) = true
  depth : ∀ a, PyData.depthAll (ds a) ≤ dep
  eqv : ∀ a b, PyData.eqvAll (ds a) (ds b) = decide (a = b)
instance : NtEq Unit where
  ds := fun _ => []
  dep := 0
  dp := fun _ h => by rw [show _ = [] from h]; exact .nil
  lay := fun _ => by unfold PyData.canLayAll0; rfl
  depth := fun _ => by unfold PyData.depthAll; exact Nat.zero_le _
  eqv := fun _ _ => by unfold PyData.eqvAll; rfl
instance {α β : Type} [Rep α] [DecidableEq α] [PyEq α] [NtR β] [DecidableEq β] [NtEq β] : NtEq (α × β) where
  ds := fun x => PyEq.d x.1 :: NtEq.ds x.2
  dep := max (PyEq.dep α) (NtEq.dep β)
  dp := fun s ⟨v, vs', e, h, t⟩ => by subst e; exact .cons (PyEq.dp s h) (NtEq.dp s t)
  lay := fun ⟨v, vs', e, h, t⟩ => by
    unfold PyData.canLayAll0
    rw [PyEq.lay h, NtEq.lay t]; rfl
  depth := fun x => by
    unfold PyData.depthAll
    have h1 := PyEq.depth x.1
    have h2 := NtEq.depth x.2
    omega
  eqv := fun x y => by
    unfold PyData.eqvAll
    rw [PyEq.eqv, NtEq.eqv]
    obtain ⟨a, b⟩ := x
    obtain ⟨a', b'⟩ := y
    by_cases h1 : a = a'
    · by_cases h2 : b = b'
      · rw [decide_eq_true h1, decide_eq_true h2, decide_eq_true (by rw [h1, h2])]; rfl
      · rw [decide_eq_true h1, decide_eq_false h2, decide_eq_false fun z => h2 (Prod.mk.inj z).2]; rfl
    · rw [decide_eq_false h1, decide_eq_false fun z => h1 (Prod.mk.inj z).1]; rfl
instance {α : Type} [DecidableEq α] : DecidableEq (Nt α) := fun a b => if h : a.v = b.v then .isTrue (by cases a; cases b; congr) else .isFalse fun z => h (by rw [z])
instance {α : Type} [NtR α] [DecidableEq α] [NtEq α] : PyEq (Nt α) where
  d := fun x => .tuple (NtEq.ds x.v)
  dep := NtEq.dep α + 1
  dp := fun s ⟨p, o, e1, e2, vs, e3, e4, r⟩ => by
    subst e1; subst e3
    exact .tup (.of (s.v e2)) (NtEq.dp s r)
  lay := fun ⟨p, o, e1, e2, vs, e3, e4, r⟩ => by unfold PyData.canLay0; exact NtEq.lay r
  depth := fun x => by unfold PyData.depth; exact Nat.succ_le_succ (NtEq.depth x.v)
  eqv := fun a b => by
    unfold PyData.eqv
    rw [NtEq.eqv]
    by_cases h : a.v = b.v
    · rw [decide_eq_true h, decide_eq_true (by cases a; cases b; congr)]
    · rw [decide_eq_false h, decide_eq_false fun z => h (by rw [z])]
variable [TabT]
theorem ty_nt {wd : Wd} {K : PySem.W.Frag} {α : Type} [NtR α] {B H G : Hp} {v : V} {a : Nt α} (s : SameL G H) (h : (kF (wd := wd)).rel B H G v a) : TyX K H v (.type "tuple") := by
  obtain ⟨q, o, e1, e2, vs, e3, e4, r⟩ := h
  subst e1; subst e3
  exact .base (.tup (s.v e2))
/-- the place i of such a tuple is g of it -/
def PjOk {α β : Type} [NtR α] [Rep β] (k : Nat) (g : α → β) : Prop := ∀ {wd : Wd} {G : Hp} {vs : List V} {x : α}, NtR.reps wd G vs x → ∃ v, vs[k]? = some v ∧ rep wd G v (g x)
theorem pj_z {α β : Type} [Rep α] [NtR β] : PjOk 0 (fun x : α × β => x.1) := fun ⟨v, vs', e, h, _⟩ => ⟨v, by rw [e]; rfl, h⟩
theorem pj_s {α β δ : Type} [Rep α] [NtR β] [Rep δ] {k : Nat} {g : β → δ} (h : PjOk k g) : PjOk (k + 1) (fun x : α × β => g x.2) := fun ⟨v, vs', e, _, t⟩ => by
  obtain ⟨u, h1, h2⟩ := h t
  exact ⟨u, by rw [e]; exact h1, h2⟩
omit [TabT] in
theorem atI_nat {α : Type} {xs : List α} {k : Nat} {v : α} (h : xs[k]? = some v) : atI xs (k : Int) = some v := by
  have hl := (List.getElem?_eq_some_iff.mp h).1
  unfold atI ixN
  rw [if_pos (by omega), if_pos (by omega)]
  simpa using h
section

variable {X : Cx} {F : Fx} {c : Ctx} {α β δ : Type} {e : Expr} {es : List Expr}
abbrev tN (F : Fx) {α : Type} [NtR α] (n : Nat) (c : Ctx) (m : Ctx.T c → Rs α) : TA := tM F (fun _ G vs as => vs.length = n ∧ NtR.reps F.wd G vs as) c m
theorem n_nil : PA X [] (tN F 0 c fun _ => .ok ()) := tM_nil fun _ _ => ⟨rfl, rfl⟩
theorem n_cons [Rep α] [NtR β] {n : Nat} {m : Ctx.T c → Rs α} {ms : Ctx.T c → Rs β} (h : PE X e (tX F kF c m)) (hs : PA X es (tN F n c ms)) (he : starEach (e :: es) X.env = (false, eval e X.env) :: starEach es X.env := by rfl) :
    PA X (e :: es) (tN F (n + 1) c fun γ => (m γ).bind fun a => (ms γ).bind fun g => .ok (a, g)) :=
  pa_mono (pa_cons h hs he) fun σ H Q q => tM_cons (f := fun a g => (a, g)) (fun r1 r2 => ⟨congrArg (· + 1) r2.1, _, _, rfl, r1, r2.2⟩) q
theorem e_nt [NtR α] {n : Nat} {m : Ctx.T c → Rs α} {pos : Pos} {x1} (h : PA X es (tN F n c m)) (hn : n ≤ 1000 := by decide) : PE X (.Tuple es x1 pos) (tX F kF c fun γ => (m γ).bind fun as => .ok (Nt.mk as)) :=
  pe_mono (pe_tup h) fun σ H Q q => tM_post q fun vs H1 G1 g gh ⟨l, r⟩ p => ⟨by rw [l]; exact small_n hn, fun d nd => p _ _ _ ((Fr.alloc gh nd).freeze nd (gh.free nd) upd_same) ⟨d, _, rfl, upd_same, vs, rfl, by rw [l]; exact small_n hn, NtR.mono (Same.upd' (Same.refl _) (gh.free nd)) r⟩⟩
theorem e_nti [NtR α] [Rep β] {g : α → β} {a : Expr} {m : Ctx.T c → Rs (Nt α)} {i : Int} {k j : Nat} {p2 pos : Pos} (hg : PjOk k g) (hi : i = (k : Int)) (h : PE X a (tX F kF c m)) (hp : PlainIx (.Constant (.int i) j p2) := by exact fun _ _ => rfl) :
    PE X (.Subscript a (.Constant (.int i) j p2) pos) (tX F kF c fun γ => (m γ).bind fun x => .ok (g x.v)) :=
  pe_mono (pe_ix ix_tup h pe_int hp) fun σ H Q ⟨H0, G0, G, os, γ, st, p⟩ => ⟨H0, G0, G, os, γ, st, p.step kF fun v H1 G1 x f1 ⟨q, o, e1, e2, vs, e3, e4, r⟩ p1 => by
    subst e3
    obtain ⟨u, h1, h2⟩ := hg r
    exact ⟨q, _, i, u, e1, rfl, .of (f1.gh.v e2), by rw [hi]; exact atI_nat h1, p1 _ _ _ (Fr.refl f1.gh) h2⟩⟩
omit [TabT] in
omit [TabT] in
/-- len of such a tuple -/
def NtLen (α : Type) [NtR α] (n : Nat) : Prop := ∀ {wd : Wd} {G : Hp} {vs : List V} {x : α}, NtR.reps wd G vs x → vs.length = n
omit [TabT] in
theorem nl_z : NtLen Unit 0 := fun h => by rw [show _ = [] from h]; rfl
omit [TabT] in
theorem nl_s {α β : Type} [Rep α] [NtR β] {n : Nat} (h : NtLen β n) : NtLen (α × β) (n + 1) := fun ⟨v, vs', e, _, t⟩ => by rw [e, List.length_cons, h t]
theorem m_lenN {wd : Wd} {K : PySem.W.Frag} [NtR α] {n : Nat} (hn : NtLen α n) : Sem1 (wd := wd) kF kF (fun x => (fun xs H Q => ∃ p ys, xs = [V.ref p] ∧ (SqL K H p ys ∨ SqT K H p ys) ∧ Q (.int ys.length) H : List V → Hp → VK → Prop) [x]) (fun (_ : Nt α) => .ok (n : Int)) := by
  intro W σ B H G x a Q gh ⟨q, o, e1, e2, vs, e3, e4, r⟩ p
  subst e1; subst e3
  exact ⟨q, vs, rfl, .inr (.of (gh.v e2)), by rw [hn r]; exact p _ _ _ (Fr.refl gh) rfl⟩
end
end Wm
set_option Elab.async false
set_option linter.all false
set_option maxRecDepth 100000
set_option maxHeartbeats 4000000
/-! dicts walked (locked meanwhile), frozen dicts looked at, == of dicts -/
namespace Wm
open PySem PySem.Spec PyProof.Rows L2
open Rep (rep)
open Own (own)
/-- a dict that is walked: locked -/
structure LV (κ α : Type) where
  d : Dct κ α
instance {κ α : Type} [Rep κ] [KeyT κ] [Rep α] : Own (LV κ α) where
  own := fun wd G o d => ∃ ps ob, o = .frz ob (.dK ps) ∧ ps.length ≤ sizeLine ∧ rkv wd G ps d.d.es
  pl := fun ⟨_, _, e, _⟩ => by subst e; exact ⟨(fun _ z => nomatch z), (fun _ z => nomatch z)⟩
  mono := fun s ⟨ps, ob, e, l, h⟩ => ⟨ps, ob, e, l, h.mono s⟩
instance {κ α : Type} [Rep κ] [KeyT κ] [Rep α] : LkO (LV κ α) := ⟨fun ⟨_, _, e, _⟩ z => by rw [e] at z; cases z⟩
/-! ### the lock -/
/-- entries that a lock leaves alone -/
inductive LkT : Ctx → Type 1 where
  | nil : LkT []
  | fz {i : Nat} {α : Type} [Rep α] {c : Ctx} (t : LkT c) : LkT (.fz i α :: c)
  | bo {i : Nat} {β : Type} [Own β] [LkO β] {c : Ctx} (t : LkT c) : LkT (.bo i β :: c)
  | ow {i : Nat} {β : Type} [Own β] {c : Ctx} (t : LkT c) : LkT (.ow i β :: c)
/-- the entry at the slot i is locked -/
inductive Lk (i : Nat) (κ α : Type) [Rep κ] [KeyT κ] [Rep α] : Ctx → Ctx → Type 1 where
  | bo {c : Ctx} (t : LkT c) : Lk i κ α (.bo i (DV κ α) :: c) (.bo i (LV κ α) :: c)
  | fv {c : Ctx} (t : LkT c) : Lk i κ α (.fz i (DV κ α) :: c) (.bo i (LV κ α) :: c)
  | fz {c : Ctx} (t : LkT c) : Lk i κ α (.fz i (Dct κ α) :: c) (.bo i (LV κ α) :: c)
  | ow {c : Ctx} (t : LkT c) : Lk i κ α (.ow i (Dct κ α) :: c) (.bo i (LV κ α) :: c)
  | sfz {j : Nat} {β : Type} [Rep β] {c c' : Ctx} (l : Lk i κ α c c') : Lk i κ α (.fz j β :: c) (.fz j β :: c')
  | sbo {j : Nat} {β : Type} [Own β] [LkO β] {c c' : Ctx} (l : Lk i κ α c c') : Lk i κ α (.bo j β :: c) (.bo j β :: c')
  | sow {j : Nat} {β : Type} [Own β] {c c' : Ctx} (l : Lk i κ α c c') : Lk i κ α (.ow j β :: c) (.ow j β :: c')
variable [TabT]
section
variable {X : Cx} {F : Fx} {c : Ctx} {κ α β ρ : Type} [Rep κ] [KeyT κ] [Rep α] {e o i f : Expr} {pos p apos cpos : Pos}
theorem e_kmap {α β : Type} {k1 : Kd F.wd α} {k2 : Kd F.wd β} {m : Ctx.T c → Rs α} {g : α → β} (ok : ∀ {H H' G G' : Hp} {v : V} {a : α}, Fr H G H' G' → k1.rel H H' G' v a → k2.rel H H' G' v (g a)) (h : PE X e (tX F k1 c m)) : PE X e (tX F k2 c fun γ => (m γ).bind fun a => .ok (g a)) :=
  pe_mono h fun σ H Q ⟨H0, G0, G, os, γ, st, p⟩ => ⟨H0, G0, G, os, γ, st, by
    cases e : m γ with
    | no => dsimp only at p; rw [e] at p; exact p
    | ex x => dsimp only at p; rw [e] at p; exact p
    | ok b =>
      dsimp only at p; rw [e] at p
      exact fun H' G' v f r => p H' G' v f (ok f r)⟩
/-- a frozen dict, looked at -/
theorem e_fdv {m : Ctx.T c → Rs (Dct κ α)} (h : PE X e (tX F kF c m)) : PE X e (tX F (kB (β := DV κ α)) c fun γ => (m γ).bind fun d => .ok (DV.mk d)) :=
  e_kmap (α := Dct κ α) (β := DV κ α) (k1 := kF) (k2 := kB) (g := DV.mk) (fun f ⟨q, o, e1, e2, ps, e3, e4, e5⟩ => by
    subst e3
    rcases f.gh q _ e2 with k | ⟨⟨ps', k⟩, _⟩ | ⟨ob, ps', k, k2⟩
    · exact ⟨q, _, e1, k, ps, .inl rfl, e4, e5⟩
    · cases k
    · cases k
      exact ⟨q, _, e1, k2, ps, .inr ⟨ob, rfl⟩, e4, e5⟩) h
/-- .. frozen, as a frozen view -/
theorem e_fdF {m : Ctx.T c → Rs (Dct κ α)} (h : PE X e (tX F kF c m)) : PE X e (tX F (kF (α := DV κ α)) c fun γ => (m γ).bind fun d => .ok (DV.mk d)) :=
  e_kmap (α := Dct κ α) (β := DV κ α) (k1 := kF) (k2 := kF) (g := DV.mk) (fun f ⟨q, o, e1, e2, ps, e3, e4, e5⟩ => ⟨q, o, e1, e2, ps, .inl e3, e4, e5⟩) h
theorem e_lvdv {m : Ctx.T c → Rs (LV κ α)} (h : PE X e (tX F kB c m)) : PE X e (tX F (kB (β := DV κ α)) c fun γ => (m γ).bind fun d => .ok (DV.mk d.d)) :=
  e_kmap (α := LV κ α) (β := DV κ α) (k1 := kB) (k2 := kB) (g := fun (d : LV κ α) => DV.mk d.d) (fun f ⟨q, o, e1, e2, ps, ob, e3, e4, e5⟩ => ⟨q, o, e1, e2, ps, .inr ⟨ob, e3⟩, e4, e5⟩) h
omit [TabT] in
theorem rkv.getk {wd : Wd} {G : Hp} : ∀ {ps : List (Key × V)} {es : List (κ × α)}, rkv wd G ps es → ∀ {i : Nat} {k : κ}, (es.map (·.1))[i]? = some k → ∃ p, ps[i]? = some p ∧ rep wd G (kV p.1) k
  | [], [], _, i, k, h => by simp at h
  | p :: ps, e :: es, ⟨⟨_, h2, _⟩, t⟩, i, k, h => by
    cases i with
    | zero =>
      have h' : some e.1 = some k := h
      cases h'
      exact ⟨p, rfl, h2⟩
    | succ i => exact t.getk (i := i) h
  | [], _ :: _, h, _, _, _ => h.elim
  | _ :: _, [], h, _, _, _ => h.elim
/-- the keys of a locked dict -/
theorem i_keys {tg : Expr} {m : Ctx.T c → Rs (LV κ α)} (h : PE X e (tX F kB c m)) : PI X tg e (tI F .h c fun γ => (m γ).bind fun d => .ok (d.d.es.map (·.1))) :=
  pi_mono (pi_keys h) fun σ H Rr q => tI_of q (fun v H0 H1 G1 b h0 gh ⟨d, o, e1, e2, ps, ob, e3, e4, r⟩ w => by
    subst e3
    refine ⟨d, ob, e1, .inl ⟨ps, e2, w _ ?_⟩⟩
    exact {
      stop := fun i H s hi => ⟨s.v e2, by rw [List.length_map] at hi; rw [r.len]; exact hi⟩
      go := fun i H a s ha => ⟨s.v e2, by
        have := (List.getElem?_eq_some_iff.mp ha).1
        rw [List.length_map] at this
        rw [r.len]; exact this⟩
      yld := fun i H G x H' a s g gh ha ⟨e, k, v, hk, hx⟩ => by
        subst e; subst hx
        obtain ⟨p, hp, hr⟩ := r.getk ha
        rw [hp] at hk
        cases hk
        exact ⟨G, Fr.refl gh, Rep.mono g hr⟩ }) fun _ _ z => nomatch z
end
section
variable {X : Cx} {F : Fx} {c : Ctx} {κ α : Type} [Rep κ] [KeyT κ] [Rep α]
/-- .. of a name -/
theorem i_keysV {tg : Expr} {i : Nat} (v : Var c (.bo i (LV κ α))) {x : Str} {pos : Pos} (hN : X.N[i]? = some x := by rfl) (hv : Vis X.env.scope x := by first | exact Or.inl rfl | exact Or.inr (Or.inl rfl) | exact Or.inr (Or.inr rfl))
    (hd : (x == ("__debug__" : Str)) = false := by decide) (hcd : (x == ("__classdict__" : Str)) = false := by decide) : PI X tg (.Name x pos) (tI F .z c fun γ => .ok ((v.get γ).d.es.map (·.1))) :=
  pi_mono (pi_keys (pe_var hN hv hd hcd)) fun σ H Rr ⟨H0, G0, G, os, γ, st, p⟩ => by
    obtain ⟨q, o, h1, h2, ps, ob, e3, e4, r⟩ := v.bo st.r
    subst e3
    refine ⟨.ref q, h1, q, ob, rfl, .inl ⟨ps, st.f.h.v h2, p H G _ (Fr.refl st.f.gh) ?_⟩⟩
    exact {
      stop := fun i H s hi => ⟨s.v h2, by rw [List.length_map] at hi; rw [r.len]; exact hi⟩
      go := fun i H a s ha => ⟨s.v h2, by
        have := (List.getElem?_eq_some_iff.mp ha).1
        rw [List.length_map] at this
        rw [r.len]; exact this⟩
      yld := fun i H G x H' a s g gh ha ⟨e, k, v, hk, hx⟩ => by
        subst e; subst hx
        obtain ⟨p, hp, hr⟩ := r.getk ha
        rw [hp] at hk
        cases hk
        exact ⟨G, Fr.refl gh, Rep.mono g hr⟩ }
end
section
variable {κ α : Type} [Rep κ] [KeyT κ] [Rep α] {wd : Wd} {H0 H G : Hp} {σ : L2.St} {i : Nat} {d : Addr} {ob : Obj} {ps : List (Key × V)}
omit [TabT] in
@[reducible] def Lk.go : ∀ {c c' : Ctx}, Lk i κ α c c' → Ctx.T c → Ctx.T c'
  | _, _, .bo _, γ => (⟨γ.1.d⟩, γ.2)
  | _, _, .fv _, γ => (⟨γ.1.d⟩, γ.2)
  | _, _, .fz _, γ => (⟨γ.1⟩, γ.2)
  | _, _, .ow _, γ => (⟨γ.1⟩, γ.2)
  | _, _, @Lk.sfz _ _ _ _ _ _ _ _ _ _ _ l, γ => (γ.1, l.go γ.2)
  | _, _, @Lk.sbo _ _ _ _ _ _ _ _ _ _ _ _ l, γ => (γ.1, l.go γ.2)
  | _, _, @Lk.sow _ _ _ _ _ _ _ _ _ _ _ l, γ => (γ.1, l.go γ.2)
omit [TabT] in
omit [TabT] in
/-- L may stand for what H has at d -/
def LkAt (H : Hp) (d : Addr) (ob : Obj) (ps : List (Key × V)) : Prop := ∀ o, H d = some o → o = .frz ob (.dK ps) ∨ o = .dK ps
omit [TabT] in
theorem LkT.r (h0 : LkAt H0 d ob ps) : ∀ {c : Ctx} (t : LkT c) {γ : Ctx.T c} {os : List Addr}, d ∉ os → R wd H0 σ H G c γ os → R wd (upd H0 d (.frz ob (.dK ps))) σ (upd H d (.frz ob (.dK ps))) G c γ os
  | _, .nil, _, _, _, r => r
  | _, @LkT.fz _ _ _ _ t, γ, os, n, ⟨h1, r⟩ => ⟨h1, t.r h0 n r⟩
  | _, @LkT.bo _ _ _ _ _ t, γ, os, n, ⟨⟨p, o, h1, h2, h3⟩, r⟩ => by
    refine ⟨?_, t.r h0 n r⟩
    by_cases e : p = d
    · subst e
      refine ⟨p, _, h1, upd_same, ?_⟩
      rcases h0 o h2 with z | z
      · rw [← z]; exact h3
      · exact LkO.lk h3 z
    · exact ⟨p, o, h1, by rw [upd_ne e]; exact h2, h3⟩
  | _, @LkT.ow _ _ _ _ t, γ, os, n, ⟨q, o, os', e, h1, h2, h3, r⟩ => by
    subst e
    refine ⟨q, o, os', rfl, h1, ?_, h3, t.r h0 (fun z => n (List.mem_cons_of_mem _ z)) r⟩
    rw [upd_ne fun z => n (by rw [z]; exact List.mem_cons_self)]
    exact h2
omit [TabT] in
/-- where the entry's dict stands -/
theorem Lk.at_ (gh : SameL G H) (hh : Same H0 H) : ∀ {c c' : Ctx} (l : Lk i κ α c c') {γ : Ctx.T c} {os : List Addr}, R wd H0 σ H G c γ os → ∃ d u ps, σ[i]? = some (some (.ref d)) ∧ H d = some u ∧ (u = .dK ps ∨ ∃ ob, u = .frz ob (.dK ps)) ∧ ((∃ o, H0 d = some o) ∨ (∃ o, G d = some o) ∨ d ∈ os)
  | _, _, .bo t, γ, os, ⟨⟨p, o, h1, h2, ps, h3, _, _⟩, _⟩ => by
    have hv : H p = some o := by
      rcases h3 with e | ⟨_, e⟩ <;> subst e <;> exact hh.v h2
    exact ⟨p, o, ps, h1, hv, h3, .inl ⟨o, h2⟩⟩
  | _, _, .fv t, γ, os, ⟨⟨x, h1, p, o, h2, h3, ps, h4, _, _⟩, _⟩ => by
    subst h2
    rcases h4 with e | ⟨ob, e⟩
    · subst e
      rcases gh p _ h3 with k | ⟨⟨_, k⟩, _⟩ | ⟨ob, ps', k, k2⟩
      · exact ⟨p, _, ps, h1, k, .inl rfl, .inr (.inl ⟨_, h3⟩)⟩
      · cases k
      · cases k; exact ⟨p, _, ps, h1, k2, .inr ⟨ob, rfl⟩, .inr (.inl ⟨_, h3⟩)⟩
    · subst e
      exact ⟨p, _, ps, h1, gh.v h3, .inr ⟨ob, rfl⟩, .inr (.inl ⟨_, h3⟩)⟩
  | _, _, .fz t, γ, os, ⟨⟨x, h1, p, o, h2, h3, ps, h4, _, _⟩, _⟩ => by
    subst h2; subst h4
    rcases gh p _ h3 with k | ⟨⟨_, k⟩, _⟩ | ⟨ob, ps', k, k2⟩
    · exact ⟨p, _, ps, h1, k, .inl rfl, .inr (.inl ⟨_, h3⟩)⟩
    · cases k
    · cases k; exact ⟨p, _, ps, h1, k2, .inr ⟨ob, rfl⟩, .inr (.inl ⟨_, h3⟩)⟩
  | _, _, .ow t, γ, os, ⟨q, o, os', e, h1, h2, ⟨ps, h3, _, _⟩, _⟩ => ⟨q, o, ps, h1, h2, .inl h3, .inr (.inr (by rw [e]; exact List.mem_cons_self))⟩
  | _, _, @Lk.sfz _ _ _ _ _ _ _ _ _ _ _ l, γ, os, ⟨_, r⟩ => l.at_ gh hh r
  | _, _, @Lk.sbo _ _ _ _ _ _ _ _ _ _ _ _ l, γ, os, ⟨_, r⟩ => l.at_ gh hh r
  | _, _, @Lk.sow _ _ _ _ _ _ _ _ _ _ _ l, γ, os, ⟨q, o, os', e, _, _, _, r⟩ => by
    obtain ⟨d, u, ps, h1, h2, h3, h4⟩ := l.at_ gh hh r
    refine ⟨d, u, ps, h1, h2, h3, ?_⟩
    rcases h4 with z | z | z
    · exact .inl z
    · exact .inr (.inl z)
    · exact .inr (.inr (by rw [e]; exact List.mem_cons_of_mem _ z))
omit [TabT] in
theorem ref_inj {i : Nat} {d q : Addr} (h : σ[i]? = some (some (.ref d))) (k : σ[i]? = some (some (.ref q))) : q = d := by
  rw [h] at k
  injection k with k; injection k with k; injection k with k
  exact k.symm
omit [TabT] in
theorem Lk.r (gh : SameL G H) (hh : Same H0 H) (hd : σ[i]? = some (some (.ref d))) (h0 : LkAt H0 d ob ps) (h1' : LkAt H d ob ps) : ∀ {c c' : Ctx} (l : Lk i κ α c c') {γ : Ctx.T c} {os : List Addr}, os.Nodup → (∀ p ∈ os, G p = none ∧ H0 p = none) → R wd H0 σ H G c γ os →
    ∃ os', os'.Sublist os ∧ d ∉ os' ∧ R wd (upd H0 d (.frz ob (.dK ps))) σ (upd H d (.frz ob (.dK ps))) G c' (l.go γ) os'
  | _, _, .bo t, γ, os, nd, fr, ⟨⟨p, o, h1, h2, ps', h3, h4, h5⟩, r⟩ => by
    obtain rfl := ref_inj hd h1
    have nm : p ∉ os := fun z => by rw [(fr p z).2] at h2; cases h2
    refine ⟨os, List.Sublist.refl _, nm, ⟨p, _, h1, upd_same, ps, ob, rfl, ?_⟩, t.r h0 nm r⟩
    rcases h0 o h2 with z | z
    · subst z
      rcases h3 with e | ⟨_, e⟩ <;> cases e
      exact ⟨h4, h5⟩
    · subst z
      rcases h3 with e | ⟨_, e⟩ <;> cases e
      exact ⟨h4, h5⟩
  | _, _, .fv t, γ, os, nd, fr, ⟨⟨x, h1, p, o, h2, h3, ps', h4, h5, h6⟩, r⟩ => by
    subst h2
    obtain rfl := ref_inj hd h1
    have nm : p ∉ os := fun z => by rw [(fr p z).1] at h3; cases h3
    refine ⟨os, List.Sublist.refl _, nm, ⟨p, _, h1, upd_same, ps, ob, rfl, ?_⟩, t.r h0 nm r⟩
    rcases h4 with e | ⟨ob', e⟩
    · subst e
      rcases gh p _ h3 with k | ⟨⟨_, k⟩, _⟩ | ⟨ob2, ps2, k, k2⟩
      · rcases h1' _ k with z | z <;> cases z
        exact ⟨h5, h6⟩
      · cases k
      · cases k
        rcases h1' _ k2 with z | z <;> cases z
        exact ⟨h5, h6⟩
    · subst e
      rcases h1' _ (gh.v h3) with z | z <;> cases z
      exact ⟨h5, h6⟩
  | _, _, .fz t, γ, os, nd, fr, ⟨⟨x, h1, p, o, h2, h3, ps', h4, h5, h6⟩, r⟩ => by
    subst h2; subst h4
    obtain rfl := ref_inj hd h1
    have nm : p ∉ os := fun z => by rw [(fr p z).1] at h3; cases h3
    refine ⟨os, List.Sublist.refl _, nm, ⟨p, _, h1, upd_same, ps, ob, rfl, ?_⟩, t.r h0 nm r⟩
    rcases gh p _ h3 with k | ⟨⟨_, k⟩, _⟩ | ⟨ob2, ps2, k, k2⟩
    · rcases h1' _ k with z | z <;> cases z
      exact ⟨h5, h6⟩
    · cases k
    · cases k
      rcases h1' _ k2 with z | z <;> cases z
      exact ⟨h5, h6⟩
  | _, _, .ow t, γ, os, nd, fr, ⟨q, o, os', e, h1, h2, ⟨ps', h3, h4, h5⟩, r⟩ => by
    subst e; subst h3
    obtain rfl := ref_inj hd h1
    have nm : q ∉ os' := (List.nodup_cons.mp nd).1
    refine ⟨os', List.sublist_cons_self _ _, nm, ⟨q, _, h1, upd_same, ps, ob, rfl, ?_⟩, t.r h0 nm r⟩
    rcases h1' _ h2 with z | z <;> cases z
    exact ⟨h4, h5⟩
  | _, _, @Lk.sfz _ _ _ _ _ _ _ _ _ _ _ l, γ, os, nd, fr, ⟨h1, r⟩ => by
    obtain ⟨os', k1, k2, k3⟩ := l.r gh hh hd h0 h1' nd fr r
    exact ⟨os', k1, k2, h1, k3⟩
  | _, _, @Lk.sbo _ _ _ _ _ _ _ _ _ _ _ _ l, γ, os, nd, fr, ⟨⟨p, o, h1, h2, h3⟩, r⟩ => by
    obtain ⟨os', k1, k2, k3⟩ := l.r gh hh hd h0 h1' nd fr r
    refine ⟨os', k1, k2, ?_, k3⟩
    by_cases e : p = d
    · subst e
      refine ⟨p, _, h1, upd_same, ?_⟩
      rcases h0 o h2 with z | z
      · rw [← z]; exact h3
      · exact LkO.lk h3 z
    · exact ⟨p, o, h1, by rw [upd_ne e]; exact h2, h3⟩
  | _, _, @Lk.sow _ _ _ _ _ _ _ _ _ _ _ l, γ, os, nd, fr, ⟨q, o, os1, e, h1, h2, h3, r⟩ => by
    subst e
    obtain ⟨n1, nd1⟩ := List.nodup_cons.mp nd
    obtain ⟨os', k1, k2, k3⟩ := l.r gh hh hd h0 h1' nd1 (fun p hp => fr p (List.mem_cons_of_mem _ hp)) r
    have ne : q ≠ d := fun z => by
      obtain ⟨d2, u, ps2, a1, a2, a3, a4⟩ := l.at_ gh hh r
      obtain rfl := ref_inj hd a1
      obtain ⟨f1, f2⟩ := fr q List.mem_cons_self
      rw [z] at f1 f2
      rcases a4 with ⟨_, a4⟩ | ⟨_, a4⟩ | a4
      · rw [f2] at a4; cases a4
      · rw [f1] at a4; cases a4
      · exact n1 (by rw [z]; exact a4)
    refine ⟨q :: os', k1.cons_cons q, fun z => ?_, q, o, os', rfl, h1, by rw [upd_ne ne]; exact h2, h3, k3⟩
    rcases List.mem_cons.mp z with z | z
    · exact ne z.symm
    · exact k2 z
/-- what unlocking leaves of a result -/
def Kd.Un {ρ : Type} (k : Kd wd ρ) : Prop := ∀ {H H1 G1 : Hp} {d : Addr} {L u : HO} {v : V} {r : ρ}, k.rel (upd H d L) H1 G1 v r → H1 d = some L → k.rel H (upd H1 d u) G1 v r
theorem un_F {ρ : Type} [Rep ρ] : (kF (wd := wd) (α := ρ)).Un := fun h _ => h
theorem un_O {ρ : Type} [Own ρ] : (kO (wd := wd) (β := ρ)).Un := fun {H H1 G1 d L u v r} ⟨p, o, e, n, g, h, w⟩ _ => by
  have ne : p ≠ d := fun z => by rw [z, upd_same] at n; cases n
  rw [upd_ne ne] at n
  exact ⟨p, o, e, n, g, by rw [upd_ne ne]; exact h, w⟩
end
section
variable {X : Cx} {F : Fx} {c : Ctx} {κ α ρ : Type} [Rep κ] [KeyT κ] [Rep α] {e : Expr} {i : Nat}
theorem lk_tabs {H : Hp} {d : Addr} {o : HO} {u : HO} (t : LamX.Tabs TabT.T H) (h : H d = none ∨ (H d = some u ∧ Pl u)) : LamX.Tabs TabT.T (upd H d o) := by
  rcases h with h | ⟨h, p⟩
  · exact tabs_new t h
  · exact tabs_upd t h p
omit [TabT] in
theorem pl_dk {u : HO} {ps : List (Key × V)} (h : u = .dK ps ∨ ∃ ob, u = .frz ob (.dK ps)) : Pl u := by
  rcases h with h | ⟨_, h⟩ <;> subst h <;> exact ⟨(fun _ z => nomatch z), (fun _ z => nomatch z)⟩
theorem Stt.lock {n : Sl} {wd : Wd} {H0 G0 H G : Hp} {σ : L2.St} {os : List Addr} {c c' : Ctx} (l : Lk i κ α c c') {γ : Ctx.T c} (st : Stt wd n H0 G0 σ H G os c γ) {d : Addr} {u : HO} {ps : List (Key × V)} {ob : Obj} (hd : σ[i]? = some (some (.ref d))) (hu : H d = some u) (hk : u = .dK ps ∨ u = .frz ob (.dK ps)) :
    ∃ os', Stt wd n (upd H0 d (.frz ob (.dK ps))) G σ (upd H d (.frz ob (.dK ps))) G os' c' (l.go γ) := by
  have hp : Pl u := pl_dk (by rcases hk with z | z; exact .inl z; exact .inr ⟨_, z⟩)
  have a1 : LkAt H d ob ps := fun o h => by
    rw [hu] at h; cases h
    exact hk.symm
  have a0 : LkAt H0 d ob ps := fun o h => by
    rcases st.f.h d o h with k | ⟨⟨qs, k⟩, qs', k2⟩
    · exact a1 o k
    · rw [hu] at k2; cases k2
      exact absurd rfl (hp.1 qs')
  obtain ⟨os', k1, k2, k3⟩ := l.r st.f.gh st.f.h hd a0 a1 st.nd st.fr st.r
  have h0d : H0 d = none ∨ (H0 d = some u ∧ Pl u) := by
    cases q : H0 d with
    | none => exact .inl rfl
    | some o =>
      refine .inr ⟨?_, hp⟩
      rcases st.f.h d o q with k | ⟨⟨qs, k⟩, qs', k2⟩
      · rw [hu] at k; exact k.symm
      · rw [hu] at k2; cases k2
        exact absurd rfl (hp.1 qs')
  refine ⟨os', st.len, ⟨fun b o h => ?_, Same.refl G, fun b o h => ?_, fun _ _ h => .inl h, fun _ => lk_tabs (st.f.tb st.t) (.inr ⟨hu, hp⟩)⟩, st.nd.sublist k1, fun p hp' => ?_, k3, lk_tabs st.t h0d⟩
  · by_cases z : b = d
    · subst z; rw [upd_same] at h ⊢; exact .inl h
    · rw [upd_ne z] at h ⊢; exact st.f.h b o h
  · by_cases z : b = d
    · subst z
      rcases st.f.gh b o h with k | ⟨⟨qs, k⟩, qs', k2⟩ | ⟨ob', qs, k, k2'⟩
      · rw [hu] at k; cases k
        rcases hk with z | z
        · exact .inr (.inr ⟨ob, ps, z, upd_same⟩)
        · rw [z]; exact .inl upd_same
      · rw [hu] at k2; cases k2
        exact absurd rfl (hp.1 qs')
      · rw [hu] at k2'; cases k2'
        rcases hk with z | z
        · cases z
        · cases z; exact .inr (.inr ⟨ob, ps, k, upd_same⟩)
    · rw [upd_ne z]; exact st.f.gh b o h
  · obtain ⟨f1, f2⟩ := st.fr p (k1.subset hp')
    exact ⟨f1, by rw [upd_ne fun z => k2 (by rw [← z]; exact hp')]; exact f2⟩
/-- what a locked walk leaves, unlocked -/
theorem Fr.unlock {H G H1 G1 : Hp} {d : Addr} {ps : List (Key × V)} {ob : Obj} (gh : SameL G H) (hu : H d = some (.dK ps)) (f : Fr (upd H d (.frz ob (.dK ps))) G H1 G1) : H1 d = some (.frz ob (.dK ps)) ∧ Fr H G (upd H1 d (.dK ps)) G1 := by
  have h1 : H1 d = some (.frz ob (.dK ps)) := f.h.v upd_same
  refine ⟨h1, fun b o h => ?_, f.g, fun b o h => ?_, fun b o h => ?_, fun t => ?_⟩
  · by_cases z : b = d
    · subst z; rw [upd_same]; rw [hu] at h; exact .inl h
    · rw [upd_ne z]; exact f.h b o (by rw [upd_ne z]; exact h)
  · by_cases z : b = d
    · subst z
      rcases f.new b o h with k | k
      · rcases gh b o k with q | ⟨⟨qs, q⟩, qs', q2⟩ | ⟨ob', qs, q, q2⟩
        · rw [hu] at q; rw [upd_same]; exact .inl q
        · rw [hu] at q2; cases q2
        · rw [hu] at q2; cases q2
      · rw [upd_same] at k; cases k
    · rw [upd_ne z]; exact f.gh b o h
  · rcases f.new b o h with k | k
    · exact .inl k
    · by_cases z : b = d
      · subst z; rw [upd_same] at k; cases k
      · rw [upd_ne z] at k; exact .inr k
  · exact tabs_upd (f.tb (tabs_upd t hu ⟨(fun _ z => nomatch z), (fun _ z => nomatch z)⟩)) h1 ⟨(fun _ z => nomatch z), (fun _ z => nomatch z)⟩
/-- an expression under the lock of a dict of the context -/
theorem e_lock {k : Kd F.wd ρ} (hk : k.Un) {c1 c' : Ctx} (s : Sub c c1) (l : Lk i κ α c1 c') {m : Ctx.T c' → Rs ρ} (h : PE X e (tX F k c' m)) : PE X e (tX F k c fun γ => Rs.nox (m (l.go (s.proj γ)))) := by
  refine ⟨fun pins sh σ H Q I ⟨H0, G0, G, os, γ, st, p⟩ => ?_⟩
  dsimp only at p
  obtain ⟨os1, hs, st1⟩ := st.sub s
  obtain ⟨d, u, ps, hi, hd, hu, _⟩ := l.at_ st1.f.gh st1.f.h st1.r
  cases em : m (l.go (s.proj γ)) with
  | no => rw [em] at p; exact p.elim
  | ex x => rw [em] at p; exact p.elim
  | ok r =>
    rw [em] at p
    rcases hu with hu | ⟨ob, hu⟩
    · subst hu
      refine (pe_lock h).run pins sh σ H Q I ⟨d, _, hd, trivial, fun od => ?_⟩
      obtain ⟨os', st2⟩ := st1.lock l hi hd (.inl rfl) (ob := od)
      refine ⟨_, _, _, os', _, st2, ?_⟩
      rw [em]
      intro H' G' v f rr
      obtain ⟨h1, f1⟩ := f.unlock st.f.gh hd
      exact ⟨h1, p _ _ _ f1 (hk rr h1)⟩
    · subst hu
      obtain ⟨os', st2⟩ := st1.lock l hi hd (.inr rfl)
      have eH : upd H d (.frz ob (.dK ps)) = H := by
        funext b
        by_cases z : b = d
        · subst z; rw [upd_same, hd]
        · rw [upd_ne z]
      rw [eH] at st2
      refine h.run pins sh σ H Q I ⟨_, _, _, os', _, st2, ?_⟩
      rw [em]
      exact p
end
/-! ### == of dicts of flat values -/
class FlatV (α : Type) [Rep α] where
  fv : α → V
  is : ∀ {wd G v a}, rep wd G v a → v = fv a
  flat : ∀ a, flatB (fv a) = true
omit [TabT] in
instance : FlatV Int := ⟨V.int, fun h => h, fun _ => rfl⟩
omit [TabT] in
instance : FlatV Str := ⟨V.str, fun h => h.1, fun _ => rfl⟩
omit [TabT] in
instance : FlatV Bool := ⟨V.bl, fun h => h, fun _ => rfl⟩
omit [TabT] in
omit [TabT] in
/-- two dicts with the same items -/
def EqD {κ α : Type} [DecidableEq κ] (a b : Dct κ α) : Prop := a.es.length = b.es.length ∧ ∀ e ∈ a.es, b.get? e.1 = some e.2
omit [TabT] in
instance {κ α : Type} [DecidableEq κ] [DecidableEq α] (a b : Dct κ α) : Decidable (EqD a b) := by unfold EqD; infer_instance
section
variable {κ α : Type} [DecidableEq κ] [Rep κ] [KeyT κ] [Rep α] {wd : Wd} {G : Hp} {P : Program} {w : World} {H : Hp} {h : Heap}
omit [TabT] in
theorem rd_obj {a : Addr} {ks : List (Key × V)} (ok : HOk P w H h) (r : Rd H a (.dK ks)) : ObjOk P w H h a (.dK ks) := by
  rcases r with r | ⟨o, r⟩
  · exact ok a _ r
  · exact (ok a _ r).2
end
section
variable {X : Cx}
omit [TabT] in
def rEqR (b : Bool) : R2 := fun x y H Q => ∃ a c ks ls, x = .ref a ∧ y = .ref c ∧ Rd H a (.dK ks) ∧ Rd H c (.dK ls) ∧ ks.length = ls.length ∧ (∀ p ∈ ks, valV ls p.1 = some p.2 ∧ flatB p.2 = true) ∧ Q (.bl b) H
omit [TabT] in
theorem op_eqDR (hu' : X.A.units + 64 < cLine) : OpR X (compareOp .Eq) (rEqR true) := by
  intro pins s σ H x y v u Q I rx ry h
  obtain ⟨a, b, ks, ls, rfl, rfl, ea, eb, hlen, hp, q⟩ := h
  obtain rfl : v = Value.ref a := rx
  obtain rfl : u = Value.ref b := ry
  obtain ⟨_, ya, va, ra, da⟩ := rd_obj I.hok ea
  obtain ⟨_, yb, vb, rb, db⟩ := rd_obj I.hok eb
  have hl : va.length = vb.length := by rw [← ra.length, ← rb.length]; exact hlen
  have hu : X.A.units < cLine := Nat.lt_of_le_of_lt (Nat.le_add_right _ 64) hu'
  exact PySem.W.keq_eq (knd := mixKind X.prog X.w) (r := true) ya yb da db hu (fun _ => hits_all rb ra hp) (fin_bl I q (by simp [hl]))
omit [TabT] in
theorem op_neDR (hu' : X.A.units + 64 < cLine) : OpR X (compareOp .NotEq) (rEqR false) := by
  intro pins s σ H x y v u Q I rx ry h
  obtain ⟨a, b, ks, ls, rfl, rfl, ea, eb, hlen, hp, q⟩ := h
  obtain rfl : v = Value.ref a := rx
  obtain rfl : u = Value.ref b := ry
  obtain ⟨_, ya, va, ra, da⟩ := rd_obj I.hok ea
  obtain ⟨_, yb, vb, rb, db⟩ := rd_obj I.hok eb
  have hl : va.length = vb.length := by rw [← ra.length, ← rb.length]; exact hlen
  have hu : X.A.units < cLine := Nat.lt_of_le_of_lt (Nat.le_add_right _ 64) hu'
  exact PySem.W.keq_ne (knd := mixKind X.prog X.w) (r := true) ya yb da db hu (fun _ => hits_all rb ra hp) (fin_bl I q (by simp [hl]))
variable {κ α : Type} [DecidableEq κ] [DecidableEq α] [Rep κ] [KeyT κ] [Rep α] [FlatV α] {wd : Wd} {G : Hp}
omit [TabT] in
theorem rkv.eqs {ls : List (Key × V)} {fs : List (κ × α)} (r2 : rkv wd G ls fs) : ∀ {ks : List (Key × V)} {es : List (κ × α)}, rkv wd G ks es → (∀ e ∈ es, (Dct.mk fs).get? e.1 = some e.2) → ∀ p ∈ ks, valV ls p.1 = some p.2 ∧ flatB p.2 = true
  | [], [], _, _, p, hp => by cases hp
  | k :: ks, e :: es, ⟨⟨h1, h2, h3⟩, t⟩, he, p, hp => by
    rcases List.mem_cons.mp hp with z | z
    · subst z
      have g := r2.get e.1
      rw [he e List.mem_cons_self] at g
      obtain ⟨v, hv, rv⟩ := g
      rw [h1, hv, FlatV.is rv, FlatV.is h3]
      exact ⟨rfl, FlatV.flat _⟩
    · exact rkv.eqs r2 t (fun e he' => he e (List.mem_cons_of_mem _ he')) p z
  | [], _ :: _, h, _, _, _ => h.elim
  | _ :: _, [], h, _, _, _ => h.elim
omit [TabT] in
def eqDR (b : Bool) (x y : DV κ α) : Rs Bool := if EqD x.d y.d then .ok b else .no
theorem m_eqDR {b : Bool} : Sem2 (wd := wd) kB kB kF (rEqR b) (eqDR (κ := κ) (α := α) b) := by
  intro W σ B1 B2 H G x y a c Q gh ⟨q, o, e1, e2, ps, e3, e4, e5⟩ ⟨q', o', e1', e2', ps', e3', e4', e5'⟩ p
  subst e1; subst e1'
  unfold eqDR at p
  by_cases hc : EqD a.d c.d
  · rw [if_pos hc] at p
    exact ⟨q, q', ps, ps', rfl, rfl, rd_dv e2 e3, rd_dv e2' e3', by rw [e5.len, e5'.len]; exact hc.1, rkv.eqs e5' e5 hc.2, p _ _ _ (Fr.refl gh) rfl⟩
  · rw [if_neg hc] at p
    exact p.elim
end
end Wm
set_option Elab.async false
set_option linter.all false
set_option maxRecDepth 100000
set_option maxHeartbeats 4000000
/-! loops over a dict (locked meanwhile); tuples of ints and texts -/
namespace Wm
open PySem PySem.Spec PyProof.Rows L2
open Rep (rep)
open Own (own)
/-- some slots are left alone -/
def Sl.fix (n : Sl) (js : List Nat) (σ0 : L2.St) : Sl where
  n := n.n
  ok := fun j => n.ok j ∧ j ∉ js
  keep := fun σ => n.keep σ ∧ ∀ j ∈ js, σ[j]? = σ0[j]?
  put := fun σ j x hj h => ⟨n.put σ j x hj.1 h.1, fun i hi => by
    rw [List.getElem?_set_ne (fun e => hj.2 (by rw [e]; exact hi))]
    exact h.2 i hi⟩
def Ctx.bos : Ctx → List Nat
  | [] => []
  | @Ent.bo i _ _ :: c => i :: Ctx.bos c
  | _ :: c => Ctx.bos c
section
variable {κ α : Type} [Rep κ] [KeyT κ] [Rep α] {wd : Wd} {H0 H G H' G' : Hp} {σ σ' : L2.St} {i : Nat} {d : Addr} {u : HO} {ob : Obj} {ps : List (Key × V)}
@[reducible] def LkT.back : ∀ {c : Ctx}, LkT c → Ctx.T c → Ctx.T c → Ctx.T c
  | _, .nil, _, g => g
  | _, @LkT.fz _ _ _ _ t, γ, g => (g.1, t.back γ.2 g.2)
  | _, @LkT.bo _ _ _ _ _ t, γ, g => (γ.1, t.back γ.2 g.2)
  | _, @LkT.ow _ _ _ _ t, γ, g => (g.1, t.back γ.2 g.2)
@[reducible] def Lk.back : ∀ {c c' : Ctx}, Lk i κ α c c' → Ctx.T c → Ctx.T c' → Ctx.T c
  | _, _, .bo t, γ, g => (γ.1, t.back γ.2 g.2)
  | _, _, .fv t, γ, g => (γ.1, t.back γ.2 g.2)
  | _, _, .fz t, γ, g => (γ.1, t.back γ.2 g.2)
  | _, _, .ow t, γ, g => (γ.1, t.back γ.2 g.2)
  | _, _, @Lk.sfz _ _ _ _ _ _ _ _ _ _ _ l, γ, g => (g.1, l.back γ.2 g.2)
  | _, _, @Lk.sbo _ _ _ _ _ _ _ _ _ _ _ _ l, γ, g => (γ.1, l.back γ.2 g.2)
  | _, _, @Lk.sow _ _ _ _ _ _ _ _ _ _ _ l, γ, g => (g.1, l.back γ.2 g.2)
theorem LkT.rb (sg : Same G G') : ∀ {c : Ctx} (t : LkT c) {γ g : Ctx.T c} {os os' : List Addr}, d ∉ os' → (∀ j ∈ Ctx.bos c, σ'[j]? = σ[j]?) → R wd H0 σ H G c γ os → R wd (upd H0 d (.frz ob (.dK ps))) σ' H' G' c g os' → R wd H0 σ' (upd H' d u) G' c (t.back γ g) os'
  | _, .nil, γ, g, os, os', _, _, _, r => r
  | _, @LkT.fz _ _ _ _ t, γ, g, os, os', n, k, ⟨_, r⟩, ⟨h1, r'⟩ => ⟨h1, t.rb sg n k r r'⟩
  | _, @LkT.bo _ _ _ _ _ t, γ, g, os, os', n, k, ⟨⟨p, o, h1, h2, h3⟩, r⟩, ⟨_, r'⟩ => ⟨⟨p, o, (k _ List.mem_cons_self).trans h1, h2, Own.mono sg h3⟩, t.rb sg n (fun j hj => k j (List.mem_cons_of_mem _ hj)) r r'⟩
  | _, @LkT.ow _ _ _ _ t, γ, g, os, os', n, k, ⟨_, _, os2, e2, _, _, _, r⟩, ⟨q, o, os1, e, h1, h2, h3, r'⟩ => by
    subst e
    refine ⟨q, o, os1, rfl, h1, ?_, h3, t.rb sg (fun z => n (List.mem_cons_of_mem _ z)) k r r'⟩
    rw [upd_ne fun z => n (by rw [z]; exact List.mem_cons_self)]
    exact h2
theorem Lk.rb (sg : Same G G') (hu : H d = some u) (hd : σ[i]? = some (some (.ref d))) (hd' : σ'[i]? = some (some (.ref d))) : ∀ {c c' : Ctx} (l : Lk i κ α c c') {γ : Ctx.T c} {g : Ctx.T c'} {os os' : List Addr}, os.Nodup → os'.Nodup → (∀ p ∈ os, G p = none ∧ H0 p = none) → (∀ p ∈ os', G' p = none ∧ upd H0 d (.frz ob (.dK ps)) p = none) → G' d = G d → (∀ j ∈ Ctx.bos c, σ'[j]? = σ[j]?) →
    R wd H0 σ H G c γ os → R wd (upd H0 d (.frz ob (.dK ps))) σ' H' G' c' g os' → ∃ os'', R wd H0 σ' (upd H' d u) G' c (l.back γ g) os'' ∧ os''.Nodup ∧ ∀ p ∈ os'', (G' p = none ∧ H0 p = none) ∧ (p ∈ os' ∨ p = d)
  | _, _, .bo t, γ, g, os, os', nd, nd', fr, fr', gd, k, ⟨⟨p, o, h1, h2, h3⟩, r⟩, ⟨_, r'⟩ => by
    have nm : d ∉ os' := fun z => by have := (fr' d z).2; rw [upd_same] at this; cases this
    refine ⟨os', ⟨⟨p, o, (k _ List.mem_cons_self).trans h1, h2, Own.mono sg h3⟩, t.rb sg nm (fun j hj => k j (List.mem_cons_of_mem _ hj)) r r'⟩, nd', fun p hp => ⟨⟨(fr' p hp).1, ?_⟩, .inl hp⟩⟩
    have := (fr' p hp).2
    rwa [upd_ne fun z => nm (by rw [← z]; exact hp)] at this
  | _, _, .fv t, γ, g, os, os', nd, nd', fr, fr', gd, k, ⟨⟨x, h1, h2⟩, r⟩, ⟨_, r'⟩ => by
    have nm : d ∉ os' := fun z => by have := (fr' d z).2; rw [upd_same] at this; cases this
    refine ⟨os', ⟨⟨x, by rw [hd', ← hd]; exact h1, Rep.mono sg h2⟩, t.rb sg nm k r r'⟩, nd', fun p hp => ⟨⟨(fr' p hp).1, ?_⟩, .inl hp⟩⟩
    have := (fr' p hp).2
    rwa [upd_ne fun z => nm (by rw [← z]; exact hp)] at this
  | _, _, .fz t, γ, g, os, os', nd, nd', fr, fr', gd, k, ⟨⟨x, h1, h2⟩, r⟩, ⟨_, r'⟩ => by
    have nm : d ∉ os' := fun z => by have := (fr' d z).2; rw [upd_same] at this; cases this
    refine ⟨os', ⟨⟨x, by rw [hd', ← hd]; exact h1, Rep.mono sg h2⟩, t.rb sg nm k r r'⟩, nd', fun p hp => ⟨⟨(fr' p hp).1, ?_⟩, .inl hp⟩⟩
    have := (fr' p hp).2
    rwa [upd_ne fun z => nm (by rw [← z]; exact hp)] at this
  | _, _, .ow t, γ, g, os, os', nd, nd', fr, fr', gd, k, ⟨q, o, os1, e, h1, h2, h3, r⟩, ⟨_, r'⟩ => by
    have nm : d ∉ os' := fun z => by have := (fr' d z).2; rw [upd_same] at this; cases this
    subst e
    obtain rfl := ref_inj hd h1
    have f0 := fr q List.mem_cons_self
    rw [hu] at h2
    cases h2
    refine ⟨q :: os', ⟨q, u, os', rfl, hd', upd_same, Own.mono sg h3, t.rb sg nm k r r'⟩, List.nodup_cons.mpr ⟨nm, nd'⟩, fun p hp => ?_⟩
    rcases List.mem_cons.mp hp with z | hp
    · subst z
      exact ⟨⟨by rw [gd]; exact f0.1, f0.2⟩, .inr rfl⟩
    · refine ⟨⟨(fr' p hp).1, ?_⟩, .inl hp⟩
      have := (fr' p hp).2
      rwa [upd_ne fun z => nm (by rw [← z]; exact hp)] at this
  | _, _, @Lk.sfz _ _ _ _ _ _ _ _ _ _ _ l, γ, g, os, os', nd, nd', fr, fr', gd, k, ⟨_, r⟩, ⟨h1, r'⟩ => by
    obtain ⟨os'', a, b, c⟩ := l.rb sg hu hd hd' nd nd' fr fr' gd k r r'
    exact ⟨os'', ⟨h1, a⟩, b, c⟩
  | _, _, @Lk.sbo _ _ _ _ _ _ _ _ _ _ _ _ l, γ, g, os, os', nd, nd', fr, fr', gd, k, ⟨⟨p, o, h1, h2, h3⟩, r⟩, ⟨_, r'⟩ => by
    obtain ⟨os'', a, b, c⟩ := l.rb sg hu hd hd' nd nd' fr fr' gd (fun j hj => k j (List.mem_cons_of_mem _ hj)) r r'
    exact ⟨os'', ⟨⟨p, o, (k _ List.mem_cons_self).trans h1, h2, Own.mono sg h3⟩, a⟩, b, c⟩
  | _, _, @Lk.sow _ _ _ _ _ _ _ _ _ _ _ l, γ, g, os, os', nd, nd', fr, fr', gd, k, ⟨q0, o0, os0, e0, a1, a2, a3, r⟩, ⟨q, o, os1, e, h1, h2, h3, r'⟩ => by
    subst e; subst e0
    have nm : d ∉ q :: os1 := fun z => by have := (fr' d z).2; rw [upd_same] at this; cases this
    obtain ⟨n1, nd1⟩ := List.nodup_cons.mp nd'
    obtain ⟨os'', a, b, c⟩ := l.rb sg hu hd hd' (List.nodup_cons.mp nd).2 nd1 (fun p hp => fr p (List.mem_cons_of_mem _ hp)) (fun p hp => fr' p (List.mem_cons_of_mem _ hp)) gd k r r'
    have nq : q ≠ d := fun z => nm (by rw [z]; exact List.mem_cons_self)
    obtain ⟨f1, f2⟩ := fr' q List.mem_cons_self
    rw [upd_ne nq] at f2
    refine ⟨q :: os'', ⟨q, o, os'', rfl, h1, by rw [upd_ne nq]; exact h2, h3, a⟩, List.nodup_cons.mpr ⟨fun z => ?_, b⟩, fun p hp => ?_⟩
    · rcases (c q z).2 with z | z
      · exact n1 z
      · exact nq z
    · rcases List.mem_cons.mp hp with z | hp
      · subst z
        exact ⟨⟨f1, f2⟩, .inl List.mem_cons_self⟩
      · exact ⟨(c p hp).1, (c p hp).2.imp_left (List.mem_cons_of_mem _)⟩
end
section
variable [TabT] {X : Cx} {F : Fx} {c : Ctx} {κ α ρ : Type} [Rep κ] [KeyT κ] [Rep α] {i : Nat}
theorem Stt.back {n : Sl} {wd : Wd} {H0 G0 H G H' G' : Hp} {σ σ' : L2.St} {os os' : List Addr} {c c' : Ctx} {js : List Nat} (l : Lk i κ α c c') {γ : Ctx.T c} {g : Ctx.T c'} (st : Stt wd n H0 G0 σ H G os c γ) {d : Addr} {u : HO} {ps : List (Key × V)} {ob : Obj} (hd : σ[i]? = some (some (.ref d))) (hu : H d = some u) (hk : u = .dK ps ∨ u = .frz ob (.dK ps)) (hj : (i :: Ctx.bos c) = js)
    (st' : Stt wd (n.fix js σ) (upd H0 d (.frz ob (.dK ps))) G σ' H' G' os' c' g) : H' d = some (.frz ob (.dK ps)) ∧ ∃ os'', Stt wd n H0 G0 σ' (upd H' d u) G' os'' c (l.back γ g) := by
  have hp : Pl u := pl_dk (by rcases hk with z | z; exact .inl z; exact .inr ⟨_, z⟩)
  have keep := st'.len.2.2
  have hd' : σ'[i]? = some (some (.ref d)) := by rw [keep i (by rw [← hj]; exact List.mem_cons_self)]; exact hd
  have h1 : H' d = some (.frz ob (.dK ps)) := st'.f.h.v upd_same
  have h0d : H0 d = none ∨ H0 d = some u := by
    cases q : H0 d with
    | none => exact .inl rfl
    | some o =>
      refine .inr ?_
      rcases st.f.h d o q with k | ⟨⟨qs, k⟩, qs', k2⟩
      · rw [hu] at k; exact k.symm
      · rw [hu] at k2; cases k2
        exact absurd rfl (hp.1 qs')
  have gd : G' d = G d := by
    cases q : G' d with
    | none =>
      cases q2 : G d with
      | none => rfl
      | some o =>
        rcases st'.f.g d o q2 with k | ⟨_, qs, k⟩ <;> rw [q] at k <;> cases k
    | some o =>
      rcases st'.f.new d o q with k | k
      · exact k.symm
      · rw [upd_same] at k; cases k
  obtain ⟨os'', a, b, e⟩ := l.rb st'.f.g hu hd hd' st.nd st'.nd st.fr st'.fr gd (fun j hjm => keep j (by rw [← hj]; exact List.mem_cons_of_mem _ hjm)) st.r st'.r
  refine ⟨h1, os'', ⟨st'.len.1, st'.len.2.1⟩, ⟨fun x o h => ?_, st.f.g.trans st'.f.g, fun x o h => ?_, fun x o h => ?_, fun t => ?_⟩, b, fun p hp => (e p hp).1, a, st.t⟩
  · by_cases z : x = d
    · subst z
      rw [upd_same]
      rcases h0d with k | k
      · rw [k] at h; cases h
      · rw [k] at h; exact .inl h
    · rw [upd_ne z]; exact st'.f.h x o (by rw [upd_ne z]; exact h)
  · by_cases z : x = d
    · subst z
      rw [gd] at h
      rcases st.f.gh x o h with k | ⟨⟨qs, k⟩, qs', k2⟩ | ⟨ob', qs, k, k2⟩
      · rw [hu] at k; rw [upd_same]; exact .inl k
      · rw [hu] at k2; cases k2
        exact absurd rfl (hp.1 qs')
      · rw [hu] at k2; rw [upd_same]
        exact .inr (.inr ⟨ob', qs, k, k2⟩)
    · rw [upd_ne z]; exact st'.f.gh x o h
  · rcases st'.f.new x o h with k | k
    · exact st.f.new x o k
    · by_cases z : x = d
      · subst z; rw [upd_same] at k; cases k
      · rw [upd_ne z] at k; exact .inr k
  · exact tabs_upd (st'.f.tb (lk_tabs t (h0d.imp id fun k => ⟨k, hp⟩))) h1 ⟨(fun _ z => nomatch z), (fun _ z => nomatch z)⟩
theorem Stt.fixed {n : Sl} {wd : Wd} {H0 G0 H G : Hp} {σ : L2.St} {os : List Addr} {c : Ctx} {γ : Ctx.T c} (st : Stt wd n H0 G0 σ H G os c γ) (js : List Nat) : Stt wd (n.fix js σ) H0 G0 σ H G os c γ := ⟨⟨st.len.1, st.len.2, fun _ _ => rfl⟩, st.f, st.nd, st.fr, st.r, st.t⟩
/-- a statement under the lock of a dict of the context -/
theorem s_lock {st : Stmt} {c' : Ctx} (l : Lk i κ α c c') (js : List Nat) (hj : (i :: Ctx.bos c) = js) {m : Ctx.T c' → Rs (Ctx.T c')} {mm : Ctx.T c → Rs (Ctx.T c)} (h : ∀ σ0, PS X st (tS { F with n := F.n.fix js σ0 } c' c' m)) (hm : ∀ γ, mm γ = (Rs.nox (m (l.go γ))).bind fun g => .ok (l.back γ g) := by intro γ; rfl) : PS X st (tS F c c mm) := by
  rw [show mm = fun γ => (Rs.nox (m (l.go γ))).bind fun g => .ok (l.back γ g) from funext hm]
  refine ⟨fun pins sh σ H D I ⟨H0, G0, G, os, γ, st, p⟩ => ?_⟩
  dsimp only at p
  obtain ⟨d, u, ps, hi, hd, hu, _⟩ := l.at_ st.f.gh st.f.h st.r
  cases em : m (l.go γ) with
  | no => rw [em] at p; exact p.elim
  | ex x => rw [em] at p; exact p.elim
  | ok g =>
    rw [em] at p
    rcases hu with hu | ⟨ob, hu⟩
    · subst hu
      refine (ps_lock (h σ)).run pins sh σ H D I ⟨d, _, hd, trivial, fun od => ?_⟩
      obtain ⟨os', st2⟩ := st.lock l hi hd (.inl rfl) (ob := od)
      refine ⟨_, _, _, os', _, st2.fixed js, ?_⟩
      rw [em]
      intro σ' H' G' os2 st3
      obtain ⟨h1, os3, st4⟩ := Stt.back l st hi hd (.inl rfl) hj st3
      exact ⟨h1, p _ _ _ _ st4⟩
    · subst hu
      obtain ⟨os', st2⟩ := st.lock l hi hd (.inr rfl)
      have eH : upd H d (.frz ob (.dK ps)) = H := by
        funext b
        by_cases z : b = d
        · subst z; rw [upd_same, hd]
        · rw [upd_ne z]
      rw [eH] at st2
      refine (h σ).run pins sh σ H D I ⟨_, _, _, os', _, st2.fixed js, ?_⟩
      rw [em]
      intro σ' H' G' os2 st3
      obtain ⟨h1, os3, st4⟩ := Stt.back l st hi hd (.inr rfl) hj st3
      have eH' : upd H' d (.frz ob (.dK ps)) = H' := by
        funext b
        by_cases z : b = d
        · subst z; rw [upd_same, h1]
        · rw [upd_ne z]
      rw [eH'] at st4
      exact p _ _ _ _ st4
end
/-! ### tuples of ints and texts -/
section
/-- each of some things as one kind -/
structure CstN (α β : Type) [NtR α] [Rep β] where
  go : α → List β
  ok : ∀ {wd : Wd} {G : Hp} {vs : List V} {a : α}, NtR.reps wd G vs a → reps wd G vs (go a)
def CstN.nil {β : Type} [Rep β] : CstN Unit β := ⟨fun _ => [], fun h => by rw [show _ = [] from h]; trivial⟩
def CstN.cons {α α' β : Type} [Rep α] [Rep β] [NtR α'] (k : Cst α β) (n : CstN α' β) : CstN (α × α') β := ⟨fun a => k.go a.1 :: n.go a.2, fun ⟨v, vs', e, h, t⟩ => by subst e; exact ⟨k.ok h, n.ok t⟩⟩
def Cst.nt {α β : Type} [NtR α] [Rep β] (n : CstN α β) : Cst (Nt α) (Tup β) := ⟨fun a => ⟨n.go a.v⟩, fun ⟨p, o, e, g, vs, e2, l, h⟩ => ⟨p, o, e, g, vs, e2, l, n.ok h⟩⟩
def Cst.p2 {α α' β : Type} [Rep α] [Rep α'] [Rep β] (k : Cst α β) (j : Cst α' β) : Cst (α × α') (Tup β) :=
  ⟨fun a => ⟨[k.go a.1, j.go a.2]⟩, fun ⟨p, o, e, g, v, w, e2, h1, h2⟩ => ⟨p, o, e, g, [v, w], e2, by rw [sizeLine_eq]; show (2 : Nat) ≤ _; decide, k.ok h1, j.ok h2, trivial⟩⟩
def Cst.some {α β : Type} [Rep α] [Own β] (k : Cst α β) : Cst α (Option β) := ⟨fun a => .some (k.go a), fun h => k.ok h⟩
instance : PyEq (Int ⊕ Str) where
  d := fun x => match x with | .inl i => .int i | .inr s => .str s
  dep := 0
  dp := fun {_ _ _ _ _ a} _ h => by
    cases a with
    | inl i => rw [show _ = V.int _ from h]; exact .int _
    | inr s => rw [show _ = V.str _ from h.1]; exact .str _
  lay := fun {_ _ _ a} h => by
    cases a with
    | inl i => unfold PyData.canLay0; rfl
    | inr s => unfold PyData.canLay0; exact h.2.strOk
  depth := fun a => by cases a <;> (unfold PyData.depth; exact Nat.le_refl _)
  eqv := fun a b => by
    cases a <;> cases b
    · unfold PyData.eqv
      rw [Bool.beq_eq_decide_eq, decide_eq_decide]
      exact ⟨fun h => by rw [h], fun h => Sum.inl.inj h⟩
    · unfold PyData.eqv; rfl
    · unfold PyData.eqv; rfl
    · rename_i x y
      show PyData.eqv (.str x) (.str y) = _
      unfold PyData.eqv
      rw [show (x == y) = decide (x = y) from rfl, decide_eq_decide]
      exact ⟨fun h => by rw [h], fun h => Sum.inr.inj h⟩
variable [TabT]
theorem ty_sumIS {wd : Wd} {K : PySem.W.Frag} {B H G : Hp} {v : V} {a : Int ⊕ Str} (_ : SameL G H) (h : (kF (wd := wd)).rel B H G v a) : TyX K H v (if a.isLeft then .type "int" else .type "str") := by
  cases a with
  | inl i => rw [show v = .int i from h]; exact .base (.int i)
  | inr s => rw [show v = .str s from h.1]; exact .base (.str s)
theorem ty_optT {wd : Wd} {K : PySem.W.Frag} {α : Type} [Rep α] {B H G : Hp} {v : V} {a : Option (Tup α)} (s : SameL G H) (h : (kF (wd := wd)).rel B H G v a) : TyX K H v (if a.isSome then .type "tuple" else .type "NoneType") := by
  cases a with
  | none => rw [show v = V.non from h]; exact .base .non
  | some t =>
    obtain ⟨q, o, e1, e2, vs, e3, e4, r⟩ := h
    subst e1; subst e3
    exact .base (.tup (s.v e2))
omit [TabT] in
theorem kit_sumS {K : PySem.W.Frag} : ∀ a : Int ⊕ Str, PySem.W.kitOne K (if a.isLeft then .type "int" else .type "str") (.type "str") = some a.isRight
  | .inl _ => kit_ty (a := "int") (b := "str") (r := false) (by decide +kernel)
  | .inr _ => kit_ty (a := "str") (b := "str") (r := true) (by decide +kernel)
omit [TabT] in
theorem kit_sumI {K : PySem.W.Frag} : ∀ a : Int ⊕ Str, PySem.W.kitOne K (if a.isLeft then .type "int" else .type "str") (.type "int") = some a.isLeft
  | .inl _ => kit_ty (a := "int") (b := "int") (r := true) (by decide +kernel)
  | .inr _ => kit_ty (a := "str") (b := "int") (r := false) (by decide +kernel)
omit [TabT] in
theorem kit_sumB {K : PySem.W.Frag} : ∀ a : Int ⊕ Str, PySem.W.kitOne K (if a.isLeft then .type "int" else .type "str") (.type "bool") = some false
  | .inl _ => kit_ty (a := "int") (b := "bool") (r := false) (by decide +kernel)
  | .inr _ => kit_ty (a := "str") (b := "bool") (r := false) (by decide +kernel)
omit [TabT] in
theorem kit_optT {K : PySem.W.Frag} {α : Type} : ∀ a : Option (Tup α), PySem.W.kitOne K (if a.isSome then .type "tuple" else .type "NoneType") (.type "tuple") = some a.isSome
  | none => kit_ty (a := "NoneType") (b := "tuple") (r := false) (by decide +kernel)
  | some _ => kit_ty (a := "tuple") (b := "tuple") (r := true) (by decide +kernel)
end
end Wm
set_option Elab.async false
set_option linter.all false
set_option maxRecDepth 100000
set_option maxHeartbeats 4000000
/-! xs[a::k] -/
namespace L2
open PySem PySem.Spec PyProof.Rows
def pickG {α : Type} (xs : List α) (lo hi st : Option Int) : List α :=
  (sliceRange (sliceBounds lo hi st xs.length).1 (sliceBounds lo hi st xs.length).2.1 (sliceBounds lo hi st xs.length).2.2).filterMap (xs[·]?)
theorem pick_is (items : Array Value) (lo hi st : Option Int) : slicePick items lo hi st = (pickG items.toList lo hi st).toArray := by
  unfold slicePick pickG
  rw [Array.length_toList]
  simp only [Array.getElem?_toList]
theorem pickG_len {α : Type} (xs : List α) (lo hi st : Option Int) : (pickG xs lo hi st).length ≤ xs.length := by
  have h := slicePick_size_le ((List.replicate xs.length Value.none).toArray) lo hi st
  have e : ∀ (js : List Nat) , (js.filterMap (xs[·]?)).length = (js.filterMap ((List.replicate xs.length Value.none).toArray[·]?)).length := by
    intro js
    induction js with
    | nil => rfl
    | cons j js ih =>
      rw [List.filterMap_cons, List.filterMap_cons]
      by_cases c : j < xs.length
      · rw [List.getElem?_eq_getElem c, Array.getElem?_eq_getElem (by simpa using c)]
        dsimp only
        rw [List.length_cons, List.length_cons, ih]
      · rw [List.getElem?_eq_none (by omega), Array.getElem?_eq_none (by simpa using c)]
        exact ih
  unfold slicePick at h
  unfold pickG
  rw [List.size_toArray] at h
  rw [e]
  simpa using h
theorem pickG_mem {α : Type} {xs : List α} {lo hi st : Option Int} {a : α} (h : a ∈ pickG xs lo hi st) : a ∈ xs := by
  unfold pickG at h
  obtain ⟨i, -, e⟩ := List.mem_filterMap.mp h
  exact List.mem_of_getElem? e
theorem vals_fm {vs : List V} {us : List Value} (r : Vals vs us) : ∀ js : List Nat, Vals (js.filterMap (vs[·]?)) (js.filterMap (us[·]?))
  | [] => .nil
  | j :: js => by
    rw [List.filterMap_cons, List.filterMap_cons]
    have hl := r.length
    by_cases c : j < vs.length
    · obtain ⟨w, hw, rw'⟩ := r.get (List.getElem?_eq_getElem c)
      rw [List.getElem?_eq_getElem c, hw]
      exact .cons rw' (vals_fm r js)
    · rw [List.getElem?_eq_none (by omega), List.getElem?_eq_none (by omega)]
      exact vals_fm r js
theorem vals_pick {vs : List V} {us : List Value} (r : Vals vs us) (lo hi st : Option Int) : Vals (pickG vs lo hi st) (pickG us lo hi st) := by
  unfold pickG
  rw [r.length]
  exact vals_fm r _
def tStepL (K : PySem.W.Frag) (te : TE) (tl : TO) (k : Int) : TE := fun σ H Q => te σ H fun x H1 => tl σ H1 fun l H2 => ∃ a xs, x = .ref a ∧ SqL K H2 a xs ∧ ∀ p, H2 p = none → Q (.ref p) (upd H2 p (.lst (pickG xs l none (some k))))
variable {X : Cx}
theorem pe_stepL {e : Expr} {lo : Option Expr} {te : TE} {tl : TO} {k : Int} {j : Nat} {p1 p3 pos : Pos} (hk : k ≠ 0) (he : PE X e te) (hl : PO X lo tl) : PE X (.Subscript e (.Slice lo none (some (.Constant (.int k) j p1)) p3) pos) (tStepL X.K te tl k) := by
  refine ⟨fun pins s σ H Q I h => ?_⟩
  refine Subscript_ (thn (he.run pins s σ H _ I h) fun v s1 ⟨x, H1, I1, r1, q1⟩ => ?_)
  have hst : PO X (some (.Constant (.int k) j p1)) (tPart (tC (.int k))) := po_some pe_int
  refine wpAny_Slice (thn (hl.run pins s1 σ H1 _ I1 q1) fun vl s2 ⟨l, H2, I2, pl, q2⟩ => ?_)
  refine thn (po_none.run pins s2 σ H2 (fun o H3 => o = none ∧ H3 = H2) I2 ⟨rfl, rfl⟩) fun vu s3 ⟨u, H3, I3, pu, eu, e3⟩ => ?_
  subst eu e3
  refine thn (hst.run pins s3 σ H3 (fun o H4 => o = some k ∧ H4 = H3) I3 ⟨k, rfl, rfl, rfl⟩) fun vs s4 ⟨o, H4, I4, ps, eo, e4⟩ => ?_
  subst eo e4
  obtain ⟨a, xs, ex, hx, q⟩ := q2
  subst ex
  cases r1
  have I5 : Inv X pins σ H4 { s4 with heap := s4.heap.push { cls := .type "slice", data := .fields #[vl, vu, vs] } } := I4.kept (t' := s4.toks) fun b ob q => Heap.get?_push_of_some _ q
  obtain ⟨its, r, ht, hz⟩ := I5.list hx
  have hlen := r.length
  show wpAny (model X.prog X.w) X.A (subscriptTail e (.Slice lo none (some (.Constant (.int k) j p1)) p3) (.ref a) (.ref s4.heap.objs.size)) (EP X pins σ Q) X.xe { s4 with heap := s4.heap.push { cls := .type "slice", data := .fields #[vl, vu, vs] } }
  refine tail_any (ops := [.ref a, .ref s4.heap.objs.size]) ht.isList.typeIs (PySem.slot_list_getitem.lookup) ?_ (by with_unfolding_all rfl)
  refine wpAny_getItem_list_slice ht.isList (Heap.IsSliceOf.new _ vl vu vs) pl pu ps (by simpa using hk) ?_ (by rw [List.size_toArray]; omega)
  rw [pick_is]
  have e2 := pickG_len xs l none (some k)
  refine ⟨.ref _, _, I5.laid (t' := s4.toks) (o := .lst (pickG xs l none (some k))) (fun b ob q => Heap.get?_push_of_some _ q) (Nat.le_refl _) ?_, rfl, q _ (I5.hok.fresh (Nat.le_refl _))⟩
  refine ⟨by omega, _, 0, ?_, Heap.get?_push_size _ rfl⟩
  exact vals_pick r l none (some k)
end L2
namespace Wm
open PySem PySem.Spec PyProof.Rows L2
open Rep (rep)
open Own (own)
theorem reps.fm {wd : Wd} {G : Hp} {α : Type} [Rep α] {vs : List V} {as : List α} (r : reps wd G vs as) : ∀ js : List Nat, reps wd G (js.filterMap (vs[·]?)) (js.filterMap (as[·]?))
  | [] => trivial
  | j :: js => by
    rw [List.filterMap_cons, List.filterMap_cons]
    have hl := r.len
    by_cases c : j < as.length
    · obtain ⟨w, hw, rw'⟩ := r.get (List.getElem?_eq_getElem c)
      rw [List.getElem?_eq_getElem c, hw]
      exact ⟨rw', reps.fm r js⟩
    · rw [List.getElem?_eq_none (by omega), List.getElem?_eq_none (by omega)]
      exact reps.fm r js
variable [TabT]
section
variable {X : Cx} {F : Fx} {c : Ctx} {α : Type} {e : Expr} {pos : Pos}
theorem e_step [Rep α] {k : Int} {j : Nat} {lo : Option Expr} {m : Ctx.T c → Rs (List α)} {ml : Ctx.T c → Rs (Option Int)} {p1 p3 : Pos} (hK : F.wd.K = X.K) (hk : k ≠ 0) (he : PE X e (tX F kB c m)) (hl : PO X lo (tP F c ml)) :
    PE X (.Subscript e (.Slice lo none (some (.Constant (.int k) j p1)) p3) pos) (tX F kO c fun γ => (m γ).bind fun x => (ml γ).bind fun l => .ok (pickG x l none (some k))) :=
  pe_mono (pe_stepL hk he hl) fun σ H Q ⟨H0, G0, G, os, γ, st, p⟩ => ⟨H0, G0, G, os, γ, st, p.step kB fun v H1 G1 x f1 r1 p1 => ⟨H0, G0, G1, os, γ, st.ext f1, by
    cases e : ml γ with
    | no => rw [e] at p1; exact p1
    | ex x => rw [e] at p1; exact p1
    | ok l =>
      rw [e] at p1
      refine fun H2 G2 f2 => ?_
      have p2 := Post.ext p1 f2
      obtain ⟨q, o, e1, e2, vs, e3, e4, r⟩ := (kB (wd := F.wd)).stay r1 f2
      subst e1; subst e3
      have e5 := pickG_len vs l none (some k)
      refine ⟨q, vs, rfl, .of e2, fun d nd => p2 _ _ _ (Fr.alloc f2.gh nd) ⟨d, _, rfl, nd, f2.gh.free nd, upd_same, _, rfl, by omega, ?_⟩⟩
      unfold pickG
      rw [r.len]
      exact reps.fm r _⟩⟩
theorem m_slScript {wd : Wd} {W : WX} {σ : L2.St} {B H G : Hp} {x : V} {a : Script} {l h : Option Int} {Q : VK} (gh : SameL G H) (hx : (kF (wd := wd)).rel B H G x a) (hz : a.ns.length ≤ 1000) (p : Post W (kO (wd := wd)) σ H G Q (.ok (cutI a.ns l h))) : rSlL wd.K x l h H Q := by
  obtain ⟨q, e1, e2⟩ := hx
  subst e1
  refine ⟨q, a.ns.map V.int, rfl, gh.seq e2, fun d nd => p _ _ _ (Fr.alloc gh nd) ⟨d, _, rfl, nd, gh.free nd, upd_same, _, rfl, ?_, ?_⟩⟩
  · refine Nat.le_trans (cutV_length (a.ns.map V.int) l h) ?_
    rw [List.length_map]
    exact small_n hz
  · have e : cutV (a.ns.map V.int) l h = (cutI a.ns l h).map V.int := by
      unfold cutV cutI
      rw [List.length_map, ← List.map_drop, ← List.map_take]
    rw [e]
    exact reps.of_ints
/-- script[a:b] -/
theorem e_slScript {lo hi : Option Expr} {m : Ctx.T c → Rs Script} {ml mh : Ctx.T c → Rs (Option Int)} {p2 : Pos} (hK : F.wd.K = X.K) (he : PE X e (tX F kF c m)) (hl : PO X lo (tP F c ml)) (hu : PO X hi (tP F c mh)) :
    PE X (.Subscript e (.Slice lo hi none p2) pos) (tX F kO c fun γ => (m γ).bind fun x => (ml γ).bind fun l => (mh γ).bind fun h => if x.ns.length ≤ 1000 then .ok (cutI x.ns l h) else .no) :=
  e_sl (k1 := kF) (k3 := kO) (f := fun (x : Script) l h => if x.ns.length ≤ 1000 then .ok (cutI x.ns l h) else .no) sl_list (fun {W σ B H G x a l h Q} gh hx p => by
    by_cases hz : a.ns.length ≤ 1000
    · rw [if_pos hz] at p
      rw [← hK]
      exact m_slScript gh hx hz p
    · rw [if_neg hz] at p; exact p.elim) he hl hu
theorem e_tupR2 {a b : Expr} {ma mb : Ctx.T c → Rs Int} {p p2 pos2 : Pos} (hc : X.calm = true) (hl : X.mg "tuple" = none) (hm : X.mg "range" = none) (ha : PE X a (tX F kF c ma)) (hb : PE X b (tX F kF c mb)) (hgl : Gl X "tuple" := by rfl) (hg : Gl X "range" := by rfl)
    (na : starEach [a, b] X.env = (false, eval a X.env) :: starEach [b] X.env := by rfl) (nb : starEach [b] X.env = (false, eval b X.env) :: starEach [] X.env := by rfl) (hp : (backTo pos2 (starEach [b] X.env)).any (·.1) = false := by rfl) (ne : starEach [.Call (.Name "range" p2) [a, b] [] pos2] X.env = (false, eval (.Call (.Name "range" p2) [a, b] [] pos2) X.env) :: starEach [] X.env := by rfl) :
    PE X (.Call (.Name "tuple" p) [.Call (.Name "range" p2) [a, b] [] pos2] [] pos) (tX F kF c fun γ => (ma γ).bind fun x => (mb γ).bind fun y => (RngL x y).bind fun l => .ok (Tup.mk l)) :=
  pe_mono (pe_tupRg hc hgl hl (prg_2 hg hm ha hb na nb hp) ne) fun σ H Q ⟨H0, G0, G, os, γ, st, p⟩ => ⟨H0, G0, G, os, γ, st, p.step kF fun v H1 G1 x f1 r1 p1 => ⟨H0, G0, G1, os, γ, st.ext f1, p1.step kF fun w H2 G2 y f2 r2 p2 => by
    unfold RngL at p2
    by_cases hz : -4611686018427387904 ≤ x ∧ x ≤ 4611686018427387903 ∧ -4611686018427387904 ≤ y ∧ y ≤ 4611686018427387903 ∧ (y - x).toNat ≤ 16777216
    · rw [if_pos hz] at p2
      refine ⟨x, y, r1, r2, ⟨by omega, by omega, by omega, by omega, by omega⟩, fun d nd => p2 _ _ _ ((Fr.alloc f2.gh nd).freeze nd (f2.gh.free nd) upd_same) ⟨d, _, rfl, upd_same, _, rfl, by rw [rgV_length, sizeLine_eq]; exact hz.2.2.2.2, ?_⟩⟩
      rw [rgV_rng]
      exact reps.of_ints
    · rw [if_neg hz] at p2
      exact p2.elim⟩⟩
theorem e_tupR1 {a : Expr} {ma : Ctx.T c → Rs Int} {p p2 pos2 : Pos} (hc : X.calm = true) (hl : X.mg "tuple" = none) (hm : X.mg "range" = none) (ha : PE X a (tX F kF c ma)) (hgl : Gl X "tuple" := by rfl) (hg : Gl X "range" := by rfl)
    (na : starEach [a] X.env = (false, eval a X.env) :: starEach [] X.env := by rfl) (ne : starEach [.Call (.Name "range" p2) [a] [] pos2] X.env = (false, eval (.Call (.Name "range" p2) [a] [] pos2) X.env) :: starEach [] X.env := by rfl) :
    PE X (.Call (.Name "tuple" p) [.Call (.Name "range" p2) [a] [] pos2] [] pos) (tX F kF c fun γ => (ma γ).bind fun y => (RngL 0 y).bind fun l => .ok (Tup.mk l)) :=
  pe_mono (pe_tupRg hc hgl hl (prg_1 hg hm ha na) ne) fun σ H Q ⟨H0, G0, G, os, γ, st, p⟩ => ⟨H0, G0, G, os, γ, st, p.step kF fun v H1 G1 y f1 r1 p1 => by
    unfold RngL at p1
    by_cases hz : -4611686018427387904 ≤ (0 : Int) ∧ (0 : Int) ≤ 4611686018427387903 ∧ -4611686018427387904 ≤ y ∧ y ≤ 4611686018427387903 ∧ (y - 0).toNat ≤ 16777216
    · rw [if_pos hz] at p1
      refine ⟨y, r1, ⟨by omega, by omega, by omega, by omega, by omega⟩, fun d nd => p1 _ _ _ ((Fr.alloc f1.gh nd).freeze nd (f1.gh.free nd) upd_same) ⟨d, _, rfl, upd_same, _, rfl, by rw [rgV_length, sizeLine_eq]; exact hz.2.2.2.2, ?_⟩⟩
      rw [rgV_rng]
      exact reps.of_ints
    · rw [if_neg hz] at p1
      exact p1.elim⟩
end
/-! ### loops over a dict that may return -/
section
variable {X : Cx} {F : Fx} {c : Ctx} {κ α ρ : Type} [Rep κ] [KeyT κ] [Rep α] {i : Nat}
theorem Fr.back {H0 G0 H G H' G' : Hp} {d : Addr} {u : HO} {ps : List (Key × V)} {ob : Obj} (f : Fr H0 G0 H G) (hu : H d = some u) (hk : u = .dK ps ∨ u = .frz ob (.dK ps)) (f' : Fr (upd H0 d (.frz ob (.dK ps))) G H' G') : H' d = some (.frz ob (.dK ps)) ∧ Fr H0 G0 (upd H' d u) G' := by
  have hp : Pl u := pl_dk (by rcases hk with z | z; exact .inl z; exact .inr ⟨_, z⟩)
  have h1 : H' d = some (.frz ob (.dK ps)) := f'.h.v upd_same
  have h0d : H0 d = none ∨ H0 d = some u := by
    cases q : H0 d with
    | none => exact .inl rfl
    | some o =>
      refine .inr ?_
      rcases f.h d o q with k | ⟨⟨qs, k⟩, qs', k2⟩
      · rw [hu] at k; exact k.symm
      · rw [hu] at k2; cases k2
        exact absurd rfl (hp.1 qs')
  have gd : G' d = G d := by
    cases q : G' d with
    | none =>
      cases q2 : G d with
      | none => rfl
      | some o =>
        rcases f'.g d o q2 with k | ⟨_, qs, k⟩ <;> rw [q] at k <;> cases k
    | some o =>
      rcases f'.new d o q with k | k
      · exact k.symm
      · rw [upd_same] at k; cases k
  refine ⟨h1, fun x o h => ?_, f.g.trans f'.g, fun x o h => ?_, fun x o h => ?_, fun t => ?_⟩
  · by_cases z : x = d
    · subst z
      rw [upd_same]
      rcases h0d with k | k
      · rw [k] at h; cases h
      · rw [k] at h; exact .inl h
    · rw [upd_ne z]; exact f'.h x o (by rw [upd_ne z]; exact h)
  · by_cases z : x = d
    · subst z
      rw [gd] at h
      rcases f.gh x o h with k | ⟨⟨qs, k⟩, qs', k2⟩ | ⟨ob', qs, k, k2⟩
      · rw [hu] at k; rw [upd_same]; exact .inl k
      · rw [hu] at k2; cases k2
        exact absurd rfl (hp.1 qs')
      · rw [hu] at k2; rw [upd_same]
        exact .inr (.inr ⟨ob', qs, k, k2⟩)
    · rw [upd_ne z]; exact f'.gh x o h
  · rcases f'.new x o h with k | k
    · exact f.new x o k
    · by_cases z : x = d
      · subst z; rw [upd_same] at k; cases k
      · rw [upd_ne z] at k; exact .inr k
  · exact tabs_upd (f'.tb (lk_tabs t (h0d.imp id fun k => ⟨k, hp⟩))) h1 ⟨(fun _ z => nomatch z), (fun _ z => nomatch z)⟩
omit [TabT] in
/-- .. that may return -/
def inlM {α β ρ : Type} (f : α → β) (g : α ⊕ ρ) : β ⊕ ρ := match g with | .inl g => .inl (f g) | .inr r => .inr r
theorem g_lock {kr : Kd F.wd ρ} (hkr : kr.Un) {st : Stmt} {c' : Ctx} (l : Lk i κ α c c') (js : List Nat) (hj : (i :: Ctx.bos c) = js) {m : Ctx.T c' → Rs (Ctx.T c' ⊕ ρ)} {mm : Ctx.T c → Rs (Ctx.T c ⊕ ρ)} (h : ∀ σ0, PS X st (tG { F with n := F.n.fix js σ0 } kr c' c' m))
    (hm : ∀ γ, mm γ = (Rs.nox (m (l.go γ))).bind fun g => .ok (inlM (l.back γ) g) := by intro γ; rfl) : PS X st (tG F kr c c mm) := by
  rw [show mm = fun γ => (Rs.nox (m (l.go γ))).bind fun g => .ok (inlM (l.back γ) g) from funext hm]
  refine ⟨fun pins sh σ H D I ⟨H0, G0, G, os, γ, st, p⟩ => ?_⟩
  dsimp only at p
  obtain ⟨d, u, ps, hi, hd, hu, _⟩ := l.at_ st.f.gh st.f.h st.r
  cases em : m (l.go γ) with
  | no => rw [em] at p; exact p.elim
  | ex x => rw [em] at p; exact p.elim
  | ok g =>
    rw [em] at p
    rcases hu with hu | ⟨ob, hu⟩
    · subst hu
      refine (ps_lock (h σ)).run pins sh σ H D I ⟨d, _, hd, trivial, fun od => ?_⟩
      obtain ⟨os', st2⟩ := st.lock l hi hd (.inl rfl) (ob := od)
      refine ⟨_, _, _, os', _, st2.fixed js, ?_⟩
      rw [em]
      cases g with
      | inl g =>
        intro σ' H' G' os2 st3
        obtain ⟨h1, os3, st4⟩ := Stt.back l st hi hd (.inl rfl) hj st3
        exact ⟨h1, p _ _ _ _ st4⟩
      | inr r =>
        intro H' G' v f rr
        obtain ⟨h1, f1⟩ := Fr.back st.f hd (.inl rfl) f
        exact ⟨h1, p _ _ _ f1 (hkr rr h1)⟩
    · subst hu
      obtain ⟨os', st2⟩ := st.lock l hi hd (.inr rfl)
      have eH : upd H d (.frz ob (.dK ps)) = H := by
        funext b
        by_cases z : b = d
        · subst z; rw [upd_same, hd]
        · rw [upd_ne z]
      rw [eH] at st2
      refine (h σ).run pins sh σ H D I ⟨_, _, _, os', _, st2.fixed js, ?_⟩
      rw [em]
      have eH' : ∀ {H' : Hp}, H' d = some (.frz ob (.dK ps)) → upd H' d (.frz ob (.dK ps)) = H' := fun {H'} h1 => by
        funext b
        by_cases z : b = d
        · subst z; rw [upd_same, h1]
        · rw [upd_ne z]
      cases g with
      | inl g =>
        intro σ' H' G' os2 st3
        obtain ⟨h1, os3, st4⟩ := Stt.back l st hi hd (.inr rfl) hj st3
        rw [eH' h1] at st4
        exact p _ _ _ _ st4
      | inr r =>
        intro H' G' v f rr
        obtain ⟨h1, f1⟩ := Fr.back st.f hd (.inr rfl) f
        have r1 := hkr (u := .frz ob (.dK ps)) rr h1
        rw [eH' h1] at f1 r1
        exact p _ _ _ f1 r1
end
end Wm
set_option Elab.async false
set_option linter.all false
set_option maxRecDepth 100000
set_option maxHeartbeats 4000000
/-! texts: str(n), int(text), split, partition, startswith, f-strings of three parts, None in a list, casts of options -/
namespace Wm
open PySem PySem.Spec PyProof.Rows L2
open Rep (rep)
open Own (own)
variable [TabT]
omit [TabT] in
def strI (i : Int) : Rs Str := if i.natAbs.log2 < 1920 ∧ SOk (Str.ofString (toString i)) then .ok (Str.ofString (toString i)) else .no
theorem m_strI {wd : Wd} : Sem1 (wd := wd) kF kF (fun x => (fun xs H Q => ∃ i, xs = [V.int i] ∧ i.natAbs.log2 < 1920 ∧ Q (.str (toString i)) H : List V → Hp → VK → Prop) [x]) strI := by
  intro W σ B H G x a Q gh hx p
  rw [show x = .int a from hx]
  unfold strI at p
  by_cases h : a.natAbs.log2 < 1920 ∧ SOk (Str.ofString (toString a))
  · rw [if_pos h] at p
    exact ⟨a, rfl, h.1, p H G _ (Fr.refl gh) ⟨rfl, h.2⟩⟩
  · rw [if_neg h] at p
    exact p.elim
omit [TabT] in
def intS (a : Str) : Rs Int := match PySem.intText? a with | some n => if a.length ≤ 640 then .ok n else .no | none => .no
theorem m_intS {wd : Wd} : Sem1 (wd := wd) kF kF (fun x => (fun xs H Q => ∃ a n, xs = [V.str a] ∧ PySem.intText? a = some n ∧ a.length ≤ 640 ∧ Q (.int n) H : List V → Hp → VK → Prop) [x]) intS := by
  intro W σ B H G x a Q gh hx p
  rw [show x = .str a from hx.1]
  unfold intS at p
  cases e : PySem.intText? a with
  | none => rw [e] at p; exact p.elim
  | some n =>
    rw [e] at p
    dsimp only at p
    by_cases h : a.length ≤ 640
    · rw [if_pos h] at p
      exact ⟨a, n, rfl, e, h, p H G _ (Fr.refl gh) rfl⟩
    · rw [if_neg h] at p
      exact p.elim
section
variable {X : Cx} {F : Fx} {c : Ctx} {δ : Type} {k3 : Kd F.wd δ} {o e : Expr} {pos apos : Pos} {mo me : Ctx.T c → Rs Str}
/-- a method of a text, of a text -/
theorem e_sm1 {id : String} {name : Str} {r : V → List V → Hp → VK → Prop} {f : Str → Str → Rs δ} (slot : Slot "str" name id) (ty : typeOf (.builtin id) = pure (.type "method_descriptor")) (rule : MtR X id r)
    (hs : ∀ {W : WX} {σ : L2.St} {H G : Hp} {a b : Str} {Q : VK}, SameL G H → SOk a → SOk b → Post W k3 σ H G Q (f a b) → r (.str a) [.str b] H Q)
    (ho : PE X o (tX F kF c mo)) (he : PE X e (tX F kF c me)) (hz : starEach [e] X.env = [(false, eval e X.env)] := by rfl) (hbase : attributeBase o name X.env (eval o X.env) = eval o X.env := by rfl) (hline : (apos.endLine == pos.line) = true := by rfl) :
    PE X (.Call (.Attribute o name apos) [e] [] pos) (tX F k3 c fun γ => (mo γ).bind fun a => (me γ).bind fun b => f a b) :=
  pe_mono (pe_m1 slot ty rule ho he hz hbase hline) fun σ H Q ⟨H0, G0, G, os, γ, st, p⟩ => ⟨H0, G0, G, os, γ, st, p.step kF fun v H1 G1 a f1 r1 p1 => ⟨⟨a, r1.1⟩, H0, G0, G1, os, γ, st.ext f1, p1.step kF fun w H2 G2 b f2 r2 p2 => by
    rw [show v = .str a from r1.1, show w = .str b from r2.1]
    exact hs f2.gh r1.2 r2.2 p2⟩⟩
end
omit [TabT] in
open Classical in
noncomputable def splitS (a b : Str) : Rs (List Str) := if (b.length == 0) = false ∧ a.length + 2 ≤ sizeLine ∧ (Txt.split a b).length ≤ 16777216 ∧ ∀ z ∈ Txt.split a b, SOk z then .ok (Txt.split a b) else .no
theorem m_splitS {wd : Wd} {W : WX} {σ : L2.St} {H G : Hp} {a b : Str} {Q : VK} (gh : SameL G H) (p : Post W (kO : Kd wd (List Str)) σ H G Q (splitS a b)) :
    (fun x xs H Q => ∃ a b, x = V.str a ∧ xs = [V.str b] ∧ (b.length == 0) = false ∧ a.length + 2 ≤ sizeLine ∧ rNewStrs (Txt.split a b) H Q : V → List V → Hp → VK → Prop) (.str a) [.str b] H Q := by
  unfold splitS at p
  by_cases h : (b.length == 0) = false ∧ a.length + 2 ≤ sizeLine ∧ (Txt.split a b).length ≤ 16777216 ∧ ∀ z ∈ Txt.split a b, SOk z
  · rw [if_pos h] at p
    exact ⟨a, b, rfl, rfl, h.1, h.2.1, fun d nd => p _ _ _ (Fr.alloc gh nd) ⟨d, _, rfl, nd, gh.free nd, upd_same, _, rfl, by rw [List.length_map]; exact h.2.2.1, reps.of_strs h.2.2.2⟩⟩
  · rw [if_neg h] at p
    exact p.elim
omit [TabT] in
open Classical in
noncomputable def partS (a b : Str) : Rs (Nt (Str × Str × Str × Unit)) := if (b.length == 0) = false ∧ a.length ≤ sizeLine ∧ SOk (Txt.partition a b).1 ∧ SOk (Txt.partition a b).2.1 ∧ SOk (Txt.partition a b).2.2 then .ok ⟨((Txt.partition a b).1, (Txt.partition a b).2.1, (Txt.partition a b).2.2, ())⟩ else .no
theorem m_partS {wd : Wd} {W : WX} {σ : L2.St} {H G : Hp} {a b : Str} {Q : VK} (gh : SameL G H) (p : Post W (kF : Kd wd (Nt (Str × Str × Str × Unit))) σ H G Q (partS a b)) :
    (fun x xs H Q => ∃ a b, x = V.str a ∧ xs = [V.str b] ∧ (b.length == 0) = false ∧ a.length ≤ sizeLine ∧
    ∀ p, H p = none → Q (.ref p) (upd H p (.tup [.str (Txt.partition a b).1, .str (Txt.partition a b).2.1, .str (Txt.partition a b).2.2])) : V → List V → Hp → VK → Prop) (.str a) [.str b] H Q := by
  unfold partS at p
  by_cases h : (b.length == 0) = false ∧ a.length ≤ sizeLine ∧ SOk (Txt.partition a b).1 ∧ SOk (Txt.partition a b).2.1 ∧ SOk (Txt.partition a b).2.2
  · rw [if_pos h] at p
    exact ⟨a, b, rfl, rfl, h.1, h.2.1, fun d nd => p _ _ _ ((Fr.alloc gh nd).freeze nd (gh.free nd) upd_same) ⟨d, _, rfl, upd_same, _, rfl, by simp [sizeLine_eq], _, _, rfl, ⟨rfl, h.2.2.1⟩, _, _, rfl, ⟨rfl, h.2.2.2.1⟩, _, _, rfl, ⟨rfl, h.2.2.2.2⟩, rfl⟩⟩
  · rw [if_neg h] at p
    exact p.elim
theorem m_startsS {wd : Wd} {W : WX} {σ : L2.St} {H G : Hp} {a b : Str} {Q : VK} (gh : SameL G H) (p : Post W (kF : Kd wd Bool) σ H G Q (.ok (Txt.startswith a b))) :
    (fun x xs H Q => ∃ a b, x = V.str a ∧ xs = [V.str b] ∧ Q (.bl (Txt.startswith a b)) H : V → List V → Hp → VK → Prop) (.str a) [.str b] H Q :=
  ⟨a, b, rfl, rfl, p H G _ (Fr.refl gh) rfl⟩
section
variable {X : Cx} {F : Fx} {c : Ctx} {o e : Expr} {pos apos : Pos} {mo me : Ctx.T c → Rs Str}
theorem e_split (ho : PE X o (tX F kF c mo)) (he : PE X e (tX F kF c me)) (hz : starEach [e] X.env = [(false, eval e X.env)] := by rfl) (hbase : attributeBase o "split" X.env (eval o X.env) = eval o X.env := by rfl) (hline : (apos.endLine == pos.line) = true := by rfl) :
    PE X (.Call (.Attribute o "split" apos) [e] [] pos) (tX F kO c fun γ => (mo γ).bind fun a => (me γ).bind fun b => splitS a b) :=
  e_sm1 PySem.F.slot_str_split PySem.F.type_str_split mt_split (fun gh _ _ p => m_splitS gh p) ho he hz hbase hline
theorem e_partition (ho : PE X o (tX F kF c mo)) (he : PE X e (tX F kF c me)) (hz : starEach [e] X.env = [(false, eval e X.env)] := by rfl) (hbase : attributeBase o "partition" X.env (eval o X.env) = eval o X.env := by rfl) (hline : (apos.endLine == pos.line) = true := by rfl) :
    PE X (.Call (.Attribute o "partition" apos) [e] [] pos) (tX F kF c fun γ => (mo γ).bind fun a => (me γ).bind fun b => partS a b) :=
  e_sm1 PySem.F.slot_str_partition PySem.F.type_str_partition mt_partition (fun gh _ _ p => m_partS gh p) ho he hz hbase hline
theorem e_starts (ho : PE X o (tX F kF c mo)) (he : PE X e (tX F kF c me)) (hz : starEach [e] X.env = [(false, eval e X.env)] := by rfl) (hbase : attributeBase o "startswith" X.env (eval o X.env) = eval o X.env := by rfl) (hline : (apos.endLine == pos.line) = true := by rfl) :
    PE X (.Call (.Attribute o "startswith" apos) [e] [] pos) (tX F kF c fun γ => (mo γ).bind fun a => (me γ).bind fun b => .ok (Txt.startswith a b)) :=
  e_sm1 PySem.F.slot_str_startswith PySem.F.type_str_startswith mt_startswith (fun gh _ _ p => m_startsS gh p) ho he hz hbase hline
/-! ### f-strings -/
omit [TabT] in
def fmtS (y : Str) : Rs Str := if y.length ≤ sizeLine then .ok y else .no
theorem e_fmtI {m : Ctx.T c → Rs Int} (h : PE X e (tX F kF c m)) : PE X (.FormattedValue e (-1) none pos) (tX F kF c fun γ => (m γ).bind strI) :=
  pe_mono (pe_fmt h) fun σ H Q ⟨H0, G0, G, os, γ, st, p⟩ => ⟨H0, G0, G, os, γ, st, p.step kF fun v H1 G1 a f1 r1 p1 => by
    rw [show v = .int a from r1]
    refine .inr ?_
    unfold strI at p1
    by_cases h : a.natAbs.log2 < 1920 ∧ SOk (Str.ofString (toString a))
    · rw [if_pos h] at p1
      exact ⟨a, rfl, h.1, p1 H1 G1 _ (Fr.refl f1.gh) ⟨rfl, h.2⟩⟩
    · rw [if_neg h] at p1
      exact p1.elim⟩
theorem e_fmtS (h : PE X e (tX F kF c me)) : PE X (.FormattedValue e (-1) none pos) (tX F kF c fun γ => (me γ).bind fmtS) :=
  pe_mono (pe_fmt h) fun σ H Q ⟨H0, G0, G, os, γ, st, p⟩ => ⟨H0, G0, G, os, γ, st, p.step kF fun v H1 G1 a f1 r1 p1 => by
    rw [show v = .str a from r1.1]
    refine .inl ?_
    unfold fmtS at p1
    by_cases h : a.length ≤ sizeLine
    · rw [if_pos h] at p1
      exact ⟨a, rfl, h, p1 H1 G1 _ (Fr.refl f1.gh) ⟨rfl, r1.2⟩⟩
    · rw [if_neg h] at p1
      exact p1.elim⟩
omit [TabT] in
def lenS (r : Str) : Rs Str := if r.length ≤ sizeLine then .ok r else .no
omit [TabT] in
def finS (r : Str) : Rs Str := if r.length ≤ sizeLine ∧ SOk r then .ok r else .no
theorem e_fs3 {a b d : Expr} {ma mb md : Ctx.T c → Rs Str} (ha : PE X a (tX F kF c ma)) (hb : PE X b (tX F kF c mb)) (hd : PE X d (tX F kF c md)) :
    PE X (.JoinedStr [a, b, d] pos) (tX F kF c fun γ => (ma γ).bind fun x => (lenS (Str.empty ++ x)).bind fun r1 => (mb γ).bind fun y => (lenS (r1 ++ y)).bind fun r2 => (md γ).bind fun z => finS (r2 ++ z)) :=
  pe_mono (pe_joined (.cons ha (.cons hb (.cons hd .nil)))) fun σ H Q ⟨H0, G0, G, os, γ, st, p⟩ => ⟨H0, G0, G, os, γ, st, p.step kF fun v H1 G1 x f1 r1 p1 => by
    unfold lenS at p1
    by_cases h1 : (Str.empty ++ x).length ≤ sizeLine
    · rw [if_pos h1] at p1
      refine ⟨x, r1.1, h1, H0, G0, G1, os, γ, st.ext f1, Post.step (f := fun y => (lenS (Str.empty ++ x ++ y)).bind fun r2 => (md γ).bind fun z => finS (r2 ++ z)) p1 kF fun v2 H2 G2 y f2 r2 p2 => ?_⟩
      unfold lenS at p2
      by_cases h2 : (Str.empty ++ x ++ y).length ≤ sizeLine
      · rw [if_pos h2] at p2
        refine ⟨y, r2.1, h2, H0, G0, G2, os, γ, (st.ext f1).ext f2, Post.step (f := fun z => finS (Str.empty ++ x ++ y ++ z)) p2 kF fun v3 H3 G3 z f3 r3 p3 => ?_⟩
        unfold finS at p3
        by_cases h3 : (Str.empty ++ x ++ y ++ z).length ≤ sizeLine ∧ SOk (Str.empty ++ x ++ y ++ z)
        · rw [if_pos h3] at p3
          exact ⟨z, r3.1, h3.1, p3 _ _ _ (Fr.refl f3.gh) ⟨rfl, h3.2⟩⟩
        · rw [if_neg h3] at p3
          exact p3.elim
      · rw [if_neg h2] at p2
        exact p2.elim
    · rw [if_neg h1] at p1
      exact p1.elim⟩
end
/-! ### None in a list -/
omit [TabT] in
theorem vals_opt {wd : Wd} {G : Hp} : ∀ {as : List (Option Int)} {vs : List V}, reps wd G vs as → vs.all flatV = true ∧ inV .non vs = decide (none ∈ as)
  | [], [], _ => ⟨rfl, rfl⟩
  | none :: as, v :: vs, ⟨h, t⟩ => by
    obtain ⟨t1, t2⟩ := vals_opt t
    rw [show v = .non from h]
    exact ⟨t1, by rw [decide_eq_true (show none ∈ none :: as from List.mem_cons_self)]; rfl⟩
  | some i :: as, v :: vs, ⟨h, t⟩ => by
    obtain ⟨t1, t2⟩ := vals_opt t
    rw [show v = .int i from h]
    refine ⟨t1, ?_⟩
    show (false || inV .non vs) = _
    rw [t2, Bool.false_or]
    congr 1
    simp
  | [], _ :: _, h => h.elim
  | _ :: _, [], h => h.elim
theorem m_inNone {wd : Wd} {K : PySem.W.Frag} : Sem2 (wd := wd) kF kB kF (rIn K false) (fun (_ : Unit) (as : List (Option Int)) => .ok (decide (none ∈ as))) := by
  intro W σ B1 B2 H G x y a as Q gh hx ⟨q, o, e1, e2, vs, e3, e4, r⟩ p
  subst e1; subst e3
  rw [show x = .non from hx]
  obtain ⟨h1, h2⟩ := vals_opt r
  refine ⟨q, _, rfl, .inl (.of e2), rfl, h1, ?_⟩
  show Q (.bl (inV _ _)) H
  rw [h2]
  exact p H G _ (Fr.refl gh) rfl
theorem m_niNone {wd : Wd} {K : PySem.W.Frag} : Sem2 (wd := wd) kF kB kF (rIn K true) (fun (_ : Unit) (as : List (Option Int)) => .ok (!decide (none ∈ as))) := by
  intro W σ B1 B2 H G x y a as Q gh hx ⟨q, o, e1, e2, vs, e3, e4, r⟩ p
  subst e1; subst e3
  rw [show x = .non from hx]
  obtain ⟨h1, h2⟩ := vals_opt r
  refine ⟨q, _, rfl, .inl (.of e2), rfl, h1, ?_⟩
  show Q (.bl (!inV _ _)) H
  rw [h2]
  exact p H G _ (Fr.refl gh) rfl
/-! ### texts in order -/
omit [TabT] in
def leT (a b : Str) : Bool := !decide (b.cps.toList < a.cps.toList)
theorem m_leT {wd : Wd} : Sem2 (wd := wd) kF kF kF (fun x y H Q => ∃ i j, x = V.str i ∧ y = .str j ∧ Q (.bl (!decide (j.cps.toList < i.cps.toList))) H) (fun (a b : Str) => .ok (leT a b)) := by
  intro W σ B1 B2 H G x y a b Q gh hx hy p
  rw [show x = .str a from hx.1, show y = .str b from hy.1]
  exact ⟨a, b, rfl, rfl, p H G _ (Fr.refl gh) rfl⟩
/-! ### a list of options, none of them None -/
omit [TabT] in
def allO {α : Type} (xs : List (Option α)) : Rs (List α) := if xs.all (·.isSome) = true then .ok (xs.filterMap id) else .no
omit [TabT] in
theorem reps_all {α : Type} [Rep α] {wd : Wd} {G : Hp} : ∀ {vs : List V} {as : List (Option α)}, reps wd G vs as → as.all (·.isSome) = true → reps wd G vs (as.filterMap id)
  | [], [], _, _ => trivial
  | v :: vs, none :: as, _, h => by cases h
  | v :: vs, some a :: as, ⟨h, t⟩, k => ⟨h, reps_all t k⟩
  | [], _ :: _, h, _ => h.elim
  | _ :: _, [], h, _ => h.elim
section
variable {X : Cx} {F : Fx} {c : Ctx} {e : Expr} {α : Type} [Rep α]
theorem e_allB {m : Ctx.T c → Rs (List (Option α))} (h : PE X e (tX F kB c m)) : PE X e (tX F kB c fun γ => (m γ).bind allO) :=
  pe_mono h fun σ H Q ⟨H0, G0, G, os, γ, st, p⟩ => ⟨H0, G0, G, os, γ, st, p.step kB fun v H1 G1 xs f1 ⟨q, o, e1, e2, vs, e3, e4, r⟩ p1 => by
    unfold allO at p1
    by_cases hx : xs.all (·.isSome) = true
    · rw [if_pos hx] at p1
      exact p1 _ _ _ (Fr.refl f1.gh) ⟨q, o, e1, e2, vs, e3, e4, reps_all r hx⟩
    · rw [if_neg hx] at p1
      exact p1.elim⟩
end
/-! ### (a, b, c) = a tuple of three -/
section
variable {X : Cx} {F : Fx} {c : Ctx} {α β δ : Type}
theorem g_nt3 [Rep α] [Rep β] [Rep δ] {i j k : Nat} {K : PySem.W.Frag} (hi : F.n.lt i) (hj : F.n.lt j) (hk : F.n.lt k) (hn : Ctx.not i c = true) (hm : Ctx.not j (.fz i α :: c) = true) (ho : Ctx.not k (.fz j β :: .fz i α :: c) = true) :
    TgtOk F (gTup K 3 (gCons (gName i) (gCons (gName j) (gCons (gName k) gNil)))) (α := Nt (α × β × δ × Unit)) c (.fz k δ :: .fz j β :: .fz i α :: c) fun a γ => (a.v.2.2.1, a.v.2.1, a.v.1, γ) := fun {H0 G0 σ H G os γ v a Q} st r q => by
  obtain ⟨p, o, e1, e2, vs, e3, e4, r⟩ := r
  subst e3
  obtain ⟨v1, vs1, q1, r1, t1⟩ := r
  obtain ⟨v2, vs2, q2, r2, t2⟩ := t1
  obtain ⟨v3, vs3, q3, r3, t3⟩ := t2
  have q4 : vs3 = [] := t3
  subst q4; subst q3; subst q2; subst q1
  exact ⟨p, [v1, v2, v3], e1, .of (st.f.gh.v e2), rfl, v1, [v2, v3], rfl, v2, [v3], rfl, v3, [], rfl, rfl, q _ (R.push (R.push (R.push st hi hn r1) hj hm r2) hk ho r3)⟩
end
/-! ### a list made under the lock of a dict -/
section
variable {X : Cx} {F : Fx} {c : Ctx} {κ α : Type} [Rep κ] [KeyT κ] [Rep α] {i : Nat}
theorem Stt.backW {j : Nat} {β : Type} [Own β] {n : Sl} {wd : Wd} {H0 G0 H G H' G' : Hp} {σ σ' : L2.St} {os os' : List Addr} {c c' : Ctx} {js : List Nat} (l : Lk i κ α c c') {γ : Ctx.T c} {g : Ctx.T (@Ent.ow j β _ :: c')} (st : Stt wd n H0 G0 σ H G os c γ) {d : Addr} {u : HO} {ps : List (Key × V)} {ob : Obj} (hd : σ[i]? = some (some (.ref d))) (hu : H d = some u) (hk : u = .dK ps ∨ u = .frz ob (.dK ps)) (hj : (i :: Ctx.bos c) = js)
    (st' : Stt wd (n.fix js σ) (upd H0 d (.frz ob (.dK ps))) G σ' H' G' os' (@Ent.ow j β _ :: c') g) : H' d = some (.frz ob (.dK ps)) ∧ ∃ os'', Stt wd n H0 G0 σ' (upd H' d u) G' os'' (@Ent.ow j β _ :: c) (g.1, l.back γ g.2) := by
  have hp : Pl u := pl_dk (by rcases hk with z | z; exact .inl z; exact .inr ⟨_, z⟩)
  have keep := st'.len.2.2
  have hd' : σ'[i]? = some (some (.ref d)) := by rw [keep i (by rw [← hj]; exact List.mem_cons_self)]; exact hd
  have h1 : H' d = some (.frz ob (.dK ps)) := st'.f.h.v upd_same
  have h0d : H0 d = none ∨ H0 d = some u := by
    cases q : H0 d with
    | none => exact .inl rfl
    | some o =>
      refine .inr ?_
      rcases st.f.h d o q with k | ⟨⟨qs, k⟩, qs', k2⟩
      · rw [hu] at k; exact k.symm
      · rw [hu] at k2; cases k2
        exact absurd rfl (hp.1 qs')
  have gd : G' d = G d := by
    cases q : G' d with
    | none =>
      cases q2 : G d with
      | none => rfl
      | some o =>
        rcases st'.f.g d o q2 with k | ⟨_, qs, k⟩ <;> rw [q] at k <;> cases k
    | some o =>
      rcases st'.f.new d o q with k | k
      · exact k.symm
      · rw [upd_same] at k; cases k
  have nd' := st'.nd
  have fr' := st'.fr
  have r0 := st'.r
  obtain ⟨q, o, os1, e0, k1, k2, k3, r'⟩ := r0
  subst e0
  have nm : d ∉ q :: os1 := fun z => by have := (fr' d z).2; rw [upd_same] at this; cases this
  obtain ⟨n1, nd1⟩ := List.nodup_cons.mp nd'
  obtain ⟨osx, a0, b0, c0⟩ := l.rb st'.f.g hu hd hd' st.nd nd1 st.fr (fun p hp => fr' p (List.mem_cons_of_mem _ hp)) gd (fun j hjm => keep j (by rw [← hj]; exact List.mem_cons_of_mem _ hjm)) st.r r'
  have nq : q ≠ d := fun z => nm (by rw [z]; exact List.mem_cons_self)
  obtain ⟨f1, f2⟩ := fr' q List.mem_cons_self
  rw [upd_ne nq] at f2
  obtain ⟨os'', a, b, e⟩ : ∃ os'', R wd H0 σ' (upd H' d u) G' (@Ent.ow j β _ :: c) (g.1, l.back γ g.2) os'' ∧ os''.Nodup ∧ ∀ p ∈ os'', (G' p = none ∧ H0 p = none) ∧ (p ∈ q :: os1 ∨ p = d) := by
    refine ⟨q :: osx, ⟨q, o, osx, rfl, k1, by rw [upd_ne nq]; exact k2, k3, a0⟩, List.nodup_cons.mpr ⟨fun z => ?_, b0⟩, fun p hp => ?_⟩
    · rcases (c0 q z).2 with z | z
      · exact n1 z
      · exact nq z
    · rcases List.mem_cons.mp hp with z | hp
      · subst z
        exact ⟨⟨f1, f2⟩, .inl List.mem_cons_self⟩
      · exact ⟨(c0 p hp).1, (c0 p hp).2.imp_left (List.mem_cons_of_mem _)⟩
  refine ⟨h1, os'', ⟨st'.len.1, st'.len.2.1⟩, ⟨fun x o h => ?_, st.f.g.trans st'.f.g, fun x o h => ?_, fun x o h => ?_, fun t => ?_⟩, b, fun p hp => (e p hp).1, a, st.t⟩
  · by_cases z : x = d
    · subst z
      rw [upd_same]
      rcases h0d with k | k
      · rw [k] at h; cases h
      · rw [k] at h; exact .inl h
    · rw [upd_ne z]; exact st'.f.h x o (by rw [upd_ne z]; exact h)
  · by_cases z : x = d
    · subst z
      rw [gd] at h
      rcases st.f.gh x o h with k | ⟨⟨qs, k⟩, qs', k2⟩ | ⟨ob', qs, k, k2⟩
      · rw [hu] at k; rw [upd_same]; exact .inl k
      · rw [hu] at k2; cases k2
        exact absurd rfl (hp.1 qs')
      · rw [hu] at k2; rw [upd_same]
        exact .inr (.inr ⟨ob', qs, k, k2⟩)
    · rw [upd_ne z]; exact st'.f.gh x o h
  · rcases st'.f.new x o h with k | k
    · exact st.f.new x o k
    · by_cases z : x = d
      · subst z; rw [upd_same] at k; cases k
      · rw [upd_ne z] at k; exact .inr k
  · exact tabs_upd (st'.f.tb (lk_tabs t (h0d.imp id fun k => ⟨k, hp⟩))) h1 ⟨(fun _ z => nomatch z), (fun _ z => nomatch z)⟩
theorem s_lockW {j : Nat} {β : Type} [Own β] {st : Stmt} {c' : Ctx} (l : Lk i κ α c c') (js : List Nat) (hj : (i :: Ctx.bos c) = js) {m : Ctx.T c' → Rs (Ctx.T (@Ent.ow j β _ :: c'))} {mm : Ctx.T c → Rs (Ctx.T (@Ent.ow j β _ :: c))} (h : ∀ σ0, PS X st (tS { F with n := F.n.fix js σ0 } c' (@Ent.ow j β _ :: c') m)) (hm : ∀ γ, mm γ = (Rs.nox (m (l.go γ))).bind fun g => .ok (g.1, l.back γ g.2) := by intro γ; rfl) : PS X st (tS F c (@Ent.ow j β _ :: c) mm) := by
  rw [show mm = fun γ => (Rs.nox (m (l.go γ))).bind fun g => .ok (g.1, l.back γ g.2) from funext hm]
  refine ⟨fun pins sh σ H D I ⟨H0, G0, G, os, γ, st, p⟩ => ?_⟩
  dsimp only at p
  obtain ⟨d, u, ps, hi, hd, hu, _⟩ := l.at_ st.f.gh st.f.h st.r
  cases em : m (l.go γ) with
  | no => rw [em] at p; exact p.elim
  | ex x => rw [em] at p; exact p.elim
  | ok g =>
    rw [em] at p
    rcases hu with hu | ⟨ob, hu⟩
    · subst hu
      refine (ps_lock (h σ)).run pins sh σ H D I ⟨d, _, hd, trivial, fun od => ?_⟩
      obtain ⟨os', st2⟩ := st.lock l hi hd (.inl rfl) (ob := od)
      refine ⟨_, _, _, os', _, st2.fixed js, ?_⟩
      rw [em]
      intro σ' H' G' os2 st3
      obtain ⟨h1, os3, st4⟩ := Stt.backW l st hi hd (.inl rfl) hj st3
      exact ⟨h1, p _ _ _ _ st4⟩
    · subst hu
      obtain ⟨os', st2⟩ := st.lock l hi hd (.inr rfl)
      have eH : upd H d (.frz ob (.dK ps)) = H := by
        funext b
        by_cases z : b = d
        · subst z; rw [upd_same, hd]
        · rw [upd_ne z]
      rw [eH] at st2
      refine (h σ).run pins sh σ H D I ⟨_, _, _, os', _, st2.fixed js, ?_⟩
      rw [em]
      intro σ' H' G' os2 st3
      obtain ⟨h1, os3, st4⟩ := Stt.backW l st hi hd (.inr rfl) hj st3
      have eH' : upd H' d (.frz ob (.dK ps)) = H' := by
        funext b
        by_cases z : b = d
        · subst z; rw [upd_same, h1]
        · rw [upd_ne z]
      rw [eH'] at st4
      exact p _ _ _ _ st4
end
end Wm
set_option Elab.async false
set_option linter.all false
set_option maxRecDepth 100000
set_option maxHeartbeats 4000000
/-! list(o), o of an own class whose __iter__ hands back a tuple's iterator and that has an own __len__ -/
namespace Wm
open PySem PySem.Spec PyProof.Rows L2
open Rep (rep)
open Own (own)
variable [TabT]
theorem bt_iter : bootBuiltins "iter" = some (.builtin "iter") := by decide +kernel
omit [TabT] in
/-- at it an iterator over the tuple at t -/
def ItU (t it : Addr) (i : Nat) : HO := .ext fun h => h.IsTupleIter it t i
omit [TabT] in
def ItV (it : Addr) : HO := .ext fun h => ∃ o, h.get? it = some o
omit [TabT] in
theorem itU_ok {P : Program} {w : World} {H : Hp} {h : Heap} {t it : Addr} {i : Nat} (e : h.IsTupleIter it t i) : ObjOk P w H h it (ItU t it i) := ⟨e, ⟨e.choose, e.choose_spec.1⟩, fun h1 h2 q k => Heap.IsTupleIter.at q fun o ho => k _ ho⟩
omit [TabT] in
theorem itV_ok {P : Program} {w : World} {H : Hp} {h : Heap} {it : Addr} (e : ∃ o, h.get? it = some o) : ObjOk P w H h it (ItV it) := ⟨e, e, fun h1 h2 ⟨o, q⟩ k => ⟨o, k _ q⟩⟩
omit [TabT] in
theorem itU_get {X : Cx} {pins : List (Addr × Obj)} {σ : L2.St} {H : Hp} {s : Shared} {t it : Addr} {i : Nat} (I : Inv X pins σ H s) (e : H it = some (ItU t it i)) : s.heap.IsTupleIter it t i := (I.hok it _ e).1
omit [TabT] in
theorem iter_tup {prog : Program} {w : World} {A : Around} {E : Value → Shared → Prop} {s : Shared} {l : Addr} {items : Array Value} {Q : Value → Shared → Prop} (hl : s.heap.IsTuple l items)
    (h : Q (.ref s.heap.objs.size) { s with heap := s.heap.push { cls := .type "tuple_iterator", data := .fields #[.ref l, .int 0 0] } }) : wpAny (model prog w) A (call (.builtin "iter") [.ref l]) Q E s := by
  refine Calls.call_function_entry (by decide +kernel) (by decide +kernel) PySem.W.kdk_entry_iter (PySem.W.kdk_args_iter _) ?_
  unfold Builtin.«iter»
  refine wpAny_bind (m := someArgs "iter" 1 2 _) (wpAny_of_eq (a := [Value.ref l]) (by first | rfl | kernel_rfl!) ?_)
  show wpAny _ _ (pyIter (.ref l) >>= _) _ _ _
  refine wpAny_bind (wpAny_pyIter_tuple hl ?_)
  exact wpAny_pure ⟨_, rfl, h⟩
omit [TabT] in
def rIterT (K : PySem.W.Frag) : List V → Hp → VK → Prop := fun xs H Q => ∃ (l : Addr) (zs : List V), xs = [.ref l] ∧ SqT K H l zs ∧ ∀ it, H it = none → Q (.ref it) (upd H it (ItU l it 0))
omit [TabT] in
theorem call_iterT {X : Cx} : CallR X (.builtin "iter") (rIterT X.K) := by
  intro pins s σ H xs us Q I r h
  obtain ⟨l, zs, rfl, hq, q⟩ := h
  obtain ⟨u, rfl, ru⟩ := vals1 r
  cases ru
  obtain ⟨its, rv, ⟨o, ho, hc, n, hd⟩, hz⟩ := I.tuple hq
  refine iter_tup ⟨o, ho, hc, n, hd⟩ ?_
  exact ⟨.ref s.heap.objs.size, _, I.laid (t' := s.toks) (fun b u e => Heap.get?_push_of_some _ e) (Nat.le_refl _) (itU_ok ⟨_, Heap.get?_push_size _ rfl, rfl, rfl⟩), rfl, q _ (I.hok.fresh (Nat.le_refl _))⟩
/-- a fresh iterator over a tuple -/
def kI {wd : Wd} {α : Type} [Rep α] : Kd wd (Tup α) :=
  ⟨fun B H G v a => ∃ it t, v = .ref it ∧ B it = none ∧ G it = none ∧ H it = some (ItU t it 0) ∧ rep wd G (.ref t) a,
   fun ⟨it, t, e, n, g, h, r⟩ f => ⟨it, t, e, n, f.out h g, f.h.nt h (fun _ z => nomatch z), Rep.mono f.g r⟩,
   fun s ⟨it, t, e, n, g, h, r⟩ => ⟨it, t, e, s.free n, g, h, r⟩⟩
theorem m_iter {wd : Wd} {K : PySem.W.Frag} {α : Type} [Rep α] : Sem1 (wd := wd) kF kI (fun x => rIterT K [x]) (fun (a : Tup α) => .ok a) := by
  intro W σ B H G x a Q gh hx p
  obtain ⟨q, o, e1, e2, vs, e3, e4, r⟩ := id hx
  subst e1; subst e3
  exact ⟨q, vs, rfl, .of (gh.v e2), fun d nd => p _ _ _ (Fr.alloc gh nd) ⟨d, q, rfl, nd, gh.free nd, upd_same, hx⟩⟩
omit [TabT] in
/-- the tuple's iterator ends -/
theorem next_endT {prog : Program} {w : World} {A : Around} {E : Value → Shared → Prop} {s : Shared} {it t : Addr} {i : Nat} {items : Array Value} {Q : Option Value → Shared → Prop} (hh : A.handled = none)
    (hit : s.heap.IsTupleIter it t i) (ht : s.heap.IsTuple t items) (hx : items[i]? = none)
    (hQ : ∀ h', Heap.ExtBut it s.heap h' → (∃ o, h'.get? it = some o) → Q none { s with heap := h' }) : wpAny (model prog w) A (pyNext (.ref it)) Q E s := by
  obtain ⟨o, ho, hc, hd⟩ := id hit
  obtain ⟨ol, hol, _, nl, hdl⟩ := ht
  unfold pyNext
  refine wpAny_bind (wpAny_attempt (wpAny_callSpecial?_slot (name := Str.ofString "__next__") hit.typeIs F.slot_tuple_iterator_next
    (wpAny_call_entry F.slot_tuple_iterator_next hit.typeIs F.entry_tuple_iterator_next ?_ (F.args_tuple_iterator_next_1 _))))
  show wpAny _ _ (field (.ref it) 0 >>= _) _ _ s
  refine wpAny_bind (wpAny_field ho hd (x := .ref t) rfl ?_)
  show wpAny _ _ (if (Value.ref t == Value.none) = true then _ else _) _ _ s
  rw [if_neg (show ¬ ((Value.ref t == Value.none) = true) from Bool.false_ne_true)]
  show wpAny _ _ (field (.ref it) 1 >>= _) _ _ s
  refine wpAny_bind (wpAny_field ho hd (x := .int i 0) rfl ?_)
  show wpAny _ _ (seqItems? (.ref t) >>= _) _ _ s
  refine wpAny_bind (wpAny_seqItems hol hdl ?_)
  simp only [Int.toNat_natCast, hx]
  refine wpAny_bind (wpAny_rule (wpAny_bind (wpAny_setField ho hd (by simp) ?_)))
  show wpAny _ _ (newExc (.type "StopIteration") [] >>= _) _ _ _
  refine wpAny_bind ?_
  simp only [newExc, newTuple]
  refine wpAny_bind (wpAny_newObj_type ?_ (by size_fits))
  refine wpAny_bind (m := firstArgMember _ _) (wpAny_of_eq (a := Value.none) (by first | rfl | (simp only [firstArgMember]; rfl)) ?_)
  refine wpAny_newObj_type ?_ (by size_fits)
  simp only [raiseNew]
  refine wpAny_bind (wpAny_handled ?_)
  first | rw [show A.in1.handled = none from hh] | rw [hh]
  refine wpAny_bind (wpAny_pure (wpAny_throw ?_))
  refine wpAny_bind (wpAny_isInstance (T := "StopIteration") (b := true) ⟨_, Heap.get?_push_size _ rfl, rfl⟩ isSubtype_stop ?_)
  exact wpAny_pure (hQ _ (((Heap.SameBut.update ..).extBut.push _).push _) ⟨_, Heap.get?_push_of_some _ (Heap.get?_push_of_some _ (Heap.get?_update_self _ ho (Obj.isFreed_of_fields (Obj.data_mapFields hd _))))⟩)
section
variable {X : Cx} {pins : List (Addr × Obj)} {σ : L2.St} {H : Hp} {s : Shared} {C a q t it fi fl : Addr} {A1 : Around} {n : Nat}
omit [TabT] in
/-- the list at q is filled from the tuple's iterator -/
theorem loop_tup {H0 : Hp} {Rs : Result → Shared → Prop} (hh : A1.in1.handled = none) (hne : it ≠ q) {ys : List V} (hdone : ∀ H s, Inv X pins σ H s → H it = some (ItV it) → H q = some (.lst ys) → (∀ b, b ≠ it → b ≠ q → H b = H0 b) → Rs (.ok (.ret .none)) s) :
    ∀ (m i : Nat) (H : Hp) (s : Shared), m + i = ys.length → Inv X pins σ H s → H it = some (ItU t it i) → H t = some (.tup ys) → H q = some (.lst (ys.take i)) → (∀ b, b ≠ it → b ≠ q → H b = H0 b) →
      codeAny (model X.prog X.w) A1 (.builtin "list.extend.loop" ⟨[.ref q, .ref it, .none], []⟩) Rs s := by
  intro m
  induction m with
  | zero =>
    intro i H s hm I hi ht hq hk
    refine codeAny_builtin PySem.F.entry_extend_loop ?_
    rw [Around.under_plainId PySem.F.plain_extend_loop _]
    show wpAny _ A1.in1 (pyNext (.ref it) >>= _) _ _ s
    obtain ⟨its, rv, ⟨o, ho, hc, nn, hd⟩, hz⟩ := I.tuple (.of ht)
    have hl := rv.length
    refine wpAny_bind (next_endT hh (itU_get I hi) ⟨o, ho, hc, nn, hd⟩ (by rw [List.getElem?_toArray]; exact List.getElem?_eq_none (by omega)) fun h' hb ho' => ?_)
    have I2 : Inv X pins σ (upd H it (ItV it)) { s with heap := h' } := I.write (x := it) (e := it) (t' := s.toks) (by rw [hi]; exact trivial) (.inl rfl) (fun b u nb z => hb b u nb z) ho' (itV_ok ho')
    refine wpAny_pure (hdone _ _ I2 upd_same ?_ fun b n1 n2 => ?_)
    · rw [upd_ne (Ne.symm hne), hq, List.take_of_length_le (by omega)]
    · rw [upd_ne n1]; exact hk b n1 n2
  | succ m ih =>
    intro i H s hm I hi ht hq hk
    refine codeAny_builtin PySem.F.entry_extend_loop ?_
    rw [Around.under_plainId PySem.F.plain_extend_loop _]
    show wpAny _ A1.in1 (pyNext (.ref it) >>= _) _ _ s
    obtain ⟨its, rv, ⟨o, ho, hc, nn, hd⟩, hz⟩ := I.tuple (.of ht)
    have hl := rv.length
    have hlt : i < ys.length := by omega
    obtain ⟨x, hx, rx⟩ := rv.get (List.getElem?_eq_getElem hlt)
    refine wpAny_bind (wpAny_pyNext_tuple_item (itU_get I hi) ⟨o, ho, hc, nn, hd⟩ (x := x) (by rw [List.getElem?_toArray]; exact hx) fun h' hit' hs' => ?_)
    have I2 : Inv X pins σ (upd H it (ItU t it (i + 1))) { s with heap := h' } := I.write (x := it) (e := it) (t' := s.toks) (by rw [hi]; exact trivial) (.inl rfl) (fun b u nb z => hs'.extBut b u nb z) ⟨hit'.choose, hit'.choose_spec.1⟩ (itU_ok hit')
    have hq2 : upd H it (ItU t it (i + 1)) q = some (.lst (ys.take i)) := by rw [upd_ne (Ne.symm hne)]; exact hq
    have hnt : t ≠ it := fun z => by rw [z, hi] at ht; cases ht
    have hnq : t ≠ q := fun z => by rw [z, hq] at ht; cases ht
    show wpAny _ A1.in1 (updateSeq q (·.push x) >>= _) _ _ _
    obtain ⟨z, its2, k, r2, hl2, e⟩ := I2.lstM hq2
    have hl3 : (ys.take i).length = i := by rw [List.length_take]; omega
    refine wpAny_bind (wpAny_updateSeq e rfl (wpAny_pure ⟨plainId_quiet PySem.F.plain_extend_loop _, ?_⟩) (by rw [List.size_toArray]; omega) (by show (its2.toArray.push x).size ≤ sizeLine + 1; rw [Array.size_push, List.size_toArray]; omega))
    refine ih (i + 1) _ _ (by omega) (I2.lset (its' := its2 ++ [x]) (ys := ys.take (i + 1)) (t' := s.toks) hq2 e (by simp) ?_ (by rw [List.length_take]; omega)) ?_ ?_ upd_same fun b n1 n2 => ?_
    · rw [List.take_succ, List.getElem?_eq_getElem hlt]
      exact r2.append (.cons rx .nil)
    · rw [upd_ne hne]; exact upd_same
    · rw [upd_ne hnq, upd_ne hnt]; exact ht
    · rw [upd_ne n2, upd_ne n1]; exact hk b n1 n2
omit [TabT] in
theorem env_sub {A : Around} (fr : A.frames = X.A.frames) (I : Inv X pins σ H s) : Env0 X.prog X.w X.K X.mg X.base A X.stack s H := by
  have e := I.env0
  exact ⟨by rw [fr]; exact e.frames, e.mod, e.bs, e.bsz, e.funs, e.frf, e.hok, e.bare⟩
omit [TabT] in
theorem own_len {A : Around} {dx : Addr} {fs : List (Str × V)} {f : Addr} {fd : FuncData} {ps : List Str} {sp : Sp} {Q : Int → Hp → Prop} {E : Value → Shared → Prop} (sb : L2.Sub X n A.in1) (Fn : FnOk X.prog X.w X.K X.mg X.base (L2N.CX X.prog X.w) n f fd ps sp) (hs : PySem.W.findIn X.K (.ref C) "__len__" = some (some (.ref f))) (hf : PySem.W.isFn X.K (.ref f) = true) (hb : Binds X.K fd ps [])
    (I : Inv X pins σ H s) (ha : H a = some (.ins C dx fs)) (hsp : sp [.ref a] H (fun v H' => ∃ i : Int, v = .int i ∧ 0 ≤ i ∧ i < 4611686018427387904 ∧ Q i H') fun _ _ _ => False) :
    wpAny (model X.prog X.w) A (call (.builtin "len") [.ref a]) (fun u s' => ∃ (i : Int) (t : Tok) (H' : Hp), u = .int i t ∧ Inv X pins σ H' s' ∧ 0 ≤ i ∧ Q i H') E s := by
  obtain ⟨mA, J, _⟩ := ins_get I.hok ha
  obtain ⟨od, J, _⟩ := J.look
  obtain ⟨m, hF⟩ := I.fr
  have hl : ([Value.ref a] ++ []).length = ps.length := by rw [← Fn.len _ _ _ _ hsp]; rfl
  have bd := hb s [.ref a] I.kIn hl
  refine PySem.W.len_K hF I.ok.mod.kin J hs hf (wpAny_call (codeAny_mono (Fn.run A.in1 X.stack s H ⟨[.ref a], []⟩ [.ref a] [.ref a] _ _ sb.room (env_sub sb.fr I) bd (.cons rfl .nil) hsp) fun r s' hq => ?_))
  match r, hq with
  | .error e, hq =>
    obtain ⟨_, _, _, _, _, _, _, _, _, _, _, _, z⟩ := hq
    exact z.elim
  | .ok (.ret w), hq =>
    obtain ⟨v, H', I3, rv, i, ev, h0, h1, q3⟩ := I.after hq
    subst ev
    obtain ⟨t, rfl⟩ := rv
    exact ⟨⟨h0, by omega⟩, i, _, H', rfl, I3.tok _, h0, q3⟩
omit [TabT] in
theorem own_hintL {A : Around} {dx : Addr} {fs : List (Str × V)} {f : Addr} {fd : FuncData} {ps : List Str} {sp : Sp} {Q : Hp → Prop} {E : Value → Shared → Prop} (sb : L2.Sub X n A.in1) (Fn : FnOk X.prog X.w X.K X.mg X.base (L2N.CX X.prog X.w) n f fd ps sp) (hs : PySem.W.findIn X.K (.ref C) "__len__" = some (some (.ref f))) (hf : PySem.W.isFn X.K (.ref f) = true) (hb : Binds X.K fd ps [])
    (I : Inv X pins σ H s) (ha : H a = some (.ins C dx fs)) (hsp : sp [.ref a] H (fun v H' => ∃ i : Int, v = .int i ∧ 0 ≤ i ∧ i < 4611686018427387904 ∧ i.toNat ≤ sizeLine ∧ Q H') fun _ _ _ => False) :
    wpAny (model X.prog X.w) A (Builtin.List.listLengthHint (.ref a)) (fun _ s' => ∃ H' : Hp, Inv X pins σ H' s' ∧ Q H') E s := by
  obtain ⟨mA, J, _⟩ := ins_get I.hok ha
  obtain ⟨od, J, _⟩ := J.look
  unfold Builtin.List.listLengthHint
  refine wpAny_bind (wpAny_bind (J.type.here ((PySem.W.looks_findIn I.kIn hs).here ?_)))
  refine PySem.W.KFB.if_not rfl ?_
  refine wpAny_ite_split (fun _ => ?_) (fun z => absurd rfl z)
  refine wpAny_bind (wpAny_rule ?_)
  refine wpAny_bind (wpAny_attempt (wpAny_mono (own_len sb Fn hs hf hb I ha hsp) (fun u s' h => ?_) (fun _ _ z => z)))
  obtain ⟨i, t, H', rfl, I', h0, h1, h2⟩ := h
  show wpAny _ _ (if Builtin.List.listTooLong i.toNat = true then _ else _) _ _ _
  rw [if_neg (by rw [notLongL h1]; exact Bool.false_ne_true)]
  exact wpAny_pure ⟨H', I', h2⟩
omit [TabT] in
def rListW (C : Addr) (spI spL : Sp) : List V → Hp → VK → Prop := fun xs H Q => ∃ a dx fs, xs = [.ref a] ∧ H a = some (.ins C dx fs) ∧
  ∀ q, H q = none → spI [.ref a] (upd H q (.lst [])) (fun v H1 => ∃ it t ys dx1 fs1, v = .ref it ∧ H1 a = some (.ins C dx1 fs1) ∧ H1 it = some (ItU t it 0) ∧
    spL [.ref a] H1 (fun w H2 => ∃ i : Int, w = .int i ∧ 0 ≤ i ∧ i < 4611686018427387904 ∧ i.toNat ≤ sizeLine ∧ H2 it = some (ItU t it 0) ∧ H2 t = some (.tup ys) ∧ H2 q = some (.lst []) ∧
      Q (.ref q) (upd (ItX.dropH H2 it) q (.lst ys))) fun _ _ _ => False) fun _ _ _ => False
omit [TabT] in
theorem ext_tup {fdI fdL : FuncData} {psI psL : List Str} {spI spL : Sp} {dx : Addr} {fs : List (Str × V)} {n1 n2 : Nat} {Q : VK} {Rs : Result → Shared → Prop} (hh : A1.in1.handled = none) (s1 : L2.Sub X n1 A1.in1) (s2 : L2.Sub X n2 A1.in1.in1)
    (hI : PySem.W.findIn X.K (.ref C) "__iter__" = some (some (.ref fi))) (fI : PySem.W.isFn X.K (.ref fi) = true) (FI : FnOk X.prog X.w X.K X.mg X.base (L2N.CX X.prog X.w) n1 fi fdI psI spI) (bI : Binds X.K fdI psI [])
    (hL : PySem.W.findIn X.K (.ref C) "__len__" = some (some (.ref fl))) (fL : PySem.W.isFn X.K (.ref fl) = true) (FL : FnOk X.prog X.w X.K X.mg X.base (L2N.CX X.prog X.w) n2 fl fdL psL spL) (bL : Binds X.K fdL psL [])
    (hdone : ∀ H s, Inv X pins σ H s → Q (.ref q) H → Rs (.ok (.ret .none)) s) (I : Inv X pins σ H s) (ha : H a = some (.ins C dx fs)) (hq : H q = some (.lst []))
    (hsp : spI [.ref a] H (fun v H1 => ∃ it t ys dx1 fs1, v = .ref it ∧ H1 a = some (.ins C dx1 fs1) ∧ H1 it = some (ItU t it 0) ∧
      spL [.ref a] H1 (fun w H2 => ∃ i : Int, w = .int i ∧ 0 ≤ i ∧ i < 4611686018427387904 ∧ i.toNat ≤ sizeLine ∧ H2 it = some (ItU t it 0) ∧ H2 t = some (.tup ys) ∧ H2 q = some (.lst []) ∧
        Q (.ref q) (upd (ItX.dropH H2 it) q (.lst ys))) fun _ _ _ => False) fun _ _ _ => False) :
    wpAny (model X.prog X.w) A1.in1 (Builtin.List.listExtendWith (.ref q) (.ref a) .none)
      (fun fin s' => match fin with | .done f => Rs (.ok f) s' | .again c' => c'.quiet = true ∧ codeAny (model X.prog X.w) A1 c' Rs s') (fun e s' => Rs (.error e) s') s := by
  have hne : q ≠ a := ne_of hq ha (fun z => nomatch z)
  obtain ⟨mA, J, _⟩ := ins_get I.hok ha
  obtain ⟨od, J, _⟩ := J.look
  obtain ⟨m0, hF⟩ := I.fr
  unfold Builtin.List.listExtendWith
  refine wpAny_bind (J.type.here ?_)
  have h1 : Builtin.List.listSameRef (.ref q) (.ref a) = false := by simp [Builtin.List.listSameRef, hne]
  have h2 : (Value.ref C == Value.type "list") = false := rfl
  have h3 : (Value.ref C == Value.type "tuple") = false := rfl
  simp only [h1, h2, h3, Bool.or_false, Bool.false_eq_true, if_false]
  refine wpAny_bind (PySem.W.owit_iter hF I.ok.mod.kin J hI fI ?_)
  have hl := FI.len _ _ _ _ hsp
  have r2 : Vals [V.ref a] [Value.ref a] := .cons rfl .nil
  refine wpAny_call (codeAny_mono (FI.run A1.in1 X.stack s H ⟨[.ref a], []⟩ [.ref a] [.ref a] _ _ s1.room (env_sub s1.fr I) (by
    have := bI s [.ref a] I.kIn (by simpa using hl)
    simpa using this) r2 hsp) fun r s' hq' => ?_)
  match r, hq' with
  | .error e, hq' =>
    obtain ⟨_, _, _, _, _, _, _, _, _, _, _, _, z⟩ := hq'
    exact z.elim
  | .ok (.ret u), hq' =>
    obtain ⟨v, H1, I1, rv, it, t, ys, dx1, fs1, ev, ha1, hi1, hL1⟩ := I.after hq'
    subst ev
    obtain rfl : u = Value.ref it := rv
    show PySem.W.OwitIt _ _ _ _ _ _
    unfold PySem.W.OwitIt
    refine wpAny_specialOf (itU_get I1 hi1).typeIs F.slot_tuple_iterator_next.lookup ?_
    refine wpAny_bind (wpAny_holding (wpAny_mono (own_hintL s2 FL hL fL bL I1 ha1 hL1) (fun b s3 h => ?_) fun _ _ z => z))
    obtain ⟨H2, I2, hi2, ht2, hq2, hQ⟩ := h
    have hqi : it ≠ q := fun z => by rw [z, hq2] at hi2; cases hi2
    have end_ : ∀ s4, Inv X pins σ H2 s4 → codeAny (model X.prog X.w) A1 (.builtin "list.extend.loop" ⟨[.ref q, .ref it, .none], []⟩) Rs s4 := fun s4 I4 =>
      loop_tup (H0 := H2) hh hqi (ys := ys) (fun H5 s5 I5 hi5 hq5 hk => hdone _ _ (ItX.inv_drop I5 hi5) (by
        have e : ItX.dropH H5 it = upd (ItX.dropH H2 it) q (.lst ys) := by
          funext b
          by_cases hb : b = it
          · rw [hb, ItX.dropH_same, upd_ne hqi, ItX.dropH_same]
          · rw [ItX.dropH_ne hb]
            by_cases hb2 : b = q
            · rw [hb2, upd_same, hq5]
            · rw [upd_ne hb2, ItX.dropH_ne hb, hk b hb hb2]
        rw [e]
        exact hQ)) ys.length 0 H2 s4 (Nat.add_zero _) I4 hi2 ht2 hq2 fun _ _ _ => rfl
    refine wpAny_ite_split (fun _ => ?_) (fun _ => wpAny_pure ⟨plainId_quiet PySem.F.plain_extend_loop _, end_ _ I2⟩)
    refine wpAny_bind (wpAny_rule ?_)
    refine wpAny_bind ?_
    show wpAny _ _ (updateSeq q (·.push .none) >>= fun _ => updateSeq q (·.pop)) _ _ _
    obtain ⟨z, its, k, r3, hl3, e3⟩ := I2.lstM hq2
    cases r3
    refine wpAny_bind (wpAny_updateSeq e3 rfl ?_)
    have I3 := I2.lset (f := (·.push Value.none)) (its' := [Value.none]) (ys := [.non]) (t' := s3.toks) hq2 e3 (by simp) (.cons rfl .nil) (by rw [List.length_singleton, sizeLine_eq]; decide)
    obtain ⟨z4, its4, k4, r4, hl4, e4⟩ := I3.lstM upd_same
    obtain ⟨u4, rfl, ru4⟩ := r4.one
    refine wpAny_updateSeq e4 rfl ?_ (by show 1 ≤ sizeLine; rw [sizeLine_eq]; decide) (by show 0 ≤ sizeLine + 1; exact Nat.zero_le _)
    refine wpAny_pure ⟨plainId_quiet PySem.F.plain_extend_loop _, end_ _ ?_⟩
    have I5 := I3.lset (f := (·.pop)) (its := [u4]) (its' := []) (ys := []) (t' := s3.toks) upd_same e4 (by rfl) .nil (Nat.zero_le _)
    rw [upd_upd] at I5
    have hH : upd H2 q (.lst []) = H2 := by
      funext b
      by_cases hb : b = q
      · rw [hb, upd_same, hq2]
      · rw [upd_ne hb]
    rw [hH] at I5
    exact I5
omit [TabT] in
theorem call_listW {fdI fdL : FuncData} {psI psL : List Str} {spI spL : Sp} {n1 n2 : Nat} (hcm : X.calm = true) (hr1 : Room (n1 + 2) X.A) (hr2 : Room (n2 + 3) X.A)
    (hI : PySem.W.findIn X.K (.ref C) "__iter__" = some (some (.ref fi))) (fI : PySem.W.isFn X.K (.ref fi) = true) (FI : FnOk X.prog X.w X.K X.mg X.base (L2N.CX X.prog X.w) n1 fi fdI psI spI) (bI : Binds X.K fdI psI [])
    (hL : PySem.W.findIn X.K (.ref C) "__len__" = some (some (.ref fl))) (fL : PySem.W.isFn X.K (.ref fl) = true) (FL : FnOk X.prog X.w X.K X.mg X.base (L2N.CX X.prog X.w) n2 fl fdL psL spL) (bL : Binds X.K fdL psL []) :
    CallR X (.type "list") (rListW C spI spL) := by
  intro pins s σ H xs us Q I rv h
  obtain ⟨a, dx, fs, rfl, ha, hq⟩ := h
  obtain ⟨u, rfl, ru⟩ := rv.one
  cases ru
  have s1 : L2.Sub X n1 X.A.in1.in1 := (Sub.in1 (Sub.in1 (⟨hr1, rfl⟩ : L2.Sub X (n1 + 2) X.A)))
  have s2 : L2.Sub X n2 X.A.in1.in1.in1 := (Sub.in1 (Sub.in1 (Sub.in1 (⟨hr2, rfl⟩ : L2.Sub X (n2 + 3) X.A))))
  refine callType_codes (Q₁ := fun obj s₁ => obj = .ref s.heap.objs.size ∧ s₁ = { s with heap := s.heap.push { cls := .type "list", data := .seq #[] } }) PySem.F.called_list (PySem.F.typeCall_list_1 _) PySem.F.entry_list_init
    (code_list_new _ ⟨rfl, rfl⟩) fun obj s₁ h₁ => ?_
  obtain ⟨rfl, rfl⟩ := h₁
  have hS : (s.heap.push { cls := .type "list", data := .seq #[] }).get? s.heap.objs.size = some { cls := .type "list", data := .seq #[] } := Heap.get?_push_size _ rfl
  refine ⟨⟨_, hS, rfl⟩, PySem.F.args_list_init_2 _ _, ?_⟩
  have fr : H s.heap.objs.size = none := I.hok.fresh (Nat.le_refl _)
  have I1 : Inv X pins σ (upd H s.heap.objs.size (.lst [])) { s with heap := s.heap.push { cls := .type "list", data := .seq #[] } } := I.lnew (its := []) (t' := s.toks) .nil (Nat.zero_le _)
  show wpAny _ _ (do let old ← Builtin.List.listItems (.ref s.heap.objs.size); Builtin.List.listUpdate (.ref s.heap.objs.size) (fun _ => #[]); letGo old.toList.reverse; Builtin.List.listExtendWith (.ref s.heap.objs.size) (.ref a) .none) _ _ _
  refine wpAny_bind ?_
  unfold Builtin.List.listItems
  refine wpAny_bind (wpAny_seqItems hS rfl (wpAny_pure ?_))
  show wpAny _ _ (updateSeq s.heap.objs.size (fun _ => #[]) >>= fun _ => letGo (#[] : Array Value).toList.reverse >>= fun _ => Builtin.List.listExtendWith (.ref s.heap.objs.size) (.ref a) .none) _ _ _
  refine wpAny_bind (wpAny_updateSeq hS rfl ?_)
  have I2 := I1.lset (f := fun _ => #[]) (its := []) (its' := []) (ys := []) (t' := s.toks) upd_same hS rfl .nil (Nat.zero_le _)
  rw [upd_upd] at I2
  refine wpAny_bind (wpAny_letGo ?_)
  have ha2 : upd H s.heap.objs.size (.lst []) a = some (.ins C dx fs) := by rw [upd_ne (ne_of_none ha fr)]; exact ha
  exact ext_tup (A1 := X.A.in1) (Q := Q) (Rs := wants (fun r s₂ => r = .none ∧ EP X pins σ Q (.ref s.heap.objs.size) s₂) X.xe) (I.ok.hd hcm) s1 s2 hI fI FI bI hL fL FL bL
    (fun H' s' I' hR => ⟨rfl, .ref s.heap.objs.size, H', I', rfl, hR⟩) I2 ha2 upd_same (hq _ fr)
end
omit [TabT] in
theorem itU_code {c it t : Addr} {i : Nat} {q : Str} (h : ItU t it i = LamX.CodeO c q) (e : c = it) : False := by
  subst e
  unfold ItU LamX.CodeO at h
  have h2 := HO.ext.inj h
  have h3 := congrFun h2 (({ objs := Array.replicate c { cls := .none } } : Heap).push { cls := .type "tuple_iterator", data := .fields #[.ref t, .int i 0] })
  have sz : ({ objs := Array.replicate c { cls := .none } } : Heap).objs.size = c := Array.size_replicate
  have g : (({ objs := Array.replicate c { cls := .none } } : Heap).push { cls := .type "tuple_iterator", data := .fields #[.ref t, .int i 0] }).get? c = some { cls := .type "tuple_iterator", data := .fields #[.ref t, .int i 0] } := by
    have := Heap.get?_push_size ({ objs := Array.replicate c { cls := .none } } : Heap) (o := { cls := .type "tuple_iterator", data := .fields #[.ref t, .int i 0] }) rfl
    rw [sz] at this
    exact this
  obtain ⟨oc, vs, tk, h4, h5, h6⟩ := h3.mp ⟨_, g, rfl, rfl⟩
  rw [g] at h4
  obtain rfl := Option.some.inj h4
  have h7 : (#[.ref t, .int i 0] : Array Value) = vs := by injection h5
  subst h7
  simp at h6
omit [TabT] in
theorem tabs_dropI {T : List (Addr × Str)} {H : Hp} {t it : Addr} {i : Nat} (tb : LamX.Tabs T H) (h : H it = some (ItU t it i)) : LamX.Tabs T (ItX.dropH H it) := fun x hx => by
  obtain ⟨ps, h1, h2, h3⟩ := tb x hx
  have n1 : x.1 ≠ it := fun e => by rw [e, h] at h1; cases h1
  refine ⟨ps, by rw [ItX.dropH_ne n1]; exact h1, h2, fun pos cv hc => ?_⟩
  obtain ⟨c, e1, e2⟩ := h3 pos cv hc
  have n2 : c ≠ it := fun e => by
    subst e
    rw [h] at e2
    exact itU_code (Option.some.inj e2) rfl
  exact ⟨c, e1, by rw [ItX.dropH_ne n2]; exact e2⟩
theorem m_listW {wd : Wd} {α β : Type} [Rep α] [Own β] {Cn : String} {C : Addr} {fl : List Str} {mi : Ctx.T [.bo 0 β] → Rs (Tup α)} {ml : Ctx.T [.bo 0 β] → Rs Int} (Ii : IsIns Cn β fl) (hC : wd.cm Cn = C) :
    Sem1T (wd := wd) kB kO (fun x => rListW C (spF wd (kI (α := α)) [.bo 0 β] mi) (spF wd (kF (α := Int)) [.bo 0 β] ml) [x]) fun a => (mi (a, ())).nox.bind fun t => (ml (a, ())).nox.bind fun i => if i = (t.items.length : Int) then Rs.ok t.items else Rs.no := by
  intro W σ B H G x a Q tb gh hx p
  obtain ⟨q0, o, e1, e2, e3⟩ := hx
  obtain ⟨dx, fs, e4, e5⟩ := Ii.ins e3
  subst hC
  refine ⟨q0, dx, fs, by rw [e1], by rw [e2, e4], fun q nq => ⟨rfl, G, (a, ()), SameL.upd' gh nq, tabs_new tb nq, ⟨q0, o, _, rfl, rfl, by rw [upd_ne (ne_of_none e2 nq)]; exact e2, e3, rfl⟩, ?_⟩⟩
  dsimp only at p
  cases em : mi (a, ()) with
  | no => rw [em] at p; exact p
  | ex z => rw [em] at p; exact p.elim
  | ok tt =>
    rw [em] at p
    intro H1 G1 v f1 hk
    obtain ⟨it, tp, ev, nb, ng, hi, rt⟩ := hk
    obtain ⟨tp', ot, et, gt, vs, eo, hlen, hr⟩ := id rt
    have e6 : tp = tp' := V.ref.inj et
    subst e6; subst eo
    have p2 : Post W (kO (wd := wd)) σ H G Q ((ml (a, ())).nox.bind fun i => if i = (tt.items.length : Int) then Rs.ok tt.items else Rs.no) := p
    have ha1 : H1 q0 = some o := f1.h.get (by rw [upd_ne (ne_of_none e2 nq)]; exact e2) (Own.pl e3)
    refine ⟨it, tp, vs, dx, fs, ev, by rw [ha1, e4], hi, rfl, G1, (a, ()), f1.gh, f1.tb (tabs_new tb nq), ⟨q0, o, _, rfl, rfl, ha1, Own.mono f1.g e3, rfl⟩, ?_⟩
    cases el : ml (a, ()) with
    | no => rw [el] at p2; exact p2
    | ex z => rw [el] at p2; exact p2.elim
    | ok i =>
      rw [el] at p2
      intro H2 G2 w f2 r2
      have p3 : Post W (kO (wd := wd)) σ H G Q (if i = (tt.items.length : Int) then Rs.ok tt.items else Rs.no) := p2
      by_cases hil : i = (tt.items.length : Int)
      · rw [if_pos hil] at p3
        have hvl : vs.length = tt.items.length := hr.len
        have hl2 : tt.items.length ≤ sizeLine := by omega
        have hsl : sizeLine < 4611686018427387904 := by rw [sizeLine_eq]; decide
        have gq : G q = none := gh.free nq
        have gq1 : G1 q = none := f1.out upd_same gq
        have hq1 : H1 q = some (.lst []) := f1.h.get upd_same Pl.lst
        have gq2 : G2 q = none := f2.out hq1 gq1
        have gi2 : G2 it = none := f2.out hi ng
        have hi2 : H2 it = some (ItU tp it 0) := f2.h.nt hi (fun _ z => nomatch z)
        have hq2 : H2 q = some (.lst []) := f2.h.get hq1 Pl.lst
        have niq : it ≠ q := fun z => by rw [z, hq2] at hi2; cases hi2
        have ni : H it = none := by rw [upd_ne niq] at nb; exact nb
        have eqb : ∀ b, b ≠ it → b ≠ q → upd (ItX.dropH H2 it) q (.lst vs) b = H2 b := fun b n1 n2 => by rw [upd_ne n2, ItX.dropH_ne n1]
        have f12 := f1.trans f2
        have fin : Fr H G (upd (ItX.dropH H2 it) q (.lst vs)) G2 := by
          refine ⟨fun b ob hb => ?_, f12.g, fun b ob hb => ?_, fun b ob e => ?_, fun t => ?_⟩
          · rw [eqb b (ne_of_none hb ni) (ne_of_none hb nq)]
            exact f12.h b ob (by rw [upd_ne (ne_of_none hb nq)]; exact hb)
          · rw [eqb b (ne_of_none hb gi2) (ne_of_none hb gq2)]
            exact f2.gh b ob hb
          · rcases f12.new b ob e with k | k
            · exact .inl k
            · refine .inr ?_
              by_cases hbq : b = q
              · rw [hbq]; exact nq
              · rw [upd_ne hbq] at k; exact k
          · exact tabs_upd (u := .lst []) (tabs_dropI (f2.tb (f1.tb (tabs_new t nq))) hi2) (by rw [ItX.dropH_ne (Ne.symm niq)]; exact hq2) Pl.lst
        exact ⟨i, r2, by omega, by omega, by omega, hi2, f2.gh.v (f2.g.v gt), hq2, p3 _ G2 _ fin ⟨q, .lst vs, rfl, nq, gq2, upd_same, vs, rfl, hlen, hr.mono f2.g⟩⟩
      · rw [if_neg hil] at p3
        exact p3.elim
/-! ### find, pop -/
section
variable {X : Cx} {F : Fx} {c : Ctx} {o e : Expr} {pos apos : Pos} {mo me : Ctx.T c → Rs Str}
theorem m_findS {wd : Wd} {W : WX} {σ : L2.St} {H G : Hp} {a b : Str} {Q : VK} (gh : SameL G H) (p : Post W (kF : Kd wd Int) σ H G Q (.ok (Txt.find a b))) :
    (fun x xs H Q => ∃ a b, x = V.str a ∧ xs = [V.str b] ∧ Q (.int (Txt.find a b)) H : V → List V → Hp → VK → Prop) (.str a) [.str b] H Q :=
  ⟨a, b, rfl, rfl, p H G _ (Fr.refl gh) rfl⟩
theorem e_find (ho : PE X o (tX F kF c mo)) (he : PE X e (tX F kF c me)) (hz : starEach [e] X.env = [(false, eval e X.env)] := by rfl) (hbase : attributeBase o "find" X.env (eval o X.env) = eval o X.env := by rfl) (hline : (apos.endLine == pos.line) = true := by rfl) :
    PE X (.Call (.Attribute o "find" apos) [e] [] pos) (tX F kF c fun γ => (mo γ).bind fun a => (me γ).bind fun b => .ok (Txt.find a b)) :=
  e_sm1 PySem.F.slot_str_find PySem.F.type_str_find mt_find (fun gh _ _ p => m_findS gh p) ho he hz hbase hline
end
omit [TabT] in
def popI {α : Type} (xs : List α) : Rs (List α) := if xs.length = 0 then .no else .ok xs.dropLast
theorem reps.pop {α : Type} [Rep α] {wd : Wd} {G : Hp} : ∀ {vs : List V} {as : List α}, reps wd G vs as → reps wd G vs.dropLast as.dropLast
  | [], [], h => h
  | [_], [_], _ => trivial
  | _ :: _ :: _, _ :: _ :: _, h => ⟨h.1, reps.pop h.2⟩
  | [], _ :: _, h => h.elim
  | _ :: _, [], h => h.elim
  | [_], _ :: _ :: _, h => h.2.elim
  | _ :: _ :: _, [_], h => h.2.elim
section
variable {X : Cx} {F : Fx} {c : Ctx} {α : Type} {e : Expr}
theorem s_pop [Rep α] {j : Nat} {x : Str} {p1 apos cpos pos : Pos} (v : Var c (.ow j (List α))) (hN : X.N[j]? = some x := by rfl) (hv : Vis X.env.scope x := by first | exact Or.inl rfl | exact Or.inr (Or.inl rfl) | exact Or.inr (Or.inr rfl))
    (hd : (x == ("__debug__" : Str)) = false := by decide) (hcd : (x == ("__classdict__" : Str)) = false := by decide)
    (hbase : attributeBase (.Name x p1) "pop" X.env (eval (.Name x p1) X.env) = eval (.Name x p1) X.env := by rfl)
    (hline : (apos.endLine == cpos.line) = true := by rfl) (hs : swapsWith (.Call (.Attribute (.Name x p1) "pop" apos) [] [] cpos) none pos.line X.env = pure false := by rfl) :
    PS X (.Expr (.Call (.Attribute (.Name x p1) "pop" apos) [] [] cpos) pos) (tS F c c fun γ => (popI (v.get γ)).bind fun ys => .ok (v.put γ ys)) :=
  ps_mono (ps_expr (pe_bm0 PySem.F.plainAttrs_list PySem.F.slot_list_pop PySem.F.type_list_pop mt_pop (pe_var hN hv hd hcd) hbase hline) hs) fun D σ H ⟨H0, G0, G, os, γ, st, p⟩ => by
    obtain ⟨q, o, e1, e2, ⟨vs, e3, e5, e6⟩, e4⟩ := st.write v
    subst e3
    have p3 : PostN F H0 G0 c D ((popI (v.get γ)).bind fun ys => .ok (v.put γ ys)) := p
    unfold popI at p3
    by_cases hl : (v.get γ).length = 0
    · rw [if_pos hl] at p3
      exact p3.elim
    · rw [if_neg hl] at p3
      have hvl := e6.len
      exact ⟨.ref q, e1, .inl ⟨rfl, _, .of e2⟩, q, vs, vs[vs.length - 1], rfl, rfl, e2, List.getElem?_eq_getElem (by omega), p3 _ _ _ _ (e4 _ _ ⟨_, rfl, by rw [List.length_dropLast]; omega, reps.pop e6⟩)⟩
end
section
variable {X : Cx} {F : Fx} {c : Ctx} {α δ : Type} {k1 : Kd F.wd α} {k3 : Kd F.wd δ} {a : Expr} {ma : Ctx.T c → Rs α} {p pos : Pos}
theorem e_t1T {x : Str} {T : String} {r : List V → Hp → VK → Prop} {f : α → Rs δ} (hc : CallR X (.type T) r) (hs : Sem1T k1 k3 (fun x => r [x]) f) (hg : Gl X x) (hm : X.mg x = none) (hv : bootBuiltins x = some (.type T)) (ha : PE X a (tX F k1 c ma)) (hn : x ≠ "__name__" := by decide)
    (hdb : (x == ("__debug__" : Str)) = false := by decide) (he : starEach (a :: []) X.env = (false, eval a X.env) :: starEach [] X.env := by rfl) (hpl : (backTo pos (starEach [] X.env)).any (·.1) = false := by rfl) : PE X (.Call (.Name x p) [a] [] pos) (tX F k3 c fun γ => (ma γ).bind f) :=
  pe_mono (pe_callTy hc hg hm hv (pa_cons ha pa_nil he) hn hdb he hpl) fun σ H Q h => tX1T hs h
end
end Wm
set_option Elab.async false
set_option linter.all false
set_option maxRecDepth 100000
set_option maxHeartbeats 4000000
namespace Wk
open PySem PySem.Spec PyProof.Rows L2 Wm
/-! ### the text -/
def topS (i : Nat) : Stmt := PySem.Challenge.pw_wornsheaf_k02_sheaf_keeps_rows.main.body.getD i (.Pass ⟨0, 0, 0, 0⟩)
abbrev s_law_cell : Stmt := topS 10
theorem sc_law_cell : FnScope ["script", "k"] ["script", "k"] (defScope s_law_cell) := ⟨rfl, rfl, rfl, by decide +kernel, rfl, by decide +kernel, by decide +kernel⟩
abbrev s_law_draws : Stmt := topS 11
theorem sc_law_draws : FnScope ["cell", "sizes", "drawn", "left", "packed", "k", "mixed"] ["cell", "sizes"] (defScope s_law_draws) := ⟨rfl, rfl, rfl, by decide +kernel, rfl, by decide +kernel, by decide +kernel⟩
abbrev s_law_names : Stmt := topS 12
theorem sc_law_names : FnScope ["cell", "count", "letters", "drawn", "names", "k", "code", "place", "own", "front", "telling"] ["cell", "count"] (defScope s_law_names) := ⟨rfl, rfl, rfl, by decide +kernel, rfl, by decide +kernel, by decide +kernel⟩
abbrev s_law_unlike_rows : Stmt := topS 14
theorem sc_law_unlike_rows : FnScope ["cell", "names", "count", "spread", "base", "drawn", "k"] ["cell", "names", "count", "spread", "base"] (defScope s_law_unlike_rows) := ⟨rfl, rfl, rfl, by decide +kernel, rfl, by decide +kernel, by decide +kernel⟩
abbrev s_law_rows : Stmt := topS 13
theorem sc_law_rows : FnScope ["cell", "names", "count", "spread", "base", "drawn", "k"] ["cell", "names", "count", "spread", "base"] (defScope s_law_rows) := ⟨rfl, rfl, rfl, by decide +kernel, rfl, by decide +kernel, by decide +kernel⟩
abbrev s_law_shaped : Stmt := topS 15
theorem sc_law_shaped : FnScope ["rows", "shape", "base", "gap", "row", "k"] ["rows", "shape", "base", "gap"] (defScope s_law_shaped) := ⟨rfl, rfl, rfl, by decide +kernel, rfl, by decide +kernel, by decide +kernel⟩
abbrev s_law_wide_rows : Stmt := topS 16
theorem sc_law_wide_rows : FnScope ["script", "at", "drawn", "count", "spread", "base", "shape", "names", "rows"] ["script", "at"] (defScope s_law_wide_rows) := ⟨rfl, rfl, rfl, by decide +kernel, rfl, by decide +kernel, by decide +kernel⟩
abbrev s_InvalidSheaf_init : Stmt := inClass (topS 3) 0
theorem sc_InvalidSheaf_init : FnScope ["self", "index"] ["self", "index"] (defScope s_InvalidSheaf_init) := ⟨rfl, rfl, rfl, by decide +kernel, rfl, by decide +kernel, by decide +kernel⟩
abbrev s_valid_record : Stmt := topS 7
theorem sc_valid_record : FnScope ["text", "sign"] ["text"] (defScope s_valid_record) := ⟨rfl, rfl, rfl, by decide +kernel, rfl, by decide +kernel, by decide +kernel⟩
abbrev s_Sheaf_init : Stmt := inClass (topS 8) 0
theorem sc_Sheaf_init : FnScope ["self", "rows", "index", "row"] ["self", "rows"] (defScope s_Sheaf_init) := ⟨rfl, rfl, rfl, by decide +kernel, rfl, by decide +kernel, by decide +kernel⟩
abbrev s_Sheaf_len : Stmt := inClass (topS 8) 2
theorem sc_Sheaf_len : FnScope ["self"] ["self"] (defScope s_Sheaf_len) := ⟨rfl, rfl, rfl, by decide +kernel, rfl, by decide +kernel, by decide +kernel⟩
abbrev s_Sheaf_rows : Stmt := inClass (topS 8) 1
theorem sc_Sheaf_rows : FnScope ["self"] ["self"] (defScope s_Sheaf_rows) := ⟨rfl, rfl, rfl, by decide +kernel, rfl, by decide +kernel, by decide +kernel⟩
abbrev s_law_same_rows : Stmt := topS 17
theorem sc_law_same_rows : FnScope ["told", "rows", "k", "row"] ["told", "rows"] (defScope s_law_same_rows) := ⟨rfl, rfl, rfl, by decide +kernel, rfl, by decide +kernel, by decide +kernel⟩
abbrev s_Sheaf_iter : Stmt := inClass (topS 8) 3
theorem sc_Sheaf_iter : FnScope ["self"] ["self"] (defScope s_Sheaf_iter) := ⟨rfl, rfl, rfl, by decide +kernel, rfl, by decide +kernel, by decide +kernel⟩
abbrev s_law_holds : Stmt := topS 18
theorem sc_law_holds : FnScope ["sheaf", "rows"] ["sheaf", "rows"] (defScope s_law_holds) := ⟨rfl, rfl, rfl, by decide +kernel, rfl, by decide +kernel, by decide +kernel⟩
abbrev s_law_variant : Stmt := topS 19
theorem sc_law_variant : FnScope ["rows", "cell", "kind", "letters", "drawn", "place", "other", "record", "changed", "at", "code"] ["rows", "cell", "kind"] (defScope s_law_variant) := ⟨rfl, rfl, rfl, by decide +kernel, rfl, by decide +kernel, by decide +kernel⟩
abbrev s_Sheaf_eq : Stmt := inClass (topS 8) 4
theorem sc_Sheaf_eq : FnScope ["self", "other"] ["self", "other"] (defScope s_Sheaf_eq) := ⟨rfl, rfl, rfl, by decide +kernel, rfl, by decide +kernel, by decide +kernel⟩
abbrev s_law_equals : Stmt := topS 20
theorem sc_law_equals : FnScope ["sheaf", "rows", "cell", "kind", "changed", "other"] ["sheaf", "rows", "cell"] (defScope s_law_equals) := ⟨rfl, rfl, rfl, by decide +kernel, rfl, by decide +kernel, by decide +kernel⟩
abbrev s_Sheaf_add : Stmt := inClass (topS 8) 5
theorem sc_Sheaf_add : FnScope ["self", "other"] ["self", "other"] (defScope s_Sheaf_add) := ⟨rfl, rfl, rfl, by decide +kernel, rfl, by decide +kernel, by decide +kernel⟩
abbrev s_law_sums : Stmt := topS 21
theorem sc_law_sums : FnScope ["one", "two", "three", "left", "middle", "right", "pair", "told", "whole"] ["one", "two", "three"] (defScope s_law_sums) := ⟨rfl, rfl, rfl, by decide +kernel, rfl, by decide +kernel, by decide +kernel⟩
abbrev s_law : Stmt := topS 22
theorem sc_law : FnScope ["script", "rows", "given", "sheaf", "told"] ["script"] (defScope s_law) := ⟨rfl, rfl, rfl, by decide +kernel, rfl, by decide +kernel, by decide +kernel⟩
/-- what the top has written -/
structure Txt (K : PySem.W.Frag) (mg : Str → Option Value) where
  a_law_cell : Addr
  d_law_cell : FuncData
  F_law_cell : Fun K "_law_cell" "_law_cell" s_law_cell a_law_cell d_law_cell
  b_law_cell : Binds K d_law_cell ["script", "k"] []
  g_law_cell : mg "_law_cell" = some (.ref a_law_cell)
  a_law_draws : Addr
  d_law_draws : FuncData
  F_law_draws : Fun K "_law_draws" "_law_draws" s_law_draws a_law_draws d_law_draws
  b_law_draws : Binds K d_law_draws ["cell", "sizes"] []
  g_law_draws : mg "_law_draws" = some (.ref a_law_draws)
  a_law_names : Addr
  d_law_names : FuncData
  F_law_names : Fun K "_law_names" "_law_names" s_law_names a_law_names d_law_names
  b_law_names : Binds K d_law_names ["cell", "count"] []
  g_law_names : mg "_law_names" = some (.ref a_law_names)
  a_law_unlike_rows : Addr
  d_law_unlike_rows : FuncData
  F_law_unlike_rows : Fun K "_law_unlike_rows" "_law_unlike_rows" s_law_unlike_rows a_law_unlike_rows d_law_unlike_rows
  b_law_unlike_rows : Binds K d_law_unlike_rows ["cell", "names", "count", "spread", "base"] []
  g_law_unlike_rows : mg "_law_unlike_rows" = some (.ref a_law_unlike_rows)
  a_law_rows : Addr
  d_law_rows : FuncData
  F_law_rows : Fun K "_law_rows" "_law_rows" s_law_rows a_law_rows d_law_rows
  b_law_rows : Binds K d_law_rows ["cell", "names", "count", "spread", "base"] []
  g_law_rows : mg "_law_rows" = some (.ref a_law_rows)
  a_law_shaped : Addr
  d_law_shaped : FuncData
  F_law_shaped : Fun K "_law_shaped" "_law_shaped" s_law_shaped a_law_shaped d_law_shaped
  b_law_shaped : Binds K d_law_shaped ["rows", "shape", "base", "gap"] []
  g_law_shaped : mg "_law_shaped" = some (.ref a_law_shaped)
  a_law_wide_rows : Addr
  d_law_wide_rows : FuncData
  F_law_wide_rows : Fun K "_law_wide_rows" "_law_wide_rows" s_law_wide_rows a_law_wide_rows d_law_wide_rows
  b_law_wide_rows : Binds K d_law_wide_rows ["script", "at"] []
  g_law_wide_rows : mg "_law_wide_rows" = some (.ref a_law_wide_rows)
  a_InvalidSheaf_init : Addr
  d_InvalidSheaf_init : FuncData
  F_InvalidSheaf_init : Fun K "__init__" "InvalidSheaf.__init__" s_InvalidSheaf_init a_InvalidSheaf_init d_InvalidSheaf_init
  b_InvalidSheaf_init : Binds K d_InvalidSheaf_init ["self", "index"] []
  a_valid_record : Addr
  d_valid_record : FuncData
  F_valid_record : Fun K "valid_record" "valid_record" s_valid_record a_valid_record d_valid_record
  b_valid_record : Binds K d_valid_record ["text"] []
  g_valid_record : mg "valid_record" = some (.ref a_valid_record)
  a_Sheaf_init : Addr
  d_Sheaf_init : FuncData
  F_Sheaf_init : Fun K "__init__" "Sheaf.__init__" s_Sheaf_init a_Sheaf_init d_Sheaf_init
  b_Sheaf_init : Binds K d_Sheaf_init ["self", "rows"] []
  a_Sheaf_len : Addr
  d_Sheaf_len : FuncData
  F_Sheaf_len : Fun K "__len__" "Sheaf.__len__" s_Sheaf_len a_Sheaf_len d_Sheaf_len
  b_Sheaf_len : Binds K d_Sheaf_len ["self"] []
  a_Sheaf_rows : Addr
  d_Sheaf_rows : FuncData
  F_Sheaf_rows : Fun K "rows" "Sheaf.rows" s_Sheaf_rows a_Sheaf_rows d_Sheaf_rows
  b_Sheaf_rows : Binds K d_Sheaf_rows ["self"] []
  a_law_same_rows : Addr
  d_law_same_rows : FuncData
  F_law_same_rows : Fun K "_law_same_rows" "_law_same_rows" s_law_same_rows a_law_same_rows d_law_same_rows
  b_law_same_rows : Binds K d_law_same_rows ["told", "rows"] []
  g_law_same_rows : mg "_law_same_rows" = some (.ref a_law_same_rows)
  a_Sheaf_iter : Addr
  d_Sheaf_iter : FuncData
  F_Sheaf_iter : Fun K "__iter__" "Sheaf.__iter__" s_Sheaf_iter a_Sheaf_iter d_Sheaf_iter
  b_Sheaf_iter : Binds K d_Sheaf_iter ["self"] []
  a_law_holds : Addr
  d_law_holds : FuncData
  F_law_holds : Fun K "_law_holds" "_law_holds" s_law_holds a_law_holds d_law_holds
  b_law_holds : Binds K d_law_holds ["sheaf", "rows"] []
  g_law_holds : mg "_law_holds" = some (.ref a_law_holds)
  a_law_variant : Addr
  d_law_variant : FuncData
  F_law_variant : Fun K "_law_variant" "_law_variant" s_law_variant a_law_variant d_law_variant
  b_law_variant : Binds K d_law_variant ["rows", "cell", "kind"] []
  g_law_variant : mg "_law_variant" = some (.ref a_law_variant)
  a_Sheaf_eq : Addr
  d_Sheaf_eq : FuncData
  F_Sheaf_eq : Fun K "__eq__" "Sheaf.__eq__" s_Sheaf_eq a_Sheaf_eq d_Sheaf_eq
  b_Sheaf_eq : Binds K d_Sheaf_eq ["self", "other"] []
  a_law_equals : Addr
  d_law_equals : FuncData
  F_law_equals : Fun K "_law_equals" "_law_equals" s_law_equals a_law_equals d_law_equals
  b_law_equals : Binds K d_law_equals ["sheaf", "rows", "cell"] []
  g_law_equals : mg "_law_equals" = some (.ref a_law_equals)
  a_Sheaf_add : Addr
  d_Sheaf_add : FuncData
  F_Sheaf_add : Fun K "__add__" "Sheaf.__add__" s_Sheaf_add a_Sheaf_add d_Sheaf_add
  b_Sheaf_add : Binds K d_Sheaf_add ["self", "other"] []
  a_law_sums : Addr
  d_law_sums : FuncData
  F_law_sums : Fun K "_law_sums" "_law_sums" s_law_sums a_law_sums d_law_sums
  b_law_sums : Binds K d_law_sums ["one", "two", "three"] []
  g_law_sums : mg "_law_sums" = some (.ref a_law_sums)
  a_law : Addr
  d_law : FuncData
  F_law : Fun K "law" "law" s_law a_law d_law
  b_law : Binds K d_law ["script"] []
  g_law : mg "law" = some (.ref a_law)
  c_WornError : Addr
  g_WornError : mg "WornError" = some (.ref c_WornError)
  bx_WornError : BaseX K c_WornError
  c_InvalidSheaf : Addr
  g_InvalidSheaf : mg "InvalidSheaf" = some (.ref c_InvalidSheaf)
  ox_InvalidSheaf : OwnX K c_InvalidSheaf a_InvalidSheaf_init
  nf_InvalidSheaf : PySem.W.findIn K (.ref c_InvalidSheaf) "index" = some none
  c_Sheaf : Addr
  g_Sheaf : mg "Sheaf" = some (.ref c_Sheaf)
  cls_Sheaf : Cls K c_Sheaf
  na_Sheaf__rows : NoAttr K c_Sheaf "_rows"
  isi_Sheaf : IsiC K c_Sheaf
  sf_Sheaf : PySem.W.selfFirst K c_Sheaf = true
  mk_Sheaf : Mk K c_Sheaf a_Sheaf_init
  me_Sheaf_len : Meth K c_Sheaf "__len__" a_Sheaf_len
  me_Sheaf_rows : Meth K c_Sheaf "rows" a_Sheaf_rows
  me_Sheaf_iter : Meth K c_Sheaf "__iter__" a_Sheaf_iter
  me_Sheaf_eq : Meth K c_Sheaf "__eq__" a_Sheaf_eq
  me_Sheaf_add : Meth K c_Sheaf "__add__" a_Sheaf_add
  n_bool : mg "bool" = none
  n_enumerate : mg "enumerate" = none
  n_int : mg "int" = none
  n_isinstance : mg "isinstance" = none
  n_iter : mg "iter" = none
  n_len : mg "len" = none
  n_list : mg "list" = none
  n_range : mg "range" = none
  n_str : mg "str" = none
  n_tuple : mg "tuple" = none
  t_LONGEST : Tok
  g_LONGEST : mg "LONGEST" = some (.int 8 t_LONGEST)
  t_SIGNS : Tok
  g_SIGNS : mg "SIGNS" = some (.str "abcdefghijklmnopqrstuvwxyz0123456789" t_SIGNS)
def cmOf {K : PySem.W.Frag} {mg : Str → Option Value} (T : Txt K mg) : String → Addr := fun s => if s = "Sheaf" then T.c_Sheaf else if s = "WornError" then T.c_WornError else if s = "InvalidSheaf" then T.c_InvalidSheaf else 0
def wdOf {K : PySem.W.Frag} {mg : Str → Option Value} (T : Txt K mg) : Wd := ⟨K, cmOf T⟩
theorem cm_Sheaf {K : PySem.W.Frag} {mg : Str → Option Value} (T : Txt K mg) : (wdOf T).cm "Sheaf" = T.c_Sheaf := by simp [wdOf, cmOf]
theorem cm_WornError {K : PySem.W.Frag} {mg : Str → Option Value} (T : Txt K mg) : (wdOf T).cm "WornError" = T.c_WornError := by simp [wdOf, cmOf]
theorem cm_InvalidSheaf {K : PySem.W.Frag} {mg : Str → Option Value} (T : Txt K mg) : (wdOf T).cm "InvalidSheaf" = T.c_InvalidSheaf := by simp [wdOf, cmOf]
/-! ### the mirrors -/
noncomputable def m_law_cell : Ctx.T [.fz 0 Script, .fz 1 Int] → Rs Int := fun γ => Rs.bind (Rs.bind (Rs.ok γ.2.1) (fun x => Rs.bind (Rs.bind (Rs.ok γ.1) (fun x => Rs.ok (x.ns.length : Int))) (fun y => Rs.ok (decide (x < y))))) (fun b => if b = true then Rs.bind (Rs.bind (Rs.ok γ.1) (fun x => Rs.bind (Rs.ok γ.2.1) (fun y => getI x.ns y))) (fun x => Rs.ok x) else Rs.ok (0 : Int))
noncomputable def m_law_draws_l1 : Ctx.T [.fz 5 Int, .fz 4 Bool, .fz 3 Int, .ow 2 (List Int), .fz 0 Int, .bo 1 (List Int)] → Rs (Ctx.T [.fz 4 Bool, .fz 3 Int, .ow 2 (List Int), .fz 0 Int, .bo 1 (List Int)]) := fun γ => Rs.bind (Rs.bind (Rs.bind (Rs.ok γ.2.1) (fun b => if b = true then Rs.bind (Rs.ok γ.2.2.1) (fun x => Rs.bind (Rs.ok (0 : Int)) (fun y => Rs.ok (decide (y < x)))) else Rs.ok false)) (fun b => if b = true then Rs.bind (Rs.bind (Rs.bind (Rs.bind (Rs.ok γ.2.2.1) (fun x => Rs.ok x)) (fun x => Rs.bind (Rs.bind (Rs.ok γ.2.2.2.2.2.1) (fun x => Rs.bind (Rs.ok γ.1) (fun y => getI x y))) (fun y => if 0 < y then Rs.ok (x % y) else Rs.no))) (fun a => Rs.bind (appI γ.2.2.2.1 a) (fun ys => Rs.ok (γ.1, γ.2.1, γ.2.2.1, ys, γ.2.2.2.2.1, γ.2.2.2.2.2.1, ())))) (fun γ => Rs.bind (Rs.bind (Rs.bind (Rs.bind (Rs.ok γ.2.2.1) (fun x => Rs.ok x)) (fun x => Rs.bind (Rs.bind (Rs.ok γ.2.2.2.2.2.1) (fun x => Rs.bind (Rs.ok γ.1) (fun y => getI x y))) (fun y => if CDiv x y then Rs.ok (x / y) else Rs.no))) (fun a => Rs.ok (γ.1, γ.2.1, a, γ.2.2.2.1, γ.2.2.2.2.1, γ.2.2.2.2.2.1, ()))) (fun γ => Rs.ok (γ.2.1, γ.2.2.1, γ.2.2.2.1, γ.2.2.2.2.1, γ.2.2.2.2.2.1, ()))) else Rs.bind (Rs.bind (Rs.bind (Rs.bind (Rs.bind (Rs.bind (Rs.ok γ.2.2.2.2.1) (fun x => Rs.bind (Rs.bind (Rs.ok (7919 : Int)) (fun x => Rs.bind (Rs.ok γ.1) (fun y => if CMul x y then Rs.ok (x * y) else Rs.no))) (fun y => Rs.ok (x + y)))) (fun x => Rs.bind (Rs.ok (13 : Int)) (fun y => Rs.ok (x + y)))) (fun x => Rs.ok x)) (fun x => Rs.bind (Rs.ok (2147483647 : Int)) (fun y => if 0 < y then Rs.ok (x % y) else Rs.no))) (fun a => Rs.ok (a, γ.1, γ.2.1, γ.2.2.1, γ.2.2.2.1, γ.2.2.2.2.1, γ.2.2.2.2.2.1, ()))) (fun γ => Rs.bind (Rs.bind (Rs.bind (Rs.bind (Rs.bind (Rs.ok γ.1) (fun x => Rs.bind (Rs.bind (Rs.ok γ.1) (fun x => Rs.bind (Rs.ok (48271 : Int)) (fun y => Rs.ok (x + y)))) (fun y => if CMul x y then Rs.ok (x * y) else Rs.no))) (fun x => Rs.ok x)) (fun x => Rs.bind (Rs.ok (2147483629 : Int)) (fun y => if 0 < y then Rs.ok (x % y) else Rs.no))) (fun a => Rs.ok (a, γ.2.1, γ.2.2.1, γ.2.2.2.1, γ.2.2.2.2.1, γ.2.2.2.2.2.1, γ.2.2.2.2.2.2.1, ()))) (fun γ => Rs.bind (Rs.bind (Rs.bind (Rs.bind (Rs.bind (Rs.bind (Rs.ok γ.1) (fun x => Rs.bind (Rs.bind (Rs.ok γ.1) (fun x => Rs.bind (Rs.ok (69621 : Int)) (fun y => Rs.ok (x + y)))) (fun y => if CMul x y then Rs.ok (x * y) else Rs.no))) (fun x => Rs.bind (Rs.bind (Rs.ok (31 : Int)) (fun x => Rs.bind (Rs.ok γ.2.1) (fun y => if CMul x y then Rs.ok (x * y) else Rs.no))) (fun y => Rs.ok (x + y)))) (fun x => Rs.ok x)) (fun x => Rs.bind (Rs.ok (2147483647 : Int)) (fun y => if 0 < y then Rs.ok (x % y) else Rs.no))) (fun a => Rs.ok (a, γ.2.1, γ.2.2.1, γ.2.2.2.1, γ.2.2.2.2.1, γ.2.2.2.2.2.1, γ.2.2.2.2.2.2.1, ()))) (fun γ => Rs.bind (Rs.bind (Rs.bind (Rs.bind (Rs.bind (Rs.ok γ.1) (fun x => Rs.bind (Rs.ok (9 : Int)) (fun y => if CDiv x y then Rs.ok (x / y) else Rs.no))) (fun x => Rs.ok x)) (fun x => Rs.bind (Rs.bind (Rs.ok γ.2.2.2.2.2.2.1) (fun x => Rs.bind (Rs.ok γ.2.1) (fun y => getI x y))) (fun y => if 0 < y then Rs.ok (x % y) else Rs.no))) (fun a => Rs.bind (appI γ.2.2.2.2.1 a) (fun ys => Rs.ok (γ.1, γ.2.1, γ.2.2.1, γ.2.2.2.1, ys, γ.2.2.2.2.2.1, γ.2.2.2.2.2.2.1, ())))) (fun γ => Rs.ok (γ.2.2.1, γ.2.2.2.1, γ.2.2.2.2.1, γ.2.2.2.2.2.1, γ.2.2.2.2.2.2.1, ()))))))) (fun γ => Rs.ok (γ.1, γ.2.1, γ.2.2.1, γ.2.2.2.1, γ.2.2.2.2.1, ()))
noncomputable def m_law_draws : Ctx.T [.fz 0 Int, .bo 1 (List Int)] → Rs (List Int) := fun γ => Rs.bind (Rs.bind (Rs.bind (Rs.ok ([] : List Int)) Rs.ok) (fun a => Rs.ok (a, γ.1, γ.2.1, ()))) (fun γ => Rs.bind (Rs.bind (Rs.bind (Rs.ok γ.2.1) (fun x => Rs.ok x)) (fun a => Rs.ok (a, γ.1, γ.2.1, γ.2.2.1, ()))) (fun γ => Rs.bind (Rs.bind (Rs.bind (Rs.ok γ.1) (fun x => Rs.bind (Rs.bind (Rs.ok (10 : Int)) (fun x => Rs.bind (Rs.ok (18 : Int)) (fun y => if CPow x y then Rs.ok (x ^ y.toNat) else Rs.no))) (fun y => Rs.ok (decide (y ≤ x))))) (fun a => Rs.ok (a, γ.1, γ.2.1, γ.2.2.1, γ.2.2.2.1, ()))) (fun γ => Rs.bind (Rs.bind (Rs.bind (Rs.bind (Rs.ok γ.2.2.2.2.1) (fun x => Rs.ok (x.length : Int))) (fun n => Rng 0 n)) (fun xs => Rs.fold (fun γ x => m_law_draws_l1 (x, γ)) γ xs)) (fun γ => Rs.ok γ.2.2.1))))
noncomputable def m_law_names_l1 : Ctx.T [.fz 5 Int, .ow 4 (List Str), .ow 3 (List Int), .fz 2 Str, .fz 1 Int] → Rs (Ctx.T [.ow 4 (List Str), .ow 3 (List Int), .fz 2 Str, .fz 1 Int]) := fun γ => Rs.bind (Rs.bind (Rs.bind (Rs.bind (Rs.bind (Rs.bind (Rs.ok γ.2.2.1) (fun x => Rs.bind (Rs.ok (1 : Int)) (fun y => getI x y))) (fun x => Rs.bind (Rs.bind (Rs.ok γ.1) (fun x => Rs.bind (Rs.bind (Rs.ok (1 : Int)) (fun x => Rs.bind (Rs.bind (Rs.bind (Rs.ok γ.2.2.1) (fun x => Rs.bind (Rs.ok (2 : Int)) (fun y => getI x y))) (fun x => Rs.bind (Rs.ok (5 : Int)) (fun y => if CDiv x y then Rs.ok (x / y) else Rs.no))) (fun y => Rs.ok (x + y)))) (fun y => if CMul x y then Rs.ok (x * y) else Rs.no))) (fun y => Rs.ok (x + y)))) (fun x => Rs.ok x)) (fun x => Rs.bind (Rs.ok (36 : Int)) (fun y => if 0 < y then Rs.ok (x % y) else Rs.no))) (fun a => Rs.ok (a, γ.1, γ.2.1, γ.2.2.1, γ.2.2.2.1, γ.2.2.2.2.1, ()))) (fun γ => Rs.bind (Rs.bind (Rs.bind (Rs.bind (Rs.bind (Rs.ok γ.2.2.2.1) (fun x => Rs.bind (Rs.ok (0 : Int)) (fun y => getI x y))) (fun x => Rs.bind (Rs.ok (0 : Int)) (fun y => Rs.ok (decide (x = y))))) (fun b => if b = true then Rs.bind (Rs.bind (Rs.ok γ.2.2.2.2.2.1) (fun x => Rs.bind (Rs.bind (Rs.ok (1 : Int)) (fun x => Rs.bind (Rs.bind (Rs.bind (Rs.ok γ.2.2.2.1) (fun x => Rs.bind (Rs.ok (2 : Int)) (fun y => getI x y))) (fun x => Rs.bind (Rs.ok (5 : Int)) (fun y => if CDiv x y then Rs.ok (x / y) else Rs.no))) (fun y => Rs.ok (x + y)))) (fun y => if CMul x y then Rs.ok (x * y) else Rs.no))) (fun x => Rs.bind (Rs.ok (36 : Int)) (fun y => Rs.ok (decide (x ≤ y)))) else Rs.ok false)) (fun b => if b = true then Rs.bind (Rs.bind (Rs.bind (Rs.ok γ.2.2.2.2.1) (fun x => Rs.bind (Rs.ok γ.1) (fun y => getI (chars x) y))) (fun a => Rs.bind (appI γ.2.2.1 a) (fun ys => Rs.ok (γ.1, γ.2.1, ys, γ.2.2.2.1, γ.2.2.2.2.1, γ.2.2.2.2.2.1, ())))) (fun γ => Rs.ok (γ.2.2.1, γ.2.2.2.1, γ.2.2.2.2.1, γ.2.2.2.2.2.1, ())) else Rs.bind (Rs.bind (Rs.bind (Rs.bind (Rs.bind (Rs.bind (Rs.bind (Rs.ok (36 : Int)) (fun x => Rs.bind (Rs.bind (Rs.ok γ.2.2.2.1) (fun x => Rs.bind (Rs.ok (1 : Int)) (fun y => getI x y))) (fun y => if CMul x y then Rs.ok (x * y) else Rs.no))) (fun x => Rs.bind (Rs.bind (Rs.ok γ.2.2.2.1) (fun x => Rs.bind (Rs.ok (2 : Int)) (fun y => getI x y))) (fun y => Rs.ok (x + y)))) (fun x => Rs.bind (Rs.bind (Rs.ok (7 : Int)) (fun x => Rs.bind (Rs.ok γ.2.1) (fun y => if CMul x y then Rs.ok (x * y) else Rs.no))) (fun y => Rs.ok (x + y)))) (fun x => Rs.ok x)) (fun x => Rs.bind (Rs.ok (1296 : Int)) (fun y => if 0 < y then Rs.ok (x % y) else Rs.no))) (fun a => Rs.ok (a, γ.2.1, γ.2.2.1, γ.2.2.2.1, γ.2.2.2.2.1, γ.2.2.2.2.2.1, ()))) (fun γ => Rs.bind (Rs.bind (Rs.bind (Rs.bind (Rs.ok (4 : Int)) (fun x => Rs.bind (Rs.ok γ.2.1) (fun y => if CMul x y then Rs.ok (x * y) else Rs.no))) (fun x => Rs.bind (Rs.bind (Rs.bind (Rs.bind (Rs.bind (Rs.bind (Rs.ok γ.2.2.2.1) (fun x => Rs.bind (Rs.ok (2 : Int)) (fun y => getI x y))) (fun x => Rs.ok x)) (fun x => Rs.bind (Rs.ok (4 : Int)) (fun y => if 0 < y then Rs.ok (x % y) else Rs.no))) (fun x => Rs.bind (Rs.ok (1 : Int)) (fun y => Rs.ok (decide (y < x))))) (fun x => Rs.ok (if x = true then (1 : Int) else 0))) (fun y => if CMul x y then Rs.ok (x * y) else Rs.no))) (fun a => Rs.ok (a, γ.1, γ.2.2.1, γ.2.2.2.1, γ.2.2.2.2.1, γ.2.2.2.2.2.1, ()))) (fun γ => Rs.bind (Rs.bind (Rs.bind (Rs.bind (Rs.bind (Rs.ok γ.2.2.2.2.1) (fun x => Rs.bind (Rs.bind (Rs.ok γ.2.2.2.1) (fun x => Rs.bind (Rs.bind (Rs.ok (4 : Int)) (fun x => Rs.bind (Rs.ok γ.1) (fun y => Rs.ok (x + y)))) (fun y => getI x y))) (fun y => getI (chars x) y))) (fun x => Rs.bind (Rs.bind (Rs.ok γ.2.2.2.2.1) (fun x => Rs.bind (Rs.bind (Rs.ok γ.2.2.2.1) (fun x => Rs.bind (Rs.bind (Rs.ok (5 : Int)) (fun x => Rs.bind (Rs.ok γ.1) (fun y => Rs.ok (x + y)))) (fun y => getI x y))) (fun y => getI (chars x) y))) (fun y => catS x y))) (fun x => Rs.bind (Rs.bind (Rs.ok γ.2.2.2.2.1) (fun x => Rs.bind (Rs.bind (Rs.ok γ.2.2.2.1) (fun x => Rs.bind (Rs.bind (Rs.ok (6 : Int)) (fun x => Rs.bind (Rs.ok γ.1) (fun y => Rs.ok (x + y)))) (fun y => getI x y))) (fun y => getI (chars x) y))) (fun y => catS x y))) (fun a => Rs.ok (a, γ.1, γ.2.1, γ.2.2.1, γ.2.2.2.1, γ.2.2.2.2.1, γ.2.2.2.2.2.1, ()))) (fun γ => Rs.bind (Rs.bind (Rs.bind (Rs.bind (Rs.ok γ.1) (fun x => Rs.bind (Rs.ok γ.1) (fun y => catS x y))) (fun x => Rs.bind (Rs.ok none) (fun l => Rs.bind (Rs.bind (Rs.bind (Rs.ok γ.2.2.2.2.1) (fun x => Rs.bind (Rs.bind (Rs.ok (3 : Int)) (fun x => Rs.bind (Rs.ok γ.2.1) (fun y => Rs.ok (x + y)))) (fun y => getI x y))) (fun i => Rs.ok (some i))) (fun h => Rs.ok (cutS x l h))))) (fun a => Rs.ok (a, γ.2.1, γ.2.2.1, γ.2.2.2.1, γ.2.2.2.2.1, γ.2.2.2.2.2.1, γ.2.2.2.2.2.2.1, ()))) (fun γ => Rs.bind (Rs.bind (Rs.bind (Rs.bind (Rs.ok γ.2.2.2.2.2.1) (fun x => Rs.bind (Rs.bind (Rs.ok γ.2.2.1) (fun x => Rs.bind (Rs.ok (36 : Int)) (fun y => if CDiv x y then Rs.ok (x / y) else Rs.no))) (fun y => getI (chars x) y))) (fun x => Rs.bind (Rs.bind (Rs.ok γ.2.2.2.2.2.1) (fun x => Rs.bind (Rs.bind (Rs.bind (Rs.ok γ.2.2.1) (fun x => Rs.ok x)) (fun x => Rs.bind (Rs.ok (36 : Int)) (fun y => if 0 < y then Rs.ok (x % y) else Rs.no))) (fun y => getI (chars x) y))) (fun y => catS x y))) (fun a => Rs.ok (a, γ.1, γ.2.2.2.1, γ.2.2.2.2.1, γ.2.2.2.2.2.1, γ.2.2.2.2.2.2.1, ()))) (fun γ => Rs.bind (Rs.bind (Rs.bind (Rs.bind (Rs.bind (Rs.bind (Rs.ok γ.2.1) (fun x => Rs.bind (Rs.ok γ.1) (fun y => catS x y))) (fun a => Rs.bind (Rs.bind (Rs.bind (Rs.ok γ.1) (fun x => Rs.bind (Rs.ok γ.2.1) (fun y => catS x y))) (fun a => Rs.bind (Rs.ok ([] : List Str)) (fun g => Rs.ok (a :: g)))) (fun g => Rs.ok (a :: g)))) Rs.ok) (fun x => Rs.bind (Rs.bind (Rs.bind (Rs.bind (Rs.ok γ.2.2.2.1) (fun x => Rs.bind (Rs.ok (2 : Int)) (fun y => getI x y))) (fun x => Rs.ok x)) (fun x => Rs.bind (Rs.ok (2 : Int)) (fun y => if 0 < y then Rs.ok (x % y) else Rs.no))) (fun y => getI x y))) (fun a => Rs.bind (appI γ.2.2.1 a) (fun ys => Rs.ok (γ.1, γ.2.1, ys, γ.2.2.2.1, γ.2.2.2.2.1, γ.2.2.2.2.2.1, ())))) (fun γ => Rs.ok (γ.2.2.1, γ.2.2.2.1, γ.2.2.2.2.1, γ.2.2.2.2.2.1, ()))))))))) (fun γ => Rs.ok (γ.1, γ.2.1, γ.2.2.1, γ.2.2.2.1, ())))
noncomputable def m_law_names : Ctx.T [.fz 0 Int, .fz 1 Int] → Rs (List Str) := fun γ => Rs.bind (Rs.bind (Rs.ok ("abcdefghijklmnopqrstuvwxyz0123456789" : Str)) (fun a => Rs.ok (a, γ.1, γ.2.1, ()))) (fun γ => Rs.bind (Rs.bind (Rs.bind (Rs.bind (Rs.ok γ.2.1) (fun a => Rs.bind (Rs.bind (Rs.bind (Rs.bind (Rs.bind (Rs.ok (2 : Int)) (fun a => Rs.bind (Rs.bind (Rs.ok (36 : Int)) (fun a => Rs.bind (Rs.bind (Rs.ok (35 : Int)) (fun a => Rs.bind (Rs.ok ([] : List Int)) (fun g => Rs.ok (a :: g)))) (fun g => Rs.ok (a :: g)))) (fun g => Rs.ok (a :: g)))) Rs.ok) (fun x => Rs.bind (Rs.bind (Rs.bind (Rs.bind (Rs.ok (7 : Int)) (fun a => Rs.bind (Rs.bind (Rs.ok (36 : Int)) (fun a => Rs.bind (Rs.bind (Rs.ok (36 : Int)) (fun a => Rs.bind (Rs.bind (Rs.ok (36 : Int)) (fun a => Rs.bind (Rs.ok ([] : List Int)) (fun g => Rs.ok (a :: g)))) (fun g => Rs.ok (a :: g)))) (fun g => Rs.ok (a :: g)))) (fun g => Rs.ok (a :: g)))) Rs.ok) (fun x => Rs.bind (Rs.ok γ.2.2.1) (fun y => repI x y))) (fun y => catI x y))) (fun a => Rs.bind (Rs.ok ()) (fun g => Rs.ok (a, g)))) (fun g => Rs.ok (a, g)))) m_law_draws) (fun a => Rs.ok (a, γ.1, γ.2.2.1, ()))) (fun γ => Rs.bind (Rs.bind (Rs.bind (Rs.ok ([] : List Str)) Rs.ok) (fun a => Rs.ok (a, γ.1, γ.2.1, γ.2.2.1, ()))) (fun γ => Rs.bind (Rs.bind (Rs.bind (Rs.ok γ.2.2.2.1) (fun n => Rng 0 n)) (fun xs => Rs.fold (fun γ x => m_law_names_l1 (x, γ)) γ xs)) (fun γ => Rs.ok γ.1))))
noncomputable def m_law_unlike_rows_e1 : Ctx.T [.fz 6 Int, .ow 5 (List Int), .bo 1 (List Str), .fz 4 Int] → Rs (Int × Str) := fun γ => Rs.bind (Rs.bind (Rs.ok γ.2.2.2.1) (fun x => Rs.bind (Rs.bind (Rs.ok γ.2.1) (fun x => Rs.bind (Rs.ok γ.1) (fun y => getI x y))) (fun y => Rs.ok (x + y)))) (fun x => Rs.bind (Rs.bind (Rs.ok γ.2.2.1) (fun x => Rs.bind (Rs.ok γ.1) (fun y => getI x y))) (fun y => Rs.ok (x, y)))
noncomputable def m_law_unlike_rows : Ctx.T [.fz 0 Int, .bo 1 (List Str), .fz 2 Int, .fz 3 Int, .fz 4 Int] → Rs (List (Int × Str)) := fun γ => Rs.bind (Rs.bind (Rs.bind (Rs.bind (Rs.ok γ.1) (fun a => Rs.bind (Rs.bind (Rs.bind (Rs.bind (Rs.bind (Rs.ok γ.2.2.2.1) (fun a => Rs.bind (Rs.ok ([] : List Int)) (fun g => Rs.ok (a :: g)))) Rs.ok) (fun x => Rs.bind (Rs.ok γ.2.2.1) (fun y => repI x y))) (fun a => Rs.bind (Rs.ok ()) (fun g => Rs.ok (a, g)))) (fun g => Rs.ok (a, g)))) m_law_draws) (fun a => Rs.ok (a, γ.2.1, γ.2.2.1, γ.2.2.2.2.1, ()))) (fun γ => Rs.bind (Rs.bind (Rs.ok γ.2.2.1) (fun n => Rng 0 n)) (fun xs => if xs.length ≤ 16777216 then Rs.comp (fun x => Rs.ok true) (fun x => m_law_unlike_rows_e1 (x, (γ.1, γ.2.1, γ.2.2.2.1, ()))) xs else Rs.no))
noncomputable def m_law_rows_e1 : Ctx.T [.fz 6 Int, .ow 5 (List Int), .bo 1 (List Str), .fz 4 Int] → Rs (Int × Str) := fun γ => Rs.bind (Rs.bind (Rs.ok γ.2.2.2.1) (fun x => Rs.bind (Rs.bind (Rs.ok γ.2.1) (fun x => Rs.bind (Rs.bind (Rs.ok (2 : Int)) (fun x => Rs.bind (Rs.ok γ.1) (fun y => if CMul x y then Rs.ok (x * y) else Rs.no))) (fun y => getI x y))) (fun y => Rs.ok (x + y)))) (fun x => Rs.bind (Rs.bind (Rs.ok γ.2.2.1) (fun x => Rs.bind (Rs.bind (Rs.ok γ.2.1) (fun x => Rs.bind (Rs.bind (Rs.bind (Rs.ok (2 : Int)) (fun x => Rs.bind (Rs.ok γ.1) (fun y => if CMul x y then Rs.ok (x * y) else Rs.no))) (fun x => Rs.bind (Rs.ok (1 : Int)) (fun y => Rs.ok (x + y)))) (fun y => getI x y))) (fun y => getI x y))) (fun y => Rs.ok (x, y)))
noncomputable def m_law_rows : Ctx.T [.fz 0 Int, .bo 1 (List Str), .fz 2 Int, .fz 3 Int, .fz 4 Int] → Rs (List (Int × Str)) := fun γ => Rs.bind (Rs.bind (Rs.bind (Rs.bind (Rs.ok γ.1) (fun a => Rs.bind (Rs.bind (Rs.bind (Rs.bind (Rs.bind (Rs.ok γ.2.2.2.1) (fun a => Rs.bind (Rs.bind (Rs.bind (Rs.ok γ.2.1) (fun x => Rs.ok (x.length : Int))) (fun a => Rs.bind (Rs.ok ([] : List Int)) (fun g => Rs.ok (a :: g)))) (fun g => Rs.ok (a :: g)))) Rs.ok) (fun x => Rs.bind (Rs.ok γ.2.2.1) (fun y => repI x y))) (fun a => Rs.bind (Rs.ok ()) (fun g => Rs.ok (a, g)))) (fun g => Rs.ok (a, g)))) m_law_draws) (fun a => Rs.ok (a, γ.2.1, γ.2.2.1, γ.2.2.2.2.1, ()))) (fun γ => Rs.bind (Rs.bind (Rs.ok γ.2.2.1) (fun n => Rng 0 n)) (fun xs => if xs.length ≤ 16777216 then Rs.comp (fun x => Rs.ok true) (fun x => m_law_rows_e1 (x, (γ.1, γ.2.1, γ.2.2.2.1, ()))) xs else Rs.no))
noncomputable def m_law_shaped_e1 : Ctx.T [.fz 4 (Int × Str), .fz 2 Int] → Rs (Int × Str) := fun γ => Rs.bind (Rs.ok γ.2.1) (fun x => Rs.bind (Rs.bind (Rs.ok γ.1) (fun x => Rs.ok x.2)) (fun y => Rs.ok (x, y)))
noncomputable def m_law_shaped_e2 : Ctx.T [.fz 5 Int, .fz 0 (List (Int × Str)), .fz 2 Int, .fz 3 Int] → Rs (Int × Str) := fun γ => Rs.bind (Rs.bind (Rs.ok γ.2.2.1) (fun x => Rs.bind (Rs.bind (Rs.ok γ.2.2.2.1) (fun x => Rs.bind (Rs.bind (Rs.bind (Rs.bind (Rs.bind (Rs.bind (Rs.bind (Rs.ok γ.2.1) (fun x => Rs.bind (Rs.ok γ.1) (fun y => getI x y))) (fun x => Rs.ok x.1)) (fun x => Rs.bind (Rs.ok γ.2.2.1) (fun y => Rs.ok (x - y)))) (fun x => Rs.bind (Rs.ok γ.1) (fun y => Rs.ok (x + y)))) (fun x => Rs.ok x)) (fun x => Rs.bind (Rs.ok (2 : Int)) (fun y => if 0 < y then Rs.ok (x % y) else Rs.no))) (fun y => if CMul x y then Rs.ok (x * y) else Rs.no))) (fun y => Rs.ok (x + y)))) (fun x => Rs.bind (Rs.bind (Rs.bind (Rs.ok γ.2.1) (fun x => Rs.bind (Rs.ok γ.1) (fun y => getI x y))) (fun x => Rs.ok x.2)) (fun y => Rs.ok (x, y)))
noncomputable def m_law_shaped_e3 : Ctx.T [.fz 5 Int, .fz 0 (List (Int × Str)), .fz 2 Int] → Rs (Int × Str) := fun γ => Rs.bind (Rs.bind (Rs.ok γ.2.2.1) (fun x => Rs.bind (Rs.ok γ.1) (fun y => Rs.ok (x + y)))) (fun x => Rs.bind (Rs.bind (Rs.bind (Rs.ok γ.2.1) (fun x => Rs.bind (Rs.ok γ.1) (fun y => getI x y))) (fun x => Rs.ok x.2)) (fun y => Rs.ok (x, y)))
noncomputable def m_law_shaped : Ctx.T [.fz 0 (List (Int × Str)), .fz 1 Int, .fz 2 Int, .fz 3 Int] → Rs (List (Int × Str)) := fun γ => Rs.bind (Rs.bind (Rs.ok γ.2.1) (fun x => Rs.bind (Rs.ok (0 : Int)) (fun y => Rs.ok (decide (x = y))))) (fun b => if b = true then Rs.bind (Rs.bind (Rs.ok γ.1) Rs.ok) (fun xs => if xs.length ≤ 16777216 then Rs.comp (fun x => Rs.ok true) (fun x => m_law_shaped_e1 (x, (γ.2.2.1, ()))) xs else Rs.no) else Rs.bind (Rs.bind (Rs.ok γ.2.1) (fun x => Rs.bind (Rs.ok (2 : Int)) (fun y => Rs.ok (decide (x = y))))) (fun b => if b = true then Rs.bind (Rs.bind (Rs.bind (Rs.ok γ.1) (fun x => Rs.ok (x.length : Int))) (fun n => Rng 0 n)) (fun xs => if xs.length ≤ 16777216 then Rs.comp (fun x => Rs.ok true) (fun x => m_law_shaped_e2 (x, (γ.1, γ.2.2.1, γ.2.2.2.1, ()))) xs else Rs.no) else Rs.bind (Rs.bind (Rs.ok γ.2.1) (fun x => Rs.bind (Rs.ok (3 : Int)) (fun y => Rs.ok (decide (x = y))))) (fun b => if b = true then Rs.bind (Rs.bind (Rs.bind (Rs.ok γ.1) (fun x => Rs.ok (x.length : Int))) (fun n => Rng 0 n)) (fun xs => if xs.length ≤ 16777216 then Rs.comp (fun x => Rs.ok true) (fun x => m_law_shaped_e3 (x, (γ.1, γ.2.2.1, ()))) xs else Rs.no) else Rs.ok γ.1)))
noncomputable def m_law_wide_rows_b1 : Ctx.T [.fz 8 (List (Int × Str)), .fz 6 Int, .fz 5 Int, .ow 2 (List Int)] → Rs (List (Int × Str)) := fun γ => Rs.bind (Rs.bind (Rs.ok γ.1) (fun a => Rs.bind (Rs.bind (Rs.ok γ.2.1) (fun a => Rs.bind (Rs.bind (Rs.ok γ.2.2.1) (fun a => Rs.bind (Rs.bind (Rs.bind (Rs.ok (1 : Int)) (fun x => Rs.bind (Rs.bind (Rs.ok γ.2.2.2.1) (fun x => Rs.bind (Rs.ok (9 : Int)) (fun y => getI x y))) (fun y => Rs.ok (x + y)))) (fun a => Rs.bind (Rs.ok ()) (fun g => Rs.ok (a, g)))) (fun g => Rs.ok (a, g)))) (fun g => Rs.ok (a, g)))) (fun g => Rs.ok (a, g)))) m_law_shaped
noncomputable def m_law_wide_rows : Ctx.T [.fz 0 Script, .fz 1 Int] → Rs (List (Int × Str)) := fun γ => Rs.bind (Rs.bind (Rs.bind (Rs.bind (Rs.bind (Rs.bind (Rs.ok γ.1) (fun a => Rs.bind (Rs.bind (Rs.ok γ.2.1) (fun a => Rs.bind (Rs.ok ()) (fun g => Rs.ok (a, g)))) (fun g => Rs.ok (a, g)))) m_law_cell) (fun a => Rs.bind (Rs.bind (Rs.bind (Rs.bind (Rs.ok (8 : Int)) (fun a => Rs.bind (Rs.bind (Rs.ok (6 : Int)) (fun a => Rs.bind (Rs.bind (Rs.ok (5 : Int)) (fun a => Rs.bind (Rs.bind (Rs.ok (40 : Int)) (fun a => Rs.bind (Rs.bind (Rs.ok (12 : Int)) (fun a => Rs.bind (Rs.bind (Rs.ok (13 : Int)) (fun a => Rs.bind (Rs.bind (Rs.ok (32 : Int)) (fun a => Rs.bind (Rs.bind (Rs.ok (8 : Int)) (fun a => Rs.bind (Rs.bind (Rs.ok (4 : Int)) (fun a => Rs.bind (Rs.bind (Rs.ok (40 : Int)) (fun a => Rs.bind (Rs.bind (Rs.ok (2 : Int)) (fun a => Rs.bind (Rs.bind (Rs.ok (40 : Int)) (fun a => Rs.bind (Rs.ok ([] : List Int)) (fun g => Rs.ok (a :: g)))) (fun g => Rs.ok (a :: g)))) (fun g => Rs.ok (a :: g)))) (fun g => Rs.ok (a :: g)))) (fun g => Rs.ok (a :: g)))) (fun g => Rs.ok (a :: g)))) (fun g => Rs.ok (a :: g)))) (fun g => Rs.ok (a :: g)))) (fun g => Rs.ok (a :: g)))) (fun g => Rs.ok (a :: g)))) (fun g => Rs.ok (a :: g)))) (fun g => Rs.ok (a :: g)))) Rs.ok) (fun a => Rs.bind (Rs.ok ()) (fun g => Rs.ok (a, g)))) (fun g => Rs.ok (a, g)))) m_law_draws) (fun a => Rs.ok (a, γ.1, γ.2.1, ()))) (fun γ => Rs.bind (Rs.bind (Rs.bind (Rs.ok (1 : Int)) (fun x => Rs.bind (Rs.bind (Rs.ok γ.1) (fun x => Rs.bind (Rs.ok (1 : Int)) (fun y => getI x y))) (fun y => Rs.ok (x + y)))) (fun a => Rs.ok (a, γ.1, γ.2.1, γ.2.2.1, ()))) (fun γ => Rs.bind (Rs.bind (Rs.bind (Rs.ok (1 : Int)) (fun x => Rs.bind (Rs.bind (Rs.ok γ.2.1) (fun x => Rs.bind (Rs.ok (2 : Int)) (fun y => getI x y))) (fun y => Rs.ok (x + y)))) (fun a => Rs.ok (a, γ.1, γ.2.1, γ.2.2.1, γ.2.2.2.1, ()))) (fun γ => Rs.bind (Rs.bind (Rs.bind (Rs.bind (Rs.ok γ.2.2.1) (fun x => Rs.bind (Rs.ok (0 : Int)) (fun y => getI x y))) (fun x => Rs.bind (Rs.ok (7 : Int)) (fun y => Rs.ok (decide (x = y))))) (fun b => if b = true then Rs.bind (Rs.bind (Rs.bind (Rs.ok (1 : Int)) (fun x => Rs.bind (Rs.bind (Rs.ok γ.2.2.1) (fun x => Rs.bind (Rs.ok (3 : Int)) (fun y => getI x y))) (fun y => Rs.ok (x + y)))) (fun a => Rs.ok (γ.1, a, γ.2.2.1, γ.2.2.2.1, γ.2.2.2.2.1, ()))) (fun γ => Rs.bind (Rs.bind (Rs.bind (Rs.ok (1 : Int)) (fun x => Rs.bind (Rs.bind (Rs.ok γ.2.2.1) (fun x => Rs.bind (Rs.ok (4 : Int)) (fun y => getI x y))) (fun y => Rs.ok (x + y)))) (fun a => Rs.ok (a, γ.2.1, γ.2.2.1, γ.2.2.2.1, γ.2.2.2.2.1, ()))) (fun γ => Rs.ok (γ.1, γ.2.1, γ.2.2.1, γ.2.2.2.1, γ.2.2.2.2.1, ()))) else Rs.ok (γ.1, γ.2.1, γ.2.2.1, γ.2.2.2.1, γ.2.2.2.2.1, ()))) (fun γ => Rs.bind (Rs.bind (Rs.bind (Rs.bind (Rs.ok γ.2.2.1) (fun x => Rs.bind (Rs.ok (5 : Int)) (fun y => getI x y))) (fun x => Rs.bind (Rs.ok (6 : Int)) (fun y => Rs.ok (x - y)))) (fun a => Rs.ok (a, γ.1, γ.2.1, γ.2.2.1, γ.2.2.2.1, γ.2.2.2.2.1, ()))) (fun γ => Rs.bind (Rs.bind (Rs.bind (Rs.bind (Rs.ok γ.2.2.2.1) (fun x => Rs.bind (Rs.ok (6 : Int)) (fun y => getI x y))) (fun x => Rs.bind (Rs.ok (2 : Int)) (fun y => Rs.ok (decide (x < y))))) (fun b => if b = true then Rs.bind (Rs.bind (Rs.bind (Rs.bind (Rs.ok (1800 : Int)) (fun x => Rs.bind (Rs.bind (Rs.ok γ.2.2.2.1) (fun x => Rs.bind (Rs.ok (6 : Int)) (fun y => getI x y))) (fun y => if CMul x y then Rs.ok (x * y) else Rs.no))) (fun x => Rs.bind (Rs.ok (900 : Int)) (fun y => Rs.ok (x - y)))) (fun a => Rs.ok (a, γ.2.1, γ.2.2.1, γ.2.2.2.1, γ.2.2.2.2.1, γ.2.2.2.2.2.1, ()))) (fun γ => Rs.ok (γ.1, γ.2.1, γ.2.2.1, γ.2.2.2.1, γ.2.2.2.2.1, γ.2.2.2.2.2.1, ())) else Rs.ok (γ.1, γ.2.1, γ.2.2.1, γ.2.2.2.1, γ.2.2.2.2.1, γ.2.2.2.2.2.1, ()))) (fun γ => Rs.bind (Rs.bind (Rs.ok (4 : Int)) (fun a => Rs.ok (a, γ.1, γ.2.1, γ.2.2.1, γ.2.2.2.1, γ.2.2.2.2.1, γ.2.2.2.2.2.1, ()))) (fun γ => Rs.bind (Rs.bind (Rs.bind (Rs.bind (Rs.ok γ.2.2.2.2.1) (fun x => Rs.bind (Rs.ok (7 : Int)) (fun y => getI x y))) (fun x => Rs.bind (Rs.ok (7 : Int)) (fun y => Rs.ok (decide (x = y))))) (fun b => if b = true then Rs.bind (Rs.bind (Rs.bind (Rs.ok γ.2.2.2.2.1) (fun x => Rs.bind (Rs.ok (8 : Int)) (fun y => getI x y))) (fun a => Rs.ok (a, γ.2.1, γ.2.2.1, γ.2.2.2.1, γ.2.2.2.2.1, γ.2.2.2.2.2.1, γ.2.2.2.2.2.2.1, ()))) (fun γ => Rs.ok (γ.1, γ.2.1, γ.2.2.1, γ.2.2.2.1, γ.2.2.2.2.1, γ.2.2.2.2.2.1, γ.2.2.2.2.2.2.1, ())) else Rs.ok (γ.1, γ.2.1, γ.2.2.1, γ.2.2.2.1, γ.2.2.2.2.1, γ.2.2.2.2.2.1, γ.2.2.2.2.2.2.1, ()))) (fun γ => Rs.bind (Rs.bind (Rs.bind (Rs.ok γ.1) (fun x => Rs.bind (Rs.ok (1 : Int)) (fun y => Rs.ok (decide (x = y))))) (fun b => if b = true then Rs.bind (Rs.bind (Rs.ok (1 : Int)) (fun a => Rs.ok (γ.1, γ.2.1, γ.2.2.1, a, γ.2.2.2.2.1, γ.2.2.2.2.2.1, γ.2.2.2.2.2.2.1, ()))) (fun γ => Rs.ok (γ.1, γ.2.1, γ.2.2.1, γ.2.2.2.1, γ.2.2.2.2.1, γ.2.2.2.2.2.1, γ.2.2.2.2.2.2.1, ())) else Rs.ok (γ.1, γ.2.1, γ.2.2.1, γ.2.2.2.1, γ.2.2.2.2.1, γ.2.2.2.2.2.1, γ.2.2.2.2.2.2.1, ()))) (fun γ => Rs.bind (Rs.bind (Rs.bind (Rs.ok γ.1) (fun x => Rs.bind (Rs.ok (3 : Int)) (fun y => Rs.ok (decide (x = y))))) (fun b => if b = true then Rs.bind (Rs.bind (Rs.bind (Rs.ok (1 : Int)) (fun x => Rs.bind (Rs.bind (Rs.bind (Rs.bind (Rs.ok γ.2.2.2.2.1) (fun x => Rs.bind (Rs.ok (9 : Int)) (fun y => getI x y))) (fun x => Rs.ok x)) (fun x => Rs.bind (Rs.ok (12 : Int)) (fun y => if 0 < y then Rs.ok (x % y) else Rs.no))) (fun y => Rs.ok (x + y)))) (fun a => Rs.ok (γ.1, γ.2.1, γ.2.2.1, a, γ.2.2.2.2.1, γ.2.2.2.2.2.1, γ.2.2.2.2.2.2.1, ()))) (fun γ => Rs.ok (γ.1, γ.2.1, γ.2.2.1, γ.2.2.2.1, γ.2.2.2.2.1, γ.2.2.2.2.2.1, γ.2.2.2.2.2.2.1, ())) else Rs.ok (γ.1, γ.2.1, γ.2.2.1, γ.2.2.2.1, γ.2.2.2.2.1, γ.2.2.2.2.2.1, γ.2.2.2.2.2.2.1, ()))) (fun γ => Rs.bind (Rs.bind (Rs.bind (Rs.bind (Rs.bind (Rs.bind (Rs.ok γ.2.2.2.2.2.1) (fun a => Rs.bind (Rs.bind (Rs.bind (Rs.ok γ.2.2.2.2.2.2.1) (fun x => Rs.bind (Rs.ok (2 : Int)) (fun y => Rs.ok (x + y)))) (fun a => Rs.bind (Rs.ok ()) (fun g => Rs.ok (a, g)))) (fun g => Rs.ok (a, g)))) m_law_cell) (fun a => Rs.bind (Rs.bind (Rs.ok γ.2.2.2.1) (fun a => Rs.bind (Rs.ok ()) (fun g => Rs.ok (a, g)))) (fun g => Rs.ok (a, g)))) m_law_names) (fun a => Rs.ok (a, γ.1, γ.2.1, γ.2.2.1, γ.2.2.2.1, γ.2.2.2.2.1, γ.2.2.2.2.2.1, γ.2.2.2.2.2.2.1, ()))) (fun γ => Rs.bind (Rs.bind (Rs.bind (Rs.bind (Rs.ok γ.2.2.2.2.2.1) (fun x => Rs.bind (Rs.ok (10 : Int)) (fun y => getI x y))) (fun x => Rs.bind (Rs.ok (1 : Int)) (fun y => Rs.ok (decide (x = y))))) (fun b => if b = true then Rs.bind (Rs.bind (Rs.bind (Rs.bind (Rs.bind (Rs.bind (Rs.ok γ.2.2.2.2.2.2.1) (fun a => Rs.bind (Rs.bind (Rs.bind (Rs.ok γ.2.2.2.2.2.2.2.1) (fun x => Rs.bind (Rs.ok (1 : Int)) (fun y => Rs.ok (x + y)))) (fun a => Rs.bind (Rs.ok ()) (fun g => Rs.ok (a, g)))) (fun g => Rs.ok (a, g)))) m_law_cell) (fun a => Rs.bind (Rs.bind (Rs.ok γ.1) (fun a => Rs.bind (Rs.bind (Rs.ok γ.2.2.2.2.1) (fun a => Rs.bind (Rs.bind (Rs.ok γ.2.2.2.1) (fun a => Rs.bind (Rs.bind (Rs.ok γ.2.2.1) (fun a => Rs.bind (Rs.ok ()) (fun g => Rs.ok (a, g)))) (fun g => Rs.ok (a, g)))) (fun g => Rs.ok (a, g)))) (fun g => Rs.ok (a, g)))) (fun g => Rs.ok (a, g)))) m_law_unlike_rows) (fun a => Rs.ok (a, γ.2.1, γ.2.2.1, γ.2.2.2.2.2.1, ()))) (fun γ => Rs.ok (γ.1, γ.2.1, γ.2.2.1, γ.2.2.2.1, ())) else Rs.bind (Rs.bind (Rs.bind (Rs.ok γ.1) (fun x => Rs.bind (Rs.ok none) (fun l => Rs.bind (Rs.bind (Rs.bind (Rs.ok (1 : Int)) (fun x => Rs.bind (Rs.bind (Rs.bind (Rs.bind (Rs.ok γ.2.2.2.2.2.1) (fun x => Rs.bind (Rs.ok (11 : Int)) (fun y => getI x y))) (fun x => Rs.ok x)) (fun x => Rs.bind (Rs.ok γ.2.2.2.2.1) (fun y => if 0 < y then Rs.ok (x % y) else Rs.no))) (fun y => Rs.ok (x + y)))) (fun i => Rs.ok (some i))) (fun h => Rs.ok (cutI x l h))))) (fun a => Rs.ok (a, γ.2.1, γ.2.2.1, γ.2.2.2.1, γ.2.2.2.2.1, γ.2.2.2.2.2.1, γ.2.2.2.2.2.2.1, γ.2.2.2.2.2.2.2.1, ()))) (fun γ => Rs.bind (Rs.bind (Rs.bind (Rs.bind (Rs.bind (Rs.bind (Rs.ok γ.2.2.2.2.2.2.1) (fun a => Rs.bind (Rs.bind (Rs.bind (Rs.ok γ.2.2.2.2.2.2.2.1) (fun x => Rs.bind (Rs.ok (1 : Int)) (fun y => Rs.ok (x + y)))) (fun a => Rs.bind (Rs.ok ()) (fun g => Rs.ok (a, g)))) (fun g => Rs.ok (a, g)))) m_law_cell) (fun a => Rs.bind (Rs.bind (Rs.ok γ.1) (fun a => Rs.bind (Rs.bind (Rs.ok γ.2.2.2.2.1) (fun a => Rs.bind (Rs.bind (Rs.ok γ.2.2.2.1) (fun a => Rs.bind (Rs.bind (Rs.ok γ.2.2.1) (fun a => Rs.bind (Rs.ok ()) (fun g => Rs.ok (a, g)))) (fun g => Rs.ok (a, g)))) (fun g => Rs.ok (a, g)))) (fun g => Rs.ok (a, g)))) (fun g => Rs.ok (a, g)))) m_law_rows) (fun a => Rs.ok (a, γ.2.1, γ.2.2.1, γ.2.2.2.2.2.1, ()))) (fun γ => Rs.ok (γ.1, γ.2.1, γ.2.2.1, γ.2.2.2.1, ()))))) (fun γ => m_law_wide_rows_b1 (γ.1, γ.2.1, γ.2.2.1, γ.2.2.2.1, ())))))))))))))
noncomputable def m_valid_record_l1 : Ctx.T [.fz 1 Str, .fz 0 Str] → Rs (Ctx.T [.fz 0 Str] ⊕ Bool) := fun γ => Rs.bind (Rs.bind (Rs.ok γ.1) (fun x => Rs.bind (Rs.ok ("abcdefghijklmnopqrstuvwxyz0123456789" : Str)) (fun y => notInS x y))) (fun b => if b = true then Rs.bind (Rs.ok false) (fun z => Rs.ok (.inr z)) else Rs.ok (.inl (γ.2.1, ())))
noncomputable def m_valid_record_b2 : Ctx.T [.fz 0 Str] → Rs Bool := fun γ => Rs.ok true
noncomputable def m_valid_record : Ctx.T [.fz 0 Str] → Rs Bool := fun γ => Rs.bind (Rs.bind (Rs.bind (Rs.bind (Rs.ok γ.1) (fun x => Rs.ok (x.length : Int))) (fun x => Rs.bind (Rs.ok (1 : Int)) (fun y => Rs.ok (decide (x < y))))) (fun b => if b = true then Rs.ok true else Rs.bind (Rs.bind (Rs.ok γ.1) (fun x => Rs.ok (x.length : Int))) (fun x => Rs.bind (Rs.ok (8 : Int)) (fun y => Rs.ok (decide (y < x)))))) (fun b => if b = true then Rs.ok false else Rs.left (Rs.bind (Rs.bind (Rs.ok γ.1) (fun x => Rs.ok (chars x))) (fun xs => Rs.foldR (fun γ x => m_valid_record_l1 (x, γ)) γ xs)) m_valid_record_b2)
noncomputable def m_Sheaf_init_l1 : Ctx.T [.fz 3 (Int × Str), .fz 2 Int, .ow 0 (Ini "Sheaf"), .bo 1 (List (Int × Str))] → Rs (Ctx.T [.ow 0 (Ini "Sheaf"), .bo 1 (List (Int × Str))]) := fun γ => Rs.bind (Rs.bind (Rs.bind (Rs.bind (Rs.bind (Rs.bind (Rs.ok γ.1) (fun x => Rs.ok x.2)) (fun a => Rs.bind (Rs.ok ()) (fun g => Rs.ok (a, g)))) m_valid_record) (fun b => Rs.ok (!b))) (fun b => if b = true then Rs.bind (Rs.rai "InvalidSheaf" "index" (Rs.ok γ.2.1) : Rs Unit) (fun _ => Rs.no) else Rs.ok (γ.2.2.1, γ.2.2.2.1, ()))) (fun γ => Rs.ok (γ.1, γ.2.1, ()))
noncomputable def m_Sheaf_init : Ctx.T [.ow 0 (Ini "Sheaf"), .bo 1 (List (Int × Str))] → Rs (Ctx.T [.ow 0 Sheaf]) := fun γ => Rs.bind (Rs.bind (Rs.bind (Rs.bind (Rs.ok γ.2.1) (fun x => Rs.ok (x.length : Int))) (fun x => Rs.bind (Rs.ok (0 : Int)) (fun y => Rs.ok (decide (x = y))))) (fun b => if b = true then Rs.bind (Rs.rai "InvalidSheaf" "index" (Rs.ok (0 : Int)) : Rs Unit) (fun _ => Rs.no) else Rs.ok (γ.1, γ.2.1, ()))) (fun γ => Rs.bind (Rs.bind (Rs.ok (enumI γ.2.1)) (fun xs => Rs.fold (fun γ x => m_Sheaf_init_l1 (x.2, x.1, γ)) γ xs)) (fun γ => Rs.bind (Rs.bind (Rs.bind (Rs.ok γ.2.1) (fun x => Rs.ok (Tup.mk x))) (fun z => Rs.ok (Sheaf.mk z, γ.2))) (fun γ => Rs.ok (γ.1, ()))))
noncomputable def mi_Sheaf_init : Ctx.T [.bo 1 (List (Int × Str))] → Rs Sheaf := fun γ => Rs.bind (m_Sheaf_init (⟨⟩, γ)) (fun g => Rs.ok g.1)
noncomputable def m_Sheaf_len : Ctx.T [.bo 0 Sheaf] → Rs Int := fun γ => Rs.bind (Rs.bind (Rs.ok γ.1) (fun b => Rs.ok b.rows)) (fun x => Rs.ok (x.items.length : Int))
noncomputable def m_Sheaf_rows : Ctx.T [.bo 0 Sheaf] → Rs (List (Int × Str)) := fun γ => Rs.bind (Rs.bind (Rs.ok γ.1) (fun b => Rs.ok b.rows)) (fun x => Rs.ok x.items)
noncomputable def m_law_same_rows_l1 : Ctx.T [.fz 2 Int, .bo 0 (List (Int × Str)), .bo 1 (List (Int × Str))] → Rs (Ctx.T [.bo 0 (List (Int × Str)), .bo 1 (List (Int × Str))] ⊕ Bool) := fun γ => Rs.bind (Rs.bind (Rs.bind (Rs.ok γ.2.1) (fun x => Rs.bind (Rs.ok γ.1) (fun y => getI x y))) (fun a => Rs.ok (a, γ.1, γ.2.1, γ.2.2.1, ()))) (fun γ => Rs.bind (Rs.bind (Rs.bind (Rs.bind (Rs.ok γ.1) (fun _ => Rs.ok true)) (fun b => Rs.ok (!b))) (fun b => if b = true then Rs.ok true else Rs.bind (Rs.bind (Rs.ok γ.1) (fun x => Rs.ok (2 : Int))) (fun x => Rs.bind (Rs.ok (2 : Int)) (fun y => Rs.ok (!decide (x = y)))))) (fun b => if b = true then Rs.bind (Rs.ok false) (fun z => Rs.ok (.inr z)) else Rs.bind (Rs.bind (Rs.bind (Rs.bind (Rs.bind (Rs.ok γ.1) (fun x => Rs.ok x.1)) (fun _ => Rs.ok true)) (fun b => Rs.ok (!b))) (fun b => if b = true then Rs.ok true else Rs.bind (Rs.bind (Rs.bind (Rs.ok γ.1) (fun x => Rs.ok x.1)) (fun _ => Rs.ok false)) (fun b => if b = true then Rs.ok true else Rs.bind (Rs.bind (Rs.bind (Rs.ok γ.1) (fun x => Rs.ok x.2)) (fun _ => Rs.ok true)) (fun b => Rs.ok (!b))))) (fun b => if b = true then Rs.bind (Rs.ok false) (fun z => Rs.ok (.inr z)) else Rs.bind (Rs.bind (Rs.bind (Rs.bind (Rs.ok γ.1) (fun x => Rs.ok x.1)) (fun x => Rs.bind (Rs.bind (Rs.bind (Rs.ok γ.2.2.2.1) (fun x => Rs.bind (Rs.ok γ.2.1) (fun y => getI x y))) (fun x => Rs.ok x.1)) (fun y => Rs.ok (!decide (x = y))))) (fun b => if b = true then Rs.ok true else Rs.bind (Rs.bind (Rs.ok γ.1) (fun x => Rs.ok x.2)) (fun x => Rs.bind (Rs.bind (Rs.bind (Rs.ok γ.2.2.2.1) (fun x => Rs.bind (Rs.ok γ.2.1) (fun y => getI x y))) (fun x => Rs.ok x.2)) (fun y => Rs.ok (!decide (x = y)))))) (fun b => if b = true then Rs.bind (Rs.ok false) (fun z => Rs.ok (.inr z)) else Rs.ok (.inl (γ.2.2.1, γ.2.2.2.1, ()))))))
noncomputable def m_law_same_rows_b2 : Ctx.T [.bo 0 (List (Int × Str)), .bo 1 (List (Int × Str))] → Rs Bool := fun γ => Rs.ok true
noncomputable def m_law_same_rows : Ctx.T [.bo 0 (List (Int × Str)), .bo 1 (List (Int × Str))] → Rs Bool := fun γ => Rs.bind (Rs.bind (Rs.bind (Rs.bind (Rs.ok γ.1) (fun _ => Rs.ok true)) (fun b => Rs.ok (!b))) (fun b => if b = true then Rs.ok true else Rs.bind (Rs.bind (Rs.ok γ.1) (fun x => Rs.ok (x.length : Int))) (fun x => Rs.bind (Rs.bind (Rs.ok γ.2.1) (fun x => Rs.ok (x.length : Int))) (fun y => Rs.ok (!decide (x = y)))))) (fun b => if b = true then Rs.ok false else Rs.left (Rs.bind (Rs.bind (Rs.bind (Rs.ok γ.2.1) (fun x => Rs.ok (x.length : Int))) (fun n => Rng 0 n)) (fun xs => Rs.foldR (fun γ x => m_law_same_rows_l1 (x, γ)) γ xs)) m_law_same_rows_b2)
noncomputable def m_Sheaf_iter : Ctx.T [.bo 0 Sheaf] → Rs (Tup (Int × Str)) := fun γ => Rs.bind (Rs.bind (Rs.ok γ.1) (fun b => Rs.ok b.rows)) (fun x => Rs.ok x)
noncomputable def m_law_holds : Ctx.T [.bo 0 Sheaf, .bo 1 (List (Int × Str))] → Rs Bool := fun γ => Rs.bind (Rs.bind (Rs.bind (Rs.ok γ.1) (fun x => Rs.bind (Rs.nox (m_Sheaf_len (x, ()))) (fun i => if 0 ≤ i ∧ i < 4611686018427387904 then Rs.ok i else Rs.no))) (fun x => Rs.bind (Rs.bind (Rs.ok γ.2.1) (fun x => Rs.ok (x.length : Int))) (fun y => Rs.ok (decide (x = y))))) (fun b => if b = true then Rs.bind (Rs.bind (Rs.bind (Rs.bind (Rs.ok γ.1) (fun s => m_Sheaf_rows (s, ()))) (fun a => Rs.bind (Rs.bind (Rs.ok γ.2.1) (fun a => Rs.bind (Rs.ok ()) (fun g => Rs.ok (a, g)))) (fun g => Rs.ok (a, g)))) m_law_same_rows) (fun b => if b = true then Rs.bind (Rs.bind (Rs.bind (Rs.ok γ.1) (fun x => Rs.bind (Rs.nox (m_Sheaf_iter (x, ()))) (fun t => Rs.bind (Rs.nox (m_Sheaf_len (x, ()))) (fun i => if i = (t.items.length : Int) then Rs.ok t.items else Rs.no)))) (fun a => Rs.bind (Rs.bind (Rs.ok γ.2.1) (fun a => Rs.bind (Rs.ok ()) (fun g => Rs.ok (a, g)))) (fun g => Rs.ok (a, g)))) m_law_same_rows else Rs.ok false) else Rs.ok false)
noncomputable def m_law_variant : Ctx.T [.bo 0 (List (Int × Str)), .fz 1 Int, .fz 2 Int] → Rs (List (Int × Str)) := fun γ => Rs.bind (Rs.bind (Rs.ok ("abcdefghijklmnopqrstuvwxyz0123456789" : Str)) (fun a => Rs.ok (a, γ.1, γ.2.1, γ.2.2.1, ()))) (fun γ => Rs.bind (Rs.bind (Rs.bind (Rs.bind (Rs.ok γ.2.2.1) (fun a => Rs.bind (Rs.bind (Rs.bind (Rs.bind (Rs.ok (40 : Int)) (fun a => Rs.bind (Rs.bind (Rs.ok (40 : Int)) (fun a => Rs.bind (Rs.bind (Rs.ok (2 : Int)) (fun a => Rs.bind (Rs.bind (Rs.ok (8 : Int)) (fun a => Rs.bind (Rs.bind (Rs.ok (35 : Int)) (fun a => Rs.bind (Rs.ok ([] : List Int)) (fun g => Rs.ok (a :: g)))) (fun g => Rs.ok (a :: g)))) (fun g => Rs.ok (a :: g)))) (fun g => Rs.ok (a :: g)))) (fun g => Rs.ok (a :: g)))) Rs.ok) (fun a => Rs.bind (Rs.ok ()) (fun g => Rs.ok (a, g)))) (fun g => Rs.ok (a, g)))) m_law_draws) (fun a => Rs.ok (a, γ.1, γ.2.1, γ.2.2.2.1, ()))) (fun γ => Rs.bind (Rs.bind (Rs.bind (Rs.bind (Rs.bind (Rs.ok γ.1) (fun x => Rs.bind (Rs.ok (0 : Int)) (fun y => getI x y))) (fun x => Rs.ok x)) (fun x => Rs.bind (Rs.bind (Rs.ok γ.2.2.1) (fun x => Rs.ok (x.length : Int))) (fun y => if 0 < y then Rs.ok (x % y) else Rs.no))) (fun a => Rs.ok (a, γ.1, γ.2.1, γ.2.2.1, γ.2.2.2.1, ()))) (fun γ => Rs.bind (Rs.bind (Rs.bind (Rs.bind (Rs.bind (Rs.ok γ.2.1) (fun x => Rs.bind (Rs.ok (1 : Int)) (fun y => getI x y))) (fun x => Rs.ok x)) (fun x => Rs.bind (Rs.bind (Rs.ok γ.2.2.2.1) (fun x => Rs.ok (x.length : Int))) (fun y => if 0 < y then Rs.ok (x % y) else Rs.no))) (fun a => Rs.ok (a, γ.1, γ.2.1, γ.2.2.1, γ.2.2.2.1, γ.2.2.2.2.1, ()))) (fun γ => Rs.bind (Rs.bind (Rs.bind (Rs.bind (Rs.ok γ.2.2.2.2.1) (fun x => Rs.bind (Rs.ok γ.2.1) (fun y => getI x y))) (fun x => Rs.ok x.2)) (fun a => Rs.ok (a, γ.1, γ.2.1, γ.2.2.1, γ.2.2.2.1, γ.2.2.2.2.1, γ.2.2.2.2.2.1, ()))) (fun γ => Rs.bind (Rs.bind (Rs.bind (Rs.ok γ.2.2.2.2.2.1) (fun x => Rs.ok x)) (fun a => Rs.ok (a, γ.1, γ.2.1, γ.2.2.1, γ.2.2.2.1, γ.2.2.2.2.1, γ.2.2.2.2.2.1, γ.2.2.2.2.2.2.1, ()))) (fun γ => Rs.bind (Rs.bind (Rs.bind (Rs.ok γ.2.2.2.2.2.2.2.1) (fun x => Rs.bind (Rs.ok (1 : Int)) (fun y => Rs.ok (decide (x = y))))) (fun b => if b = true then Rs.bind (Rs.bind (Rs.bind (Rs.bind (Rs.bind (Rs.bind (Rs.bind (Rs.ok γ.2.2.2.2.2.2.1) (fun x => Rs.bind (Rs.ok γ.2.2.2.1) (fun y => getI x y))) (fun x => Rs.ok x.1)) (fun x => Rs.bind (Rs.ok (1 : Int)) (fun y => Rs.ok (x + y)))) (fun x => Rs.bind (Rs.bind (Rs.ok (2 : Int)) (fun x => Rs.bind (Rs.bind (Rs.ok γ.2.2.2.2.1) (fun x => Rs.bind (Rs.ok (2 : Int)) (fun y => getI x y))) (fun y => if CMul x y then Rs.ok (x * y) else Rs.no))) (fun y => Rs.ok (x - y)))) (fun x => Rs.bind (Rs.ok γ.2.1) (fun y => Rs.ok (x, y)))) (fun a => Rs.bind (Rs.ok γ.2.2.2.1) (fun k => Rs.bind (setI γ.1 k a) (fun ys => Rs.ok (ys, γ.2.1, γ.2.2.1, γ.2.2.2.1, γ.2.2.2.2.1, γ.2.2.2.2.2.1, γ.2.2.2.2.2.2.1, γ.2.2.2.2.2.2.2.1, ()))))) (fun γ => Rs.ok (γ.1, γ.2.1, γ.2.2.1, γ.2.2.2.1, γ.2.2.2.2.1, γ.2.2.2.2.2.1, γ.2.2.2.2.2.2.1, γ.2.2.2.2.2.2.2.1, ())) else Rs.ok (γ.1, γ.2.1, γ.2.2.1, γ.2.2.2.1, γ.2.2.2.2.1, γ.2.2.2.2.2.1, γ.2.2.2.2.2.2.1, γ.2.2.2.2.2.2.2.1, ()))) (fun γ => Rs.bind (Rs.bind (Rs.bind (Rs.ok γ.2.2.2.2.2.2.2.1) (fun x => Rs.bind (Rs.ok (2 : Int)) (fun y => Rs.ok (decide (x = y))))) (fun b => if b = true then Rs.bind (Rs.bind (Rs.bind (Rs.bind (Rs.bind (Rs.ok γ.2.2.2.2.1) (fun x => Rs.bind (Rs.ok (3 : Int)) (fun y => getI x y))) (fun x => Rs.ok x)) (fun x => Rs.bind (Rs.bind (Rs.ok γ.2.1) (fun x => Rs.ok (x.length : Int))) (fun y => if 0 < y then Rs.ok (x % y) else Rs.no))) (fun a => Rs.ok (a, γ.1, γ.2.1, γ.2.2.1, γ.2.2.2.1, γ.2.2.2.2.1, γ.2.2.2.2.2.1, γ.2.2.2.2.2.2.1, γ.2.2.2.2.2.2.2.1, ()))) (fun γ => Rs.bind (Rs.bind (Rs.bind (Rs.bind (Rs.bind (Rs.bind (Rs.bind (Rs.ok γ.2.2.2.2.2.2.1) (fun x => Rs.bind (Rs.bind (Rs.ok γ.2.2.1) (fun x => Rs.bind (Rs.ok γ.1) (fun y => getI (chars x) y))) (fun y => Rs.ok (Txt.find x y)))) (fun x => Rs.bind (Rs.ok (1 : Int)) (fun y => Rs.ok (x + y)))) (fun x => Rs.bind (Rs.bind (Rs.ok γ.2.2.2.2.2.1) (fun x => Rs.bind (Rs.ok (4 : Int)) (fun y => getI x y))) (fun y => Rs.ok (x + y)))) (fun x => Rs.ok x)) (fun x => Rs.bind (Rs.ok (36 : Int)) (fun y => if 0 < y then Rs.ok (x % y) else Rs.no))) (fun a => Rs.ok (a, γ.1, γ.2.1, γ.2.2.1, γ.2.2.2.1, γ.2.2.2.2.1, γ.2.2.2.2.2.2.1, γ.2.2.2.2.2.2.2.1, γ.2.2.2.2.2.2.2.2.1, ()))) (fun γ => Rs.bind (Rs.bind (Rs.bind (Rs.bind (Rs.bind (Rs.ok γ.2.2.2.2.2.2.2.1) (fun x => Rs.bind (Rs.ok γ.2.2.2.2.2.1) (fun y => getI x y))) (fun x => Rs.ok x.1)) (fun x => Rs.bind (Rs.bind (Rs.bind (Rs.bind (Rs.ok γ.2.2.2.1) (fun x => Rs.bind (Rs.ok none) (fun l => Rs.bind (Rs.bind (Rs.ok γ.2.1) (fun i => Rs.ok (some i))) (fun h => Rs.ok (cutS x l h))))) (fun x => Rs.bind (Rs.bind (Rs.ok γ.2.2.2.2.2.2.1) (fun x => Rs.bind (Rs.ok γ.1) (fun y => getI (chars x) y))) (fun y => catS x y))) (fun x => Rs.bind (Rs.bind (Rs.ok γ.2.2.2.1) (fun x => Rs.bind (Rs.bind (Rs.bind (Rs.ok γ.2.1) (fun x => Rs.bind (Rs.ok (1 : Int)) (fun y => Rs.ok (x + y)))) (fun i => Rs.ok (some i))) (fun l => Rs.bind (Rs.ok none) (fun h => Rs.ok (cutS x l h))))) (fun y => catS x y))) (fun y => Rs.ok (x, y)))) (fun a => Rs.bind (Rs.ok γ.2.2.2.2.2.1) (fun k => Rs.bind (setI γ.2.2.1 k a) (fun ys => Rs.ok (γ.1, γ.2.1, ys, γ.2.2.2.1, γ.2.2.2.2.1, γ.2.2.2.2.2.1, γ.2.2.2.2.2.2.1, γ.2.2.2.2.2.2.2.1, γ.2.2.2.2.2.2.2.2.1, ()))))) (fun γ => Rs.ok (γ.2.2.1, γ.2.2.2.2.1, γ.2.2.2.2.2.1, γ.2.2.2.2.2.2.2.1, γ.2.2.2.2.2.2.2.2.1, ())))) else Rs.ok (γ.1, γ.2.2.1, γ.2.2.2.1, γ.2.2.2.2.2.2.1, γ.2.2.2.2.2.2.2.1, ()))) (fun γ => Rs.bind (Rs.bind (Rs.bind (Rs.ok γ.2.2.2.2.1) (fun x => Rs.bind (Rs.ok (3 : Int)) (fun y => Rs.ok (decide (x = y))))) (fun b => if b = true then Rs.bind (Rs.bind (Rs.bind (Rs.ok γ.2.2.2.1) (fun x => Rs.bind (Rs.ok γ.2.1) (fun y => getI x y))) (fun a => Rs.bind (Rs.ok γ.2.2.1) (fun k => Rs.bind (setI γ.1 k a) (fun ys => Rs.ok (ys, γ.2.1, γ.2.2.1, γ.2.2.2.1, γ.2.2.2.2.1, ()))))) (fun γ => Rs.bind (Rs.bind (Rs.bind (Rs.ok γ.2.2.2.1) (fun x => Rs.bind (Rs.ok γ.2.2.1) (fun y => getI x y))) (fun a => Rs.bind (Rs.ok γ.2.1) (fun k => Rs.bind (setI γ.1 k a) (fun ys => Rs.ok (ys, γ.2.1, γ.2.2.1, γ.2.2.2.1, γ.2.2.2.2.1, ()))))) (fun γ => Rs.ok (γ.1, γ.2.2.1, γ.2.2.2.1, γ.2.2.2.2.1, ()))) else Rs.ok (γ.1, γ.2.2.1, γ.2.2.2.1, γ.2.2.2.2.1, ()))) (fun γ => Rs.bind (Rs.bind (Rs.bind (Rs.bind (Rs.ok γ.2.2.2.1) (fun x => Rs.bind (Rs.ok (4 : Int)) (fun y => Rs.ok (decide (x = y))))) (fun b => if b = true then Rs.bind (Rs.bind (Rs.ok γ.2.2.1) (fun x => Rs.ok (x.length : Int))) (fun x => Rs.bind (Rs.ok (1 : Int)) (fun y => Rs.ok (decide (y < x)))) else Rs.ok false)) (fun b => if b = true then Rs.bind (Rs.bind (popI γ.1) (fun ys => Rs.ok (ys, γ.2.1, γ.2.2.1, γ.2.2.2.1, ()))) (fun γ => Rs.ok (γ.1, γ.2.1, γ.2.2.1, γ.2.2.2.1, ())) else Rs.ok (γ.1, γ.2.1, γ.2.2.1, γ.2.2.2.1, ()))) (fun γ => Rs.bind (Rs.bind (Rs.bind (Rs.bind (Rs.ok γ.2.2.2.1) (fun x => Rs.bind (Rs.ok (5 : Int)) (fun y => Rs.ok (decide (x = y))))) (fun b => if b = true then Rs.bind (Rs.bind (Rs.ok γ.2.2.1) (fun x => Rs.ok (x.length : Int))) (fun x => Rs.bind (Rs.ok (40 : Int)) (fun y => Rs.ok (decide (x < y)))) else Rs.ok false)) (fun b => if b = true then Rs.bind (Rs.bind (Rs.bind (Rs.ok γ.2.2.1) (fun x => Rs.bind (Rs.ok γ.2.1) (fun y => getI x y))) (fun a => Rs.bind (appI γ.1 a) (fun ys => Rs.ok (ys, γ.2.1, γ.2.2.1, γ.2.2.2.1, ())))) (fun γ => Rs.ok (γ.1, ())) else Rs.ok (γ.1, ()))) (fun γ => Rs.ok γ.1)))))))))))
noncomputable def m_Sheaf_eq : Ctx.T [.bo 0 Sheaf, .bo 1 Sheaf] → Rs Bool := fun γ => Rs.bind (Rs.bind (Rs.ok γ.2.1) (fun _ => Rs.ok true)) (fun b => if b = true then Rs.bind (Rs.bind (Rs.ok γ.1) (fun b => Rs.ok b.rows)) (fun x => Rs.bind (Rs.bind (Rs.ok γ.2.1) (fun b => Rs.ok b.rows)) (fun y => Rs.ok (decide (x = y)))) else Rs.ok false)
noncomputable def m_law_equals_l1 : Ctx.T [.fz 3 Int, .bo 0 Sheaf, .bo 1 (List (Int × Str)), .fz 2 Int] → Rs (Ctx.T [.bo 0 Sheaf, .bo 1 (List (Int × Str)), .fz 2 Int] ⊕ Bool) := fun γ => Rs.bind (Rs.bind (Rs.bind (Rs.bind (Rs.ok γ.2.2.1) (fun a => Rs.bind (Rs.bind (Rs.ok γ.2.2.2.1) (fun a => Rs.bind (Rs.bind (Rs.ok γ.1) (fun a => Rs.bind (Rs.ok ()) (fun g => Rs.ok (a, g)))) (fun g => Rs.ok (a, g)))) (fun g => Rs.ok (a, g)))) m_law_variant) (fun a => Rs.ok (a, γ.2.1, γ.2.2.1, γ.2.2.2.1, ()))) (fun γ => Rs.bind (Rs.bind (Rs.bind (Rs.bind (Rs.bind (Rs.ok γ.1) (fun x => Rs.ok x)) (fun a => Rs.bind (Rs.ok ()) (fun g => Rs.ok (a, g)))) mi_Sheaf_init) (fun a => Rs.ok (a, γ.1, γ.2.1, γ.2.2.1, γ.2.2.2.1, ()))) (fun γ => Rs.bind (Rs.bind (Rs.bind (Rs.bind (Rs.bind (Rs.ok γ.2.2.1) (fun x => Rs.bind (Rs.ok γ.1) (fun y => Rs.nox (m_Sheaf_eq (x, y, ()))))) (fun x => Rs.ok x)) (fun x => Rs.bind (Rs.bind (Rs.ok γ.2.1) (fun x => Rs.bind (Rs.ok γ.2.2.2.1) (fun y => Rs.ok (decide (x = y))))) (fun y => Rs.ok (!decide (x = y))))) (fun b => if b = true then Rs.ok true else Rs.bind (Rs.bind (Rs.bind (Rs.ok γ.1) (fun x => Rs.bind (Rs.ok γ.2.2.1) (fun y => Rs.nox (m_Sheaf_eq (x, y, ()))))) (fun x => Rs.ok x)) (fun x => Rs.bind (Rs.bind (Rs.ok γ.2.1) (fun x => Rs.bind (Rs.ok γ.2.2.2.1) (fun y => Rs.ok (decide (x = y))))) (fun y => Rs.ok (!decide (x = y)))))) (fun b => if b = true then Rs.bind (Rs.ok false) (fun z => Rs.ok (.inr z)) else Rs.ok (.inl (γ.2.2.1, γ.2.2.2.1, γ.2.2.2.2.1, ())))))
noncomputable def m_law_equals_b2 : Ctx.T [.bo 0 Sheaf, .bo 1 (List (Int × Str)), .fz 2 Int] → Rs Bool := fun γ => Rs.ok true
noncomputable def m_law_equals : Ctx.T [.bo 0 Sheaf, .bo 1 (List (Int × Str)), .fz 2 Int] → Rs Bool := fun γ => Rs.left (Rs.bind (Rs.bind (Rs.ok (6 : Int)) (fun n => Rng 0 n)) (fun xs => Rs.foldR (fun γ x => m_law_equals_l1 (x, γ)) γ xs)) m_law_equals_b2
noncomputable def m_Sheaf_add : Ctx.T [.bo 0 Sheaf, .bo 1 Sheaf] → Rs Sheaf := fun γ => Rs.bind (Rs.bind (Rs.bind (Rs.bind (Rs.ok γ.1) (fun s => m_Sheaf_rows (s, ()))) (fun x => Rs.bind (Rs.bind (Rs.ok γ.2.1) (fun s => m_Sheaf_rows (s, ()))) (fun y => catI x y))) (fun a => Rs.bind (Rs.ok ()) (fun g => Rs.ok (a, g)))) mi_Sheaf_init
noncomputable def m_law_sums : Ctx.T [.bo 0 (List (Int × Str)), .bo 1 (List (Int × Str)), .bo 2 (List (Int × Str))] → Rs Bool := fun γ => Rs.bind (Rs.bind (Rs.bind (Rs.bind (Rs.bind (Rs.ok γ.1) (fun x => Rs.ok x)) (fun a => Rs.bind (Rs.ok ()) (fun g => Rs.ok (a, g)))) mi_Sheaf_init) (fun a => Rs.ok (a, γ.1, γ.2.1, γ.2.2.1, ()))) (fun γ => Rs.bind (Rs.bind (Rs.bind (Rs.bind (Rs.bind (Rs.ok γ.2.2.1) (fun x => Rs.ok x)) (fun a => Rs.bind (Rs.ok ()) (fun g => Rs.ok (a, g)))) mi_Sheaf_init) (fun a => Rs.ok (a, γ.1, γ.2.1, γ.2.2.1, γ.2.2.2.1, ()))) (fun γ => Rs.bind (Rs.bind (Rs.bind (Rs.bind (Rs.bind (Rs.ok γ.2.2.2.2.1) (fun x => Rs.ok x)) (fun a => Rs.bind (Rs.ok ()) (fun g => Rs.ok (a, g)))) mi_Sheaf_init) (fun a => Rs.ok (a, γ.1, γ.2.1, γ.2.2.1, γ.2.2.2.1, γ.2.2.2.2.1, ()))) (fun γ => Rs.bind (Rs.bind (Rs.bind (Rs.ok γ.2.2.1) (fun x => Rs.bind (Rs.ok γ.2.1) (fun y => Rs.nox (m_Sheaf_add (x, y, ()))))) (fun a => Rs.ok (a, γ.1, γ.2.1, γ.2.2.1, γ.2.2.2.1, γ.2.2.2.2.1, γ.2.2.2.2.2.1, ()))) (fun γ => Rs.bind (Rs.bind (Rs.bind (Rs.bind (Rs.ok γ.1) (fun _ => Rs.ok true)) (fun b => Rs.ok (!b))) (fun b => if b = true then Rs.ok true else Rs.bind (Rs.bind (Rs.bind (Rs.ok γ.1) (fun a => Rs.bind (Rs.bind (Rs.bind (Rs.ok γ.2.2.2.2.1) (fun x => Rs.bind (Rs.ok γ.2.2.2.2.2.1) (fun y => catI x y))) (fun a => Rs.bind (Rs.ok ()) (fun g => Rs.ok (a, g)))) (fun g => Rs.ok (a, g)))) m_law_holds) (fun b => Rs.ok (!b)))) (fun b => if b = true then Rs.ok false else Rs.bind (Rs.bind (Rs.bind (Rs.ok γ.1) (fun s => m_Sheaf_rows (s, ()))) (fun a => Rs.ok (a, γ.1, γ.2.1, γ.2.2.1, γ.2.2.2.1, γ.2.2.2.2.1, γ.2.2.2.2.2.1, γ.2.2.2.2.2.2.1, ()))) (fun γ => Rs.bind (Rs.bind (Rs.bind (Rs.bind (Rs.bind (Rs.bind (Rs.ok γ.2.2.2.2.2.1) (fun x => Rs.bind (Rs.ok (0 : Int)) (fun y => getI x y))) (fun x => Rs.ok x.1)) (fun x => Rs.bind (Rs.ok (1 : Int)) (fun y => Rs.ok (x + y)))) (fun x => Rs.bind (Rs.bind (Rs.bind (Rs.ok γ.2.2.2.2.2.1) (fun x => Rs.bind (Rs.ok (0 : Int)) (fun y => getI x y))) (fun x => Rs.ok x.2)) (fun y => Rs.ok (x, y)))) (fun a => Rs.bind (Rs.ok (0 : Int)) (fun k => Rs.bind (setI γ.1 k a) (fun ys => Rs.ok (ys, γ.2.1, γ.2.2.1, γ.2.2.2.1, γ.2.2.2.2.1, γ.2.2.2.2.2.1, γ.2.2.2.2.2.2.1, γ.2.2.2.2.2.2.2.1, ()))))) (fun γ => Rs.bind (Rs.bind (Rs.bind (Rs.bind (Rs.bind (Rs.ok γ.2.2.2.2.2.1) (fun x => Rs.bind (Rs.ok (0 : Int)) (fun y => getI x y))) (fun x => Rs.ok x.1)) (fun x => Rs.bind (Rs.ok ("spoilt" : Str)) (fun y => Rs.ok (x, y)))) (fun a => Rs.bind (appI γ.1 a) (fun ys => Rs.ok (ys, γ.2.1, γ.2.2.1, γ.2.2.2.1, γ.2.2.2.2.1, γ.2.2.2.2.2.1, γ.2.2.2.2.2.2.1, γ.2.2.2.2.2.2.2.1, ())))) (fun γ => Rs.bind (Rs.bind (Rs.bind (Rs.bind (Rs.bind (Rs.bind (Rs.ok γ.2.2.2.1) (fun x => Rs.bind (Rs.ok γ.2.2.2.2.1) (fun y => Rs.nox (m_Sheaf_add (x, y, ()))))) (fun a => Rs.bind (Rs.bind (Rs.bind (Rs.ok γ.2.2.2.2.2.2.1) (fun x => Rs.bind (Rs.ok γ.2.2.2.2.2.1) (fun y => catI x y))) (fun a => Rs.bind (Rs.ok ()) (fun g => Rs.ok (a, g)))) (fun g => Rs.ok (a, g)))) m_law_holds) (fun b => Rs.ok (!b))) (fun b => if b = true then Rs.ok true else Rs.bind (Rs.bind (Rs.bind (Rs.bind (Rs.ok γ.2.2.2.2.1) (fun x => Rs.bind (Rs.ok γ.2.2.2.2.1) (fun y => Rs.nox (m_Sheaf_add (x, y, ()))))) (fun a => Rs.bind (Rs.bind (Rs.bind (Rs.ok γ.2.2.2.2.2.1) (fun x => Rs.bind (Rs.ok γ.2.2.2.2.2.1) (fun y => catI x y))) (fun a => Rs.bind (Rs.ok ()) (fun g => Rs.ok (a, g)))) (fun g => Rs.ok (a, g)))) m_law_holds) (fun b => Rs.ok (!b)))) (fun b => if b = true then Rs.ok false else Rs.bind (Rs.bind (Rs.bind (Rs.ok γ.2.1) (fun x => Rs.bind (Rs.ok γ.2.2.1) (fun y => Rs.nox (m_Sheaf_add (x, y, ()))))) (fun a => Rs.ok (a, γ.2.1, γ.2.2.1, γ.2.2.2.1, γ.2.2.2.2.1, γ.2.2.2.2.2.1, γ.2.2.2.2.2.2.1, γ.2.2.2.2.2.2.2.1, ()))) (fun γ => Rs.bind (Rs.bind (Rs.bind (Rs.bind (Rs.bind (Rs.ok γ.1) (fun a => Rs.bind (Rs.bind (Rs.bind (Rs.bind (Rs.ok γ.2.2.2.2.2.1) (fun x => Rs.bind (Rs.ok γ.2.2.2.2.2.2.1) (fun y => catI x y))) (fun x => Rs.bind (Rs.ok γ.2.2.2.2.2.2.2.1) (fun y => catI x y))) (fun a => Rs.bind (Rs.ok ()) (fun g => Rs.ok (a, g)))) (fun g => Rs.ok (a, g)))) m_law_holds) (fun b => Rs.ok (!b))) (fun b => if b = true then Rs.ok true else Rs.bind (Rs.bind (Rs.bind (Rs.bind (Rs.ok γ.2.2.2.2.1) (fun x => Rs.bind (Rs.bind (Rs.ok γ.2.2.2.1) (fun x => Rs.bind (Rs.ok γ.2.2.1) (fun y => Rs.nox (m_Sheaf_add (x, y, ()))))) (fun y => Rs.nox (m_Sheaf_add (x, y, ()))))) (fun a => Rs.bind (Rs.bind (Rs.bind (Rs.bind (Rs.ok γ.2.2.2.2.2.1) (fun x => Rs.bind (Rs.ok γ.2.2.2.2.2.2.1) (fun y => catI x y))) (fun x => Rs.bind (Rs.ok γ.2.2.2.2.2.2.2.1) (fun y => catI x y))) (fun a => Rs.bind (Rs.ok ()) (fun g => Rs.ok (a, g)))) (fun g => Rs.ok (a, g)))) m_law_holds) (fun b => Rs.ok (!b)))) (fun b => if b = true then Rs.ok false else Rs.bind (Rs.bind (Rs.bind (Rs.ok γ.1) (fun x => Rs.bind (Rs.bind (Rs.ok γ.2.2.2.2.1) (fun x => Rs.bind (Rs.bind (Rs.ok γ.2.2.2.1) (fun x => Rs.bind (Rs.ok γ.2.2.1) (fun y => Rs.nox (m_Sheaf_add (x, y, ()))))) (fun y => Rs.nox (m_Sheaf_add (x, y, ()))))) (fun y => Rs.nox (m_Sheaf_eq (x, y, ()))))) (fun b => Rs.ok (!b))) (fun b => if b = true then Rs.ok false else Rs.bind (Rs.bind (Rs.bind (Rs.bind (Rs.bind (Rs.ok γ.2.2.2.2.1) (fun a => Rs.bind (Rs.bind (Rs.ok γ.2.2.2.2.2.1) (fun a => Rs.bind (Rs.ok ()) (fun g => Rs.ok (a, g)))) (fun g => Rs.ok (a, g)))) m_law_holds) (fun b => Rs.ok (!b))) (fun b => if b = true then Rs.ok true else Rs.bind (Rs.bind (Rs.bind (Rs.bind (Rs.ok γ.2.2.2.1) (fun a => Rs.bind (Rs.bind (Rs.ok γ.2.2.2.2.2.2.1) (fun a => Rs.bind (Rs.ok ()) (fun g => Rs.ok (a, g)))) (fun g => Rs.ok (a, g)))) m_law_holds) (fun b => Rs.ok (!b))) (fun b => if b = true then Rs.ok true else Rs.bind (Rs.bind (Rs.bind (Rs.ok γ.2.2.1) (fun a => Rs.bind (Rs.bind (Rs.ok γ.2.2.2.2.2.2.2.1) (fun a => Rs.bind (Rs.ok ()) (fun g => Rs.ok (a, g)))) (fun g => Rs.ok (a, g)))) m_law_holds) (fun b => Rs.ok (!b))))) (fun b => if b = true then Rs.ok false else Rs.bind (Rs.bind (Rs.ok γ.2.1) (fun a => Rs.bind (Rs.bind (Rs.bind (Rs.ok γ.2.2.2.2.2.1) (fun x => Rs.bind (Rs.ok γ.2.2.2.2.2.2.1) (fun y => catI x y))) (fun a => Rs.bind (Rs.ok ()) (fun g => Rs.ok (a, g)))) (fun g => Rs.ok (a, g)))) m_law_holds)))))))))))))
noncomputable def m_law : Ctx.T [.fz 0 Script] → Rs Bool := fun γ => Rs.bind (Rs.bind (Rs.bind (Rs.bind (Rs.ok γ.1) (fun a => Rs.bind (Rs.bind (Rs.ok (0 : Int)) (fun a => Rs.bind (Rs.ok ()) (fun g => Rs.ok (a, g)))) (fun g => Rs.ok (a, g)))) m_law_wide_rows) (fun a => Rs.ok (a, γ.1, ()))) (fun γ => Rs.bind (Rs.bind (Rs.bind (Rs.ok γ.1) (fun x => Rs.ok x)) (fun a => Rs.ok (a, γ.1, γ.2.1, ()))) (fun γ => Rs.bind (Rs.bind (Rs.bind (Rs.bind (Rs.ok γ.1) (fun a => Rs.bind (Rs.ok ()) (fun g => Rs.ok (a, g)))) mi_Sheaf_init) (fun a => Rs.ok (a, γ.1, γ.2.1, γ.2.2.1, ()))) (fun γ => Rs.bind (Rs.bind (Rs.ok γ.2.1) (fun x => Rs.bind (Rs.ok γ.2.2.1) (fun y => Rs.ok (!decide (x = y))))) (fun b => if b = true then Rs.ok false else Rs.bind (Rs.bind (Rs.bind (Rs.bind (Rs.bind (Rs.bind (Rs.ok γ.2.2.1) (fun x => Rs.bind (Rs.ok (0 : Int)) (fun y => getI x y))) (fun x => Rs.ok x.1)) (fun x => Rs.bind (Rs.ok (1 : Int)) (fun y => Rs.ok (x + y)))) (fun x => Rs.bind (Rs.bind (Rs.bind (Rs.ok γ.2.2.1) (fun x => Rs.bind (Rs.ok (0 : Int)) (fun y => getI x y))) (fun x => Rs.ok x.2)) (fun y => Rs.ok (x, y)))) (fun a => Rs.bind (Rs.ok (0 : Int)) (fun k => Rs.bind (setI γ.2.1 k a) (fun ys => Rs.ok (γ.1, ys, γ.2.2.1, γ.2.2.2.1, ()))))) (fun γ => Rs.bind (Rs.bind (Rs.bind (Rs.bind (Rs.bind (Rs.ok γ.2.2.1) (fun x => Rs.bind (Rs.ok (0 : Int)) (fun y => getI x y))) (fun x => Rs.ok x.1)) (fun x => Rs.bind (Rs.ok ("spoilt" : Str)) (fun y => Rs.ok (x, y)))) (fun a => Rs.bind (appI γ.2.1 a) (fun ys => Rs.ok (γ.1, ys, γ.2.2.1, γ.2.2.2.1, ())))) (fun γ => Rs.bind (Rs.bind (Rs.bind (Rs.bind (Rs.ok γ.1) (fun a => Rs.bind (Rs.bind (Rs.ok γ.2.2.1) (fun a => Rs.bind (Rs.ok ()) (fun g => Rs.ok (a, g)))) (fun g => Rs.ok (a, g)))) m_law_holds) (fun b => Rs.ok (!b))) (fun b => if b = true then Rs.ok false else Rs.bind (Rs.bind (Rs.bind (Rs.ok γ.1) (fun s => m_Sheaf_rows (s, ()))) (fun a => Rs.ok (a, γ.1, γ.2.2.1, γ.2.2.2.1, ()))) (fun γ => Rs.bind (Rs.bind (Rs.bind (Rs.bind (Rs.bind (Rs.bind (Rs.ok γ.2.2.1) (fun x => Rs.bind (Rs.ok (0 : Int)) (fun y => getI x y))) (fun x => Rs.ok x.1)) (fun x => Rs.bind (Rs.ok (1 : Int)) (fun y => Rs.ok (x + y)))) (fun x => Rs.bind (Rs.bind (Rs.bind (Rs.ok γ.2.2.1) (fun x => Rs.bind (Rs.ok (0 : Int)) (fun y => getI x y))) (fun x => Rs.ok x.2)) (fun y => Rs.ok (x, y)))) (fun a => Rs.bind (Rs.ok (0 : Int)) (fun k => Rs.bind (setI γ.1 k a) (fun ys => Rs.ok (ys, γ.2.1, γ.2.2.1, γ.2.2.2.1, ()))))) (fun γ => Rs.bind (Rs.bind (Rs.bind (Rs.bind (Rs.bind (Rs.ok γ.2.2.1) (fun x => Rs.bind (Rs.ok (0 : Int)) (fun y => getI x y))) (fun x => Rs.ok x.1)) (fun x => Rs.bind (Rs.ok ("spoilt" : Str)) (fun y => Rs.ok (x, y)))) (fun a => Rs.bind (appI γ.1 a) (fun ys => Rs.ok (ys, γ.2.1, γ.2.2.1, γ.2.2.2.1, ())))) (fun γ => Rs.bind (Rs.bind (Rs.bind (Rs.bind (Rs.bind (Rs.ok γ.2.1) (fun a => Rs.bind (Rs.bind (Rs.ok γ.2.2.1) (fun a => Rs.bind (Rs.ok ()) (fun g => Rs.ok (a, g)))) (fun g => Rs.ok (a, g)))) m_law_holds) (fun b => Rs.ok (!b))) (fun b => if b = true then Rs.ok true else Rs.bind (Rs.bind (Rs.bind (Rs.ok γ.2.1) (fun a => Rs.bind (Rs.bind (Rs.ok γ.2.2.1) (fun a => Rs.bind (Rs.bind (Rs.bind (Rs.bind (Rs.ok γ.2.2.2.1) (fun a => Rs.bind (Rs.bind (Rs.ok (9 : Int)) (fun a => Rs.bind (Rs.ok ()) (fun g => Rs.ok (a, g)))) (fun g => Rs.ok (a, g)))) m_law_cell) (fun a => Rs.bind (Rs.ok ()) (fun g => Rs.ok (a, g)))) (fun g => Rs.ok (a, g)))) (fun g => Rs.ok (a, g)))) m_law_equals) (fun b => Rs.ok (!b)))) (fun b => if b = true then Rs.ok false else Rs.bind (Rs.bind (Rs.bind (Rs.ok γ.2.2.1) (fun x => Rs.bind (Rs.ok none) (fun l => Rs.bind (Rs.bind (Rs.ok (14 : Int)) (fun i => Rs.ok (some i))) (fun h => Rs.ok (cutI x l h))))) (fun a => Rs.bind (Rs.bind (Rs.bind (Rs.bind (Rs.bind (Rs.ok γ.2.2.2.1) (fun a => Rs.bind (Rs.bind (Rs.ok (3 : Int)) (fun a => Rs.bind (Rs.ok ()) (fun g => Rs.ok (a, g)))) (fun g => Rs.ok (a, g)))) m_law_wide_rows) (fun x => Rs.bind (Rs.ok none) (fun l => Rs.bind (Rs.bind (Rs.ok (13 : Int)) (fun i => Rs.ok (some i))) (fun h => Rs.ok (cutI x l h))))) (fun a => Rs.bind (Rs.bind (Rs.bind (Rs.bind (Rs.bind (Rs.ok γ.2.2.2.1) (fun a => Rs.bind (Rs.bind (Rs.ok (6 : Int)) (fun a => Rs.bind (Rs.ok ()) (fun g => Rs.ok (a, g)))) (fun g => Rs.ok (a, g)))) m_law_wide_rows) (fun x => Rs.bind (Rs.ok none) (fun l => Rs.bind (Rs.bind (Rs.ok (13 : Int)) (fun i => Rs.ok (some i))) (fun h => Rs.ok (cutI x l h))))) (fun a => Rs.bind (Rs.ok ()) (fun g => Rs.ok (a, g)))) (fun g => Rs.ok (a, g)))) (fun g => Rs.ok (a, g)))) m_law_sums)))))))))))
end Wk
set_option Elab.async false
set_option linter.all false
set_option maxRecDepth 100000
set_option maxHeartbeats 4000000
namespace Wk
open PySem PySem.Spec PyProof.Rows L2 Wm
/-! ### each def keeps its mirror -/
section
variable {P : Program} {w : World} {K : PySem.W.Frag} {mg : Str → Option Value} {base : Heap} [TabT]
theorem ok_law_cell (T : Txt K mg) : FnOk P w K mg base (L2N.CX P w) 2 T.a_law_cell T.d_law_cell ["script", "k"] (spF (wdOf T) (kF : Kd (wdOf T) Int) [.fz 0 Script, .fz 1 Int] m_law_cell) :=
  fn_ok T.F_law_cell sc_law_cell rfl (fun cdv A outer s H E hr =>
    b_ifT (q_cmp op_lt m_lt (e_var (Var.s (Var.z))) (e_b1 call_len_seq m_lenScript (by rfl) T.n_len bt_len (e_var (Var.z)))) (t_ret (e_t1 call_int1 m_int (by rfl) T.n_int bt_int (e_ix ix_list m_ixScript (e_var (Var.z)) (e_var (Var.s (Var.z)))))) (t_ret (e_int)))
theorem ok_law_draws (T : Txt K mg) : FnOk P w K mg base (L2N.CX P w) 2 T.a_law_draws T.d_law_draws ["cell", "sizes"] (spF (wdOf T) (kO : Kd (wdOf T) (List Int)) [.fz 0 Int, .bo 1 (List Int)] m_law_draws) :=
  fn_ok T.F_law_draws sc_law_draws rfl (fun cdv A outer s H E hr =>
    b_consT (c1 := [.ow 2 (List Int), .fz 0 Int, .bo 1 (List Int)]) (s_setO sc_law_draws.nd (e_lst (l_nil (α := Int))) (Sub.keep (Sub.keep (Sub.nil))) (by exact ⟨(show 2 < 7 by decide), trivial⟩) rfl) (b_consT (c1 := [.fz 3 Int, .ow 2 (List Int), .fz 0 Int, .bo 1 (List Int)]) (s_set sc_law_draws.nd (e_t1 call_int1 m_int (by rfl) T.n_int bt_int (e_var (Var.s (Var.z)))) (Sub.keep (Sub.keep (Sub.keep (Sub.nil)))) (by exact ⟨(show 3 < 7 by decide), trivial⟩) rfl) (b_consT (c1 := [.fz 4 Bool, .fz 3 Int, .ow 2 (List Int), .fz 0 Int, .bo 1 (List Int)]) (s_set sc_law_draws.nd (e_cmp op_ge m_ge (e_var (Var.z)) (e_op op_pow m_pow (e_int) (e_int))) (Sub.keep (Sub.keep (Sub.keep (Sub.keep (Sub.nil))))) (by exact ⟨(show 4 < 7 by decide), trivial⟩) rfl) (b_consT (c1 := [.fz 4 Bool, .fz 3 Int, .ow 2 (List Int), .fz 0 Int, .bo 1 (List Int)]) (s_for (mb := m_law_draws_l1) (passes_of rfl) rfl (by first | exact .inl rfl | exact .inr rfl) (i_rng1 (fr := .g) (by rfl) T.n_range (e_b1 call_len_seq m_lenL (by rfl) T.n_len bt_len (e_varB (Var.s (Var.s (Var.s (Var.s (Var.z)))))))) (pg_name (i := 5) sc_law_draws.nd rfl (by first | exact .inl rfl | exact .inr rfl)) (g_name (by exact ⟨(show 5 < 7 by decide), trivial⟩) rfl) (b_cons (c1 := [.fz 4 Bool, .fz 3 Int, .ow 2 (List Int), .fz 0 Int, .bo 1 (List Int)]) (s_if (PW.pt (q_and (q_val (e_var (Var.s (Var.z)))) (q_and1 (q_cmp op_gt m_gt (e_var (Var.s (Var.s (Var.z)))) (e_int))))) (b_cons (c1 := [.fz 5 Int, .fz 4 Bool, .fz 3 Int, .ow 2 (List Int), .fz 0 Int, .bo 1 (List Int)]) (s_append (Var.s (Var.s (Var.s (Var.z)))) (e_op op_mod m_mod (e_t1 call_int1 m_int (by rfl) T.n_int bt_int (e_var (Var.s (Var.s (Var.z))))) (e_ix ix_list m_ixL (e_varB (Var.s (Var.s (Var.s (Var.s (Var.s (Var.z))))))) (e_var (Var.z))))) (b_cons (c1 := [.fz 5 Int, .fz 4 Bool, .fz 3 Int, .ow 2 (List Int), .fz 0 Int, .bo 1 (List Int)]) (s_upd sc_law_draws.nd (e_op op_fdiv m_div (e_t1 call_int1 m_int (by rfl) T.n_int bt_int (e_var (Var.s (Var.s (Var.z))))) (e_ix ix_list m_ixL (e_varB (Var.s (Var.s (Var.s (Var.s (Var.s (Var.z))))))) (e_var (Var.z)))) (Var.s (Var.s (Var.z))) (by exact ⟨(show 3 < 7 by decide), trivial⟩)) (b_nil (Sub.skip (Sub.keep (Sub.keep (Sub.keep (Sub.keep (Sub.keep (Sub.nil)))))))))) (b_cons (c1 := [.fz 6 Int, .fz 5 Int, .fz 4 Bool, .fz 3 Int, .ow 2 (List Int), .fz 0 Int, .bo 1 (List Int)]) (s_set sc_law_draws.nd (e_op op_mod m_mod (e_t1 call_int1 m_int (by rfl) T.n_int bt_int (e_op op_add m_add (e_op op_add m_add (e_var (Var.s (Var.s (Var.s (Var.s (Var.z)))))) (e_op op_mul m_mul (e_int) (e_var (Var.z)))) (e_int))) (e_int)) (Sub.keep (Sub.keep (Sub.keep (Sub.keep (Sub.keep (Sub.keep (Sub.nil))))))) (by exact ⟨(show 6 < 7 by decide), trivial⟩) rfl) (b_cons (c1 := [.fz 6 Int, .fz 5 Int, .fz 4 Bool, .fz 3 Int, .ow 2 (List Int), .fz 0 Int, .bo 1 (List Int)]) (s_upd sc_law_draws.nd (e_op op_mod m_mod (e_t1 call_int1 m_int (by rfl) T.n_int bt_int (e_op op_mul m_mul (e_var (Var.z)) (e_op op_add m_add (e_var (Var.z)) (e_int)))) (e_int)) (Var.z) (by exact ⟨(show 6 < 7 by decide), trivial⟩)) (b_cons (c1 := [.fz 6 Int, .fz 5 Int, .fz 4 Bool, .fz 3 Int, .ow 2 (List Int), .fz 0 Int, .bo 1 (List Int)]) (s_upd sc_law_draws.nd (e_op op_mod m_mod (e_t1 call_int1 m_int (by rfl) T.n_int bt_int (e_op op_add m_add (e_op op_mul m_mul (e_var (Var.z)) (e_op op_add m_add (e_var (Var.z)) (e_int))) (e_op op_mul m_mul (e_int) (e_var (Var.s (Var.z)))))) (e_int)) (Var.z) (by exact ⟨(show 6 < 7 by decide), trivial⟩)) (b_cons (c1 := [.fz 6 Int, .fz 5 Int, .fz 4 Bool, .fz 3 Int, .ow 2 (List Int), .fz 0 Int, .bo 1 (List Int)]) (s_append (Var.s (Var.s (Var.s (Var.s (Var.z))))) (e_op op_mod m_mod (e_t1 call_int1 m_int (by rfl) T.n_int bt_int (e_op op_fdiv m_div (e_var (Var.z)) (e_int))) (e_ix ix_list m_ixL (e_varB (Var.s (Var.s (Var.s (Var.s (Var.s (Var.s (Var.z)))))))) (e_var (Var.s (Var.z)))))) (b_nil (Sub.skip (Sub.skip (Sub.keep (Sub.keep (Sub.keep (Sub.keep (Sub.keep (Sub.nil)))))))))))))) (b_nil (Sub.keep (Sub.keep (Sub.keep (Sub.keep (Sub.keep (Sub.nil))))))))) (t_retW (Var.s (Var.s (Var.z))))))))
theorem ok_law_names (T : Txt K mg) : FnOk P w K mg base (L2N.CX P w) 3 T.a_law_names T.d_law_names ["cell", "count"] (spF (wdOf T) (kO : Kd (wdOf T) (List Str)) [.fz 0 Int, .fz 1 Int] m_law_names) :=
  fn_ok T.F_law_names sc_law_names rfl (fun cdv A outer s H E hr =>
    b_consT (c1 := [.fz 2 Str, .fz 0 Int, .fz 1 Int]) (s_set sc_law_names.nd (e_str) (Sub.keep (Sub.keep (Sub.nil))) (by exact ⟨(show 2 < 11 by decide), trivial⟩) rfl) (b_consT (c1 := [.ow 3 (List Int), .fz 2 Str, .fz 1 Int]) (s_setO sc_law_names.nd (e_call (Γ := [.fz 0 Int, .bo 1 (List Int)]) (L2N.takes_of rfl rfl rfl rfl) (ok_law_draws T) (hr.mono (by decide)) T.g_law_draws T.F_law_draws.kp T.b_law_draws (a_cons (e_var (Var.s (Var.z))) (a_consB (e_ob (e_op op_cat m_cat (e_ob (e_lst (l_cons (e_int) (l_cons (e_int) (l_cons (e_int) (l_nil (α := Int))))))) (e_ob (e_op op_rep m_rep (e_ob (e_lst (l_cons (e_int) (l_cons (e_int) (l_cons (e_int) (l_cons (e_int) (l_nil (α := Int)))))))) (e_var (Var.s (Var.s (Var.z)))))))) (a_nil)))) (Sub.keep (Sub.skip (Sub.keep (Sub.nil)))) (by exact ⟨(show 3 < 11 by decide), trivial⟩) rfl) (b_consT (c1 := [.ow 4 (List Str), .ow 3 (List Int), .fz 2 Str, .fz 1 Int]) (s_setO sc_law_names.nd (e_lst (l_nil (α := Str))) (Sub.keep (Sub.keep (Sub.keep (Sub.nil)))) (by exact ⟨(show 4 < 11 by decide), trivial⟩) rfl) (b_consT (c1 := [.ow 4 (List Str), .ow 3 (List Int), .fz 2 Str, .fz 1 Int]) (s_for (mb := m_law_names_l1) (passes_of rfl) rfl (by first | exact .inl rfl | exact .inr rfl) (i_rng1 (fr := .g) (by rfl) T.n_range (e_var (Var.s (Var.s (Var.s (Var.z)))))) (pg_name (i := 5) sc_law_names.nd rfl (by first | exact .inl rfl | exact .inr rfl)) (g_name (by exact ⟨(show 5 < 11 by decide), trivial⟩) rfl) (b_cons (c1 := [.fz 6 Int, .fz 5 Int, .ow 4 (List Str), .ow 3 (List Int), .fz 2 Str, .fz 1 Int]) (s_set sc_law_names.nd (e_op op_mod m_mod (e_t1 call_int1 m_int (by rfl) T.n_int bt_int (e_op op_add m_add (e_ix ix_list m_ixL (e_varW (Var.s (Var.s (Var.z)))) (e_int)) (e_op op_mul m_mul (e_var (Var.z)) (e_op op_add m_add (e_int) (e_op op_fdiv m_div (e_ix ix_list m_ixL (e_varW (Var.s (Var.s (Var.z)))) (e_int)) (e_int)))))) (e_int)) (Sub.keep (Sub.keep (Sub.keep (Sub.keep (Sub.keep (Sub.nil)))))) (by exact ⟨(show 6 < 11 by decide), trivial⟩) rfl) (b_cons (c1 := [.ow 4 (List Str), .ow 3 (List Int), .fz 2 Str, .fz 1 Int]) (s_if (PW.pt (q_and (q_cmp op_eq m_eqI (e_ix ix_list m_ixL (e_varW (Var.s (Var.s (Var.s (Var.z))))) (e_int)) (e_int)) (q_and1 (q_cmp op_le m_le (e_op op_mul m_mul (e_var (Var.s (Var.s (Var.s (Var.s (Var.s (Var.z))))))) (e_op op_add m_add (e_int) (e_op op_fdiv m_div (e_ix ix_list m_ixL (e_varW (Var.s (Var.s (Var.s (Var.z))))) (e_int)) (e_int)))) (e_int))))) (b_cons (c1 := [.fz 6 Int, .fz 5 Int, .ow 4 (List Str), .ow 3 (List Int), .fz 2 Str, .fz 1 Int]) (s_append (Var.s (Var.s (Var.z))) (e_ix ix_str m_ixS (e_var (Var.s (Var.s (Var.s (Var.s (Var.z)))))) (e_var (Var.z)))) (b_nil (Sub.skip (Sub.skip (Sub.keep (Sub.keep (Sub.keep (Sub.keep (Sub.nil))))))))) (b_cons (c1 := [.fz 7 Int, .fz 5 Int, .ow 4 (List Str), .ow 3 (List Int), .fz 2 Str, .fz 1 Int]) (s_set sc_law_names.nd (e_op op_mod m_mod (e_t1 call_int1 m_int (by rfl) T.n_int bt_int (e_op op_add m_add (e_op op_add m_add (e_op op_mul m_mul (e_int) (e_ix ix_list m_ixL (e_varW (Var.s (Var.s (Var.s (Var.z))))) (e_int))) (e_ix ix_list m_ixL (e_varW (Var.s (Var.s (Var.s (Var.z))))) (e_int))) (e_op op_mul m_mul (e_int) (e_var (Var.s (Var.z)))))) (e_int)) (Sub.skip (Sub.keep (Sub.keep (Sub.keep (Sub.keep (Sub.keep (Sub.nil))))))) (by exact ⟨(show 7 < 11 by decide), trivial⟩) rfl) (b_cons (c1 := [.fz 8 Int, .fz 7 Int, .ow 4 (List Str), .ow 3 (List Int), .fz 2 Str, .fz 1 Int]) (s_set sc_law_names.nd (e_op op_mul m_mul (e_op op_mul m_mul (e_int) (e_var (Var.s (Var.z)))) (e_t1 call_int1 m_intB (by rfl) T.n_int bt_int (e_cmp op_gt m_gt (e_op op_mod m_mod (e_t1 call_int1 m_int (by rfl) T.n_int bt_int (e_ix ix_list m_ixL (e_varW (Var.s (Var.s (Var.s (Var.z))))) (e_int))) (e_int)) (e_int)))) (Sub.keep (Sub.skip (Sub.keep (Sub.keep (Sub.keep (Sub.keep (Sub.nil))))))) (by exact ⟨(show 8 < 11 by decide), trivial⟩) rfl) (b_cons (c1 := [.fz 9 Str, .fz 8 Int, .fz 7 Int, .ow 4 (List Str), .ow 3 (List Int), .fz 2 Str, .fz 1 Int]) (s_set sc_law_names.nd (e_op op_add_str m_catS (e_op op_add_str m_catS (e_ix ix_str m_ixS (e_var (Var.s (Var.s (Var.s (Var.s (Var.z)))))) (e_ix ix_list m_ixL (e_varW (Var.s (Var.s (Var.s (Var.z))))) (e_op op_add m_add (e_int) (e_var (Var.z))))) (e_ix ix_str m_ixS (e_var (Var.s (Var.s (Var.s (Var.s (Var.z)))))) (e_ix ix_list m_ixL (e_varW (Var.s (Var.s (Var.s (Var.z))))) (e_op op_add m_add (e_int) (e_var (Var.z)))))) (e_ix ix_str m_ixS (e_var (Var.s (Var.s (Var.s (Var.s (Var.z)))))) (e_ix ix_list m_ixL (e_varW (Var.s (Var.s (Var.s (Var.z))))) (e_op op_add m_add (e_int) (e_var (Var.z)))))) (Sub.keep (Sub.keep (Sub.keep (Sub.keep (Sub.keep (Sub.keep (Sub.nil))))))) (by exact ⟨(show 9 < 11 by decide), trivial⟩) rfl) (b_cons (c1 := [.fz 9 Str, .fz 8 Int, .fz 7 Int, .ow 4 (List Str), .ow 3 (List Int), .fz 2 Str, .fz 1 Int]) (s_upd sc_law_names.nd (e_slS (e_op op_add_str m_catS (e_var (Var.z)) (e_var (Var.z))) (p_none) (p_some (e_ix ix_list m_ixL (e_varW (Var.s (Var.s (Var.s (Var.s (Var.z)))))) (e_op op_add m_add (e_int) (e_var (Var.s (Var.z))))))) (Var.z) (by exact ⟨(show 9 < 11 by decide), trivial⟩)) (b_cons (c1 := [.fz 10 Str, .fz 9 Str, .ow 4 (List Str), .ow 3 (List Int), .fz 2 Str, .fz 1 Int]) (s_set sc_law_names.nd (e_op op_add_str m_catS (e_ix ix_str m_ixS (e_var (Var.s (Var.s (Var.s (Var.s (Var.s (Var.z))))))) (e_op op_fdiv m_div (e_var (Var.s (Var.s (Var.z)))) (e_int))) (e_ix ix_str m_ixS (e_var (Var.s (Var.s (Var.s (Var.s (Var.s (Var.z))))))) (e_op op_mod m_mod (e_t1 call_int1 m_int (by rfl) T.n_int bt_int (e_var (Var.s (Var.s (Var.z))))) (e_int)))) (Sub.keep (Sub.skip (Sub.skip (Sub.keep (Sub.keep (Sub.keep (Sub.keep (Sub.nil)))))))) (by exact ⟨(show 10 < 11 by decide), trivial⟩) rfl) (b_cons (c1 := [.fz 10 Str, .fz 9 Str, .ow 4 (List Str), .ow 3 (List Int), .fz 2 Str, .fz 1 Int]) (s_append (Var.s (Var.s (Var.z))) (e_ix ix_list m_ixL (e_ob (e_lst (l_cons (e_op op_add_str m_catS (e_var (Var.s (Var.z))) (e_var (Var.z))) (l_cons (e_op op_add_str m_catS (e_var (Var.z)) (e_var (Var.s (Var.z)))) (l_nil (α := Str)))))) (e_op op_mod m_mod (e_t1 call_int1 m_int (by rfl) T.n_int bt_int (e_ix ix_list m_ixL (e_varW (Var.s (Var.s (Var.s (Var.z))))) (e_int))) (e_int)))) (b_nil (Sub.skip (Sub.skip (Sub.keep (Sub.keep (Sub.keep (Sub.keep (Sub.nil))))))))))))))) (b_nil (Sub.keep (Sub.keep (Sub.keep (Sub.keep (Sub.nil))))))))) (t_retW (Var.z))))))
theorem ok_law_unlike_rows (T : Txt K mg) : FnOk P w K mg base (L2N.CX P w) 3 T.a_law_unlike_rows T.d_law_unlike_rows ["cell", "names", "count", "spread", "base"] (spF (wdOf T) (kO : Kd (wdOf T) (List (Int × Str))) [.fz 0 Int, .bo 1 (List Str), .fz 2 Int, .fz 3 Int, .fz 4 Int] m_law_unlike_rows) :=
  fn_ok T.F_law_unlike_rows sc_law_unlike_rows rfl (fun cdv A outer s H E hr =>
    b_consT (c1 := [.ow 5 (List Int), .bo 1 (List Str), .fz 2 Int, .fz 4 Int]) (s_setO sc_law_unlike_rows.nd (e_call (Γ := [.fz 0 Int, .bo 1 (List Int)]) (L2N.takes_of rfl rfl rfl rfl) (ok_law_draws T) (hr.mono (by decide)) T.g_law_draws T.F_law_draws.kp T.b_law_draws (a_cons (e_var (Var.z)) (a_consB (e_ob (e_op op_rep m_rep (e_ob (e_lst (l_cons (e_var (Var.s (Var.s (Var.s (Var.z))))) (l_nil (α := Int))))) (e_var (Var.s (Var.s (Var.z)))))) (a_nil)))) (Sub.skip (Sub.keep (Sub.keep (Sub.skip (Sub.keep (Sub.nil)))))) (by exact ⟨(show 5 < 7 by decide), trivial⟩) rfl) (t_ret (e_lc (own := [("k", 6)]) (c2 := [.fz 6 Int, .ow 5 (List Int), .bo 1 (List Str), .fz 4 Int]) (mt := fun _ => Rs.ok true) (me := m_law_unlike_rows_e1) rfl sc_law_unlike_rows.nd (i_rng1 (fr := .g) (by rfl) T.n_range (e_var (Var.s (Var.s (Var.z))))) (blkOk_by (N := ["cell", "names", "count", "spread", "base", "drawn", "k"]) (sc := defScope s_law_unlike_rows) (by decide +kernel)) (Sub.keep (Sub.keep (Sub.skip (Sub.keep (Sub.nil))))) rfl (gc_name (by exact ⟨(show 6 < 7 by decide), trivial⟩) rfl) (fun _ _ _ _ _ => pg_name (i := 6) sc_law_unlike_rows.nd rfl (by first | exact .inl rfl | exact .inr rfl)) (fun _ _ _ _ _ => pts_yes) (fun _ _ _ _ _ => e_pair (e_op op_add m_add (e_var (Var.s (Var.s (Var.s (Var.z))))) (e_ix ix_list m_ixL (e_varW (Var.s (Var.z))) (e_var (Var.z)))) (e_ix ix_list m_ixL (e_varB (Var.s (Var.s (Var.z)))) (e_var (Var.z)))))))
theorem ok_law_rows (T : Txt K mg) : FnOk P w K mg base (L2N.CX P w) 3 T.a_law_rows T.d_law_rows ["cell", "names", "count", "spread", "base"] (spF (wdOf T) (kO : Kd (wdOf T) (List (Int × Str))) [.fz 0 Int, .bo 1 (List Str), .fz 2 Int, .fz 3 Int, .fz 4 Int] m_law_rows) :=
  fn_ok T.F_law_rows sc_law_rows rfl (fun cdv A outer s H E hr =>
    b_consT (c1 := [.ow 5 (List Int), .bo 1 (List Str), .fz 2 Int, .fz 4 Int]) (s_setO sc_law_rows.nd (e_call (Γ := [.fz 0 Int, .bo 1 (List Int)]) (L2N.takes_of rfl rfl rfl rfl) (ok_law_draws T) (hr.mono (by decide)) T.g_law_draws T.F_law_draws.kp T.b_law_draws (a_cons (e_var (Var.z)) (a_consB (e_ob (e_op op_rep m_rep (e_ob (e_lst (l_cons (e_var (Var.s (Var.s (Var.s (Var.z))))) (l_cons (e_b1 call_len_seq m_lenL (by rfl) T.n_len bt_len (e_varB (Var.s (Var.z)))) (l_nil (α := Int)))))) (e_var (Var.s (Var.s (Var.z)))))) (a_nil)))) (Sub.skip (Sub.keep (Sub.keep (Sub.skip (Sub.keep (Sub.nil)))))) (by exact ⟨(show 5 < 7 by decide), trivial⟩) rfl) (t_ret (e_lc (own := [("k", 6)]) (c2 := [.fz 6 Int, .ow 5 (List Int), .bo 1 (List Str), .fz 4 Int]) (mt := fun _ => Rs.ok true) (me := m_law_rows_e1) rfl sc_law_rows.nd (i_rng1 (fr := .g) (by rfl) T.n_range (e_var (Var.s (Var.s (Var.z))))) (blkOk_by (N := ["cell", "names", "count", "spread", "base", "drawn", "k"]) (sc := defScope s_law_rows) (by decide +kernel)) (Sub.keep (Sub.keep (Sub.skip (Sub.keep (Sub.nil))))) rfl (gc_name (by exact ⟨(show 6 < 7 by decide), trivial⟩) rfl) (fun _ _ _ _ _ => pg_name (i := 6) sc_law_rows.nd rfl (by first | exact .inl rfl | exact .inr rfl)) (fun _ _ _ _ _ => pts_yes) (fun _ _ _ _ _ => e_pair (e_op op_add m_add (e_var (Var.s (Var.s (Var.s (Var.z))))) (e_ix ix_list m_ixL (e_varW (Var.s (Var.z))) (e_op op_mul m_mul (e_int) (e_var (Var.z))))) (e_ix ix_list m_ixL (e_varB (Var.s (Var.s (Var.z)))) (e_ix ix_list m_ixL (e_varW (Var.s (Var.z))) (e_op op_add m_add (e_op op_mul m_mul (e_int) (e_var (Var.z))) (e_int))))))))
theorem ok_law_shaped (T : Txt K mg) : FnOk P w K mg base (L2N.CX P w) 2 T.a_law_shaped T.d_law_shaped ["rows", "shape", "base", "gap"] (spF (wdOf T) (kF : Kd (wdOf T) (List (Int × Str))) [.fz 0 (List (Int × Str)), .fz 1 Int, .fz 2 Int, .fz 3 Int] m_law_shaped) :=
  fn_ok T.F_law_shaped sc_law_shaped rfl (fun cdv A outer s H E hr =>
    b_ifT (q_cmp op_eq m_eqI (e_var (Var.s (Var.z))) (e_int)) (t_ret (e_of (e_lc (own := [("row", 4)]) (c2 := [.fz 4 (Int × Str), .fz 2 Int]) (mt := fun _ => Rs.ok true) (me := m_law_shaped_e1) rfl sc_law_shaped.nd (i_listB rfl (e_fb (e_var (Var.z)))) (blkOk_by (N := ["rows", "shape", "base", "gap", "row", "k"]) (sc := defScope s_law_shaped) (by decide +kernel)) (Sub.skip (Sub.skip (Sub.keep (Sub.skip (Sub.nil))))) rfl (gc_name (by exact ⟨(show 4 < 6 by decide), trivial⟩) rfl) (fun _ _ _ _ _ => pg_name (i := 4) sc_law_shaped.nd rfl (by first | exact .inl rfl | exact .inr rfl)) (fun _ _ _ _ _ => pts_yes) (fun _ _ _ _ _ => e_pair (e_var (Var.s (Var.z))) (e_snd rfl (e_var (Var.z))))))) (b_ifT (q_cmp op_eq m_eqI (e_var (Var.s (Var.z))) (e_int)) (t_ret (e_of (e_lc (own := [("k", 5)]) (c2 := [.fz 5 Int, .fz 0 (List (Int × Str)), .fz 2 Int, .fz 3 Int]) (mt := fun _ => Rs.ok true) (me := m_law_shaped_e2) rfl sc_law_shaped.nd (i_rng1 (fr := .g) (by rfl) T.n_range (e_b1 call_len_seq m_lenL (by rfl) T.n_len bt_len (e_fb (e_var (Var.z))))) (blkOk_by (N := ["rows", "shape", "base", "gap", "row", "k"]) (sc := defScope s_law_shaped) (by decide +kernel)) (Sub.keep (Sub.skip (Sub.keep (Sub.keep (Sub.nil))))) rfl (gc_name (by exact ⟨(show 5 < 6 by decide), trivial⟩) rfl) (fun _ _ _ _ _ => pg_name (i := 5) sc_law_shaped.nd rfl (by first | exact .inl rfl | exact .inr rfl)) (fun _ _ _ _ _ => pts_yes) (fun _ _ _ _ _ => e_pair (e_op op_add m_add (e_var (Var.s (Var.s (Var.z)))) (e_op op_mul m_mul (e_var (Var.s (Var.s (Var.s (Var.z))))) (e_op op_mod m_mod (e_t1 call_int1 m_int (by rfl) T.n_int bt_int (e_op op_add m_add (e_op op_sub m_sub (e_fst rfl (e_ix ix_list m_ixL (e_fb (e_var (Var.s (Var.z)))) (e_var (Var.z)))) (e_var (Var.s (Var.s (Var.z))))) (e_var (Var.z)))) (e_int)))) (e_snd rfl (e_ix ix_list m_ixL (e_fb (e_var (Var.s (Var.z)))) (e_var (Var.z)))))))) (b_ifT (q_cmp op_eq m_eqI (e_var (Var.s (Var.z))) (e_int)) (t_ret (e_of (e_lc (own := [("k", 5)]) (c2 := [.fz 5 Int, .fz 0 (List (Int × Str)), .fz 2 Int]) (mt := fun _ => Rs.ok true) (me := m_law_shaped_e3) rfl sc_law_shaped.nd (i_rng1 (fr := .g) (by rfl) T.n_range (e_b1 call_len_seq m_lenL (by rfl) T.n_len bt_len (e_fb (e_var (Var.z))))) (blkOk_by (N := ["rows", "shape", "base", "gap", "row", "k"]) (sc := defScope s_law_shaped) (by decide +kernel)) (Sub.keep (Sub.skip (Sub.keep (Sub.skip (Sub.nil))))) rfl (gc_name (by exact ⟨(show 5 < 6 by decide), trivial⟩) rfl) (fun _ _ _ _ _ => pg_name (i := 5) sc_law_shaped.nd rfl (by first | exact .inl rfl | exact .inr rfl)) (fun _ _ _ _ _ => pts_yes) (fun _ _ _ _ _ => e_pair (e_op op_add m_add (e_var (Var.s (Var.s (Var.z)))) (e_var (Var.z))) (e_snd rfl (e_ix ix_list m_ixL (e_fb (e_var (Var.s (Var.z)))) (e_var (Var.z)))))))) (t_ret (e_var (Var.z))))))
theorem ok_law_wide_rows (T : Txt K mg) : FnOk P w K mg base (L2N.CX P w) 4 T.a_law_wide_rows T.d_law_wide_rows ["script", "at"] (spF (wdOf T) (kF : Kd (wdOf T) (List (Int × Str))) [.fz 0 Script, .fz 1 Int] m_law_wide_rows) :=
  fn_ok T.F_law_wide_rows sc_law_wide_rows rfl (fun cdv A outer s H E hr =>
    b_consT (c1 := [.ow 2 (List Int), .fz 0 Script, .fz 1 Int]) (s_setO sc_law_wide_rows.nd (e_call (Γ := [.fz 0 Int, .bo 1 (List Int)]) (L2N.takes_of rfl rfl rfl rfl) (ok_law_draws T) (hr.mono (by decide)) T.g_law_draws T.F_law_draws.kp T.b_law_draws (a_cons (e_call (Γ := [.fz 0 Script, .fz 1 Int]) (L2N.takes_of rfl rfl rfl rfl) (ok_law_cell T) (hr.mono (by decide)) T.g_law_cell T.F_law_cell.kp T.b_law_cell (a_cons (e_var (Var.z)) (a_cons (e_var (Var.s (Var.z))) (a_nil)))) (a_consB (e_ob (e_lst (l_cons (e_int) (l_cons (e_int) (l_cons (e_int) (l_cons (e_int) (l_cons (e_int) (l_cons (e_int) (l_cons (e_int) (l_cons (e_int) (l_cons (e_int) (l_cons (e_int) (l_cons (e_int) (l_cons (e_int) (l_nil (α := Int)))))))))))))))) (a_nil)))) (Sub.keep (Sub.keep (Sub.nil))) (by exact ⟨(show 2 < 9 by decide), trivial⟩) rfl) (b_consT (c1 := [.fz 3 Int, .ow 2 (List Int), .fz 0 Script, .fz 1 Int]) (s_set sc_law_wide_rows.nd (e_op op_add m_add (e_int) (e_ix ix_list m_ixL (e_varW (Var.z)) (e_int))) (Sub.keep (Sub.keep (Sub.keep (Sub.nil)))) (by exact ⟨(show 3 < 9 by decide), trivial⟩) rfl) (b_consT (c1 := [.fz 4 Int, .fz 3 Int, .ow 2 (List Int), .fz 0 Script, .fz 1 Int]) (s_set sc_law_wide_rows.nd (e_op op_add m_add (e_int) (e_ix ix_list m_ixL (e_varW (Var.s (Var.z))) (e_int))) (Sub.keep (Sub.keep (Sub.keep (Sub.keep (Sub.nil))))) (by exact ⟨(show 4 < 9 by decide), trivial⟩) rfl) (b_consT (c1 := [.fz 4 Int, .fz 3 Int, .ow 2 (List Int), .fz 0 Script, .fz 1 Int]) (s_if (q_cmp op_eq m_eqI (e_ix ix_list m_ixL (e_varW (Var.s (Var.s (Var.z)))) (e_int)) (e_int)) (b_cons (c1 := [.fz 4 Int, .fz 3 Int, .ow 2 (List Int), .fz 0 Script, .fz 1 Int]) (s_upd sc_law_wide_rows.nd (e_op op_add m_add (e_int) (e_ix ix_list m_ixL (e_varW (Var.s (Var.s (Var.z)))) (e_int))) (Var.s (Var.z)) (by exact ⟨(show 3 < 9 by decide), trivial⟩)) (b_cons (c1 := [.fz 4 Int, .fz 3 Int, .ow 2 (List Int), .fz 0 Script, .fz 1 Int]) (s_upd sc_law_wide_rows.nd (e_op op_add m_add (e_int) (e_ix ix_list m_ixL (e_varW (Var.s (Var.s (Var.z)))) (e_int))) (Var.z) (by exact ⟨(show 4 < 9 by decide), trivial⟩)) (b_nil (Sub.keep (Sub.keep (Sub.keep (Sub.keep (Sub.keep (Sub.nil))))))))) (b_nil (Sub.keep (Sub.keep (Sub.keep (Sub.keep (Sub.keep (Sub.nil)))))))) (b_consT (c1 := [.fz 5 Int, .fz 4 Int, .fz 3 Int, .ow 2 (List Int), .fz 0 Script, .fz 1 Int]) (s_set sc_law_wide_rows.nd (e_op op_sub m_sub (e_ix ix_list m_ixL (e_varW (Var.s (Var.s (Var.z)))) (e_int)) (e_int)) (Sub.keep (Sub.keep (Sub.keep (Sub.keep (Sub.keep (Sub.nil)))))) (by exact ⟨(show 5 < 9 by decide), trivial⟩) rfl) (b_consT (c1 := [.fz 5 Int, .fz 4 Int, .fz 3 Int, .ow 2 (List Int), .fz 0 Script, .fz 1 Int]) (s_if (q_cmp op_lt m_lt (e_ix ix_list m_ixL (e_varW (Var.s (Var.s (Var.s (Var.z))))) (e_int)) (e_int)) (b_cons (c1 := [.fz 5 Int, .fz 4 Int, .fz 3 Int, .ow 2 (List Int), .fz 0 Script, .fz 1 Int]) (s_upd sc_law_wide_rows.nd (e_op op_sub m_sub (e_op op_mul m_mul (e_int) (e_ix ix_list m_ixL (e_varW (Var.s (Var.s (Var.s (Var.z))))) (e_int))) (e_int)) (Var.z) (by exact ⟨(show 5 < 9 by decide), trivial⟩)) (b_nil (Sub.keep (Sub.keep (Sub.keep (Sub.keep (Sub.keep (Sub.keep (Sub.nil))))))))) (b_nil (Sub.keep (Sub.keep (Sub.keep (Sub.keep (Sub.keep (Sub.keep (Sub.nil))))))))) (b_consT (c1 := [.fz 6 Int, .fz 5 Int, .fz 4 Int, .fz 3 Int, .ow 2 (List Int), .fz 0 Script, .fz 1 Int]) (s_set sc_law_wide_rows.nd (e_int) (Sub.keep (Sub.keep (Sub.keep (Sub.keep (Sub.keep (Sub.keep (Sub.nil))))))) (by exact ⟨(show 6 < 9 by decide), trivial⟩) rfl) (b_consT (c1 := [.fz 6 Int, .fz 5 Int, .fz 4 Int, .fz 3 Int, .ow 2 (List Int), .fz 0 Script, .fz 1 Int]) (s_if (q_cmp op_eq m_eqI (e_ix ix_list m_ixL (e_varW (Var.s (Var.s (Var.s (Var.s (Var.z)))))) (e_int)) (e_int)) (b_cons (c1 := [.fz 6 Int, .fz 5 Int, .fz 4 Int, .fz 3 Int, .ow 2 (List Int), .fz 0 Script, .fz 1 Int]) (s_upd sc_law_wide_rows.nd (e_ix ix_list m_ixL (e_varW (Var.s (Var.s (Var.s (Var.s (Var.z)))))) (e_int)) (Var.z) (by exact ⟨(show 6 < 9 by decide), trivial⟩)) (b_nil (Sub.keep (Sub.keep (Sub.keep (Sub.keep (Sub.keep (Sub.keep (Sub.keep (Sub.nil)))))))))) (b_nil (Sub.keep (Sub.keep (Sub.keep (Sub.keep (Sub.keep (Sub.keep (Sub.keep (Sub.nil)))))))))) (b_consT (c1 := [.fz 6 Int, .fz 5 Int, .fz 4 Int, .fz 3 Int, .ow 2 (List Int), .fz 0 Script, .fz 1 Int]) (s_if (q_cmp op_eq m_eqI (e_var (Var.z)) (e_int)) (b_cons (c1 := [.fz 6 Int, .fz 5 Int, .fz 4 Int, .fz 3 Int, .ow 2 (List Int), .fz 0 Script, .fz 1 Int]) (s_upd sc_law_wide_rows.nd (e_int) (Var.s (Var.s (Var.s (Var.z)))) (by exact ⟨(show 3 < 9 by decide), trivial⟩)) (b_nil (Sub.keep (Sub.keep (Sub.keep (Sub.keep (Sub.keep (Sub.keep (Sub.keep (Sub.nil)))))))))) (b_nil (Sub.keep (Sub.keep (Sub.keep (Sub.keep (Sub.keep (Sub.keep (Sub.keep (Sub.nil)))))))))) (b_consT (c1 := [.fz 6 Int, .fz 5 Int, .fz 4 Int, .fz 3 Int, .ow 2 (List Int), .fz 0 Script, .fz 1 Int]) (s_if (q_cmp op_eq m_eqI (e_var (Var.z)) (e_int)) (b_cons (c1 := [.fz 6 Int, .fz 5 Int, .fz 4 Int, .fz 3 Int, .ow 2 (List Int), .fz 0 Script, .fz 1 Int]) (s_upd sc_law_wide_rows.nd (e_op op_add m_add (e_int) (e_op op_mod m_mod (e_t1 call_int1 m_int (by rfl) T.n_int bt_int (e_ix ix_list m_ixL (e_varW (Var.s (Var.s (Var.s (Var.s (Var.z)))))) (e_int))) (e_int))) (Var.s (Var.s (Var.s (Var.z)))) (by exact ⟨(show 3 < 9 by decide), trivial⟩)) (b_nil (Sub.keep (Sub.keep (Sub.keep (Sub.keep (Sub.keep (Sub.keep (Sub.keep (Sub.nil)))))))))) (b_nil (Sub.keep (Sub.keep (Sub.keep (Sub.keep (Sub.keep (Sub.keep (Sub.keep (Sub.nil)))))))))) (b_consT (c1 := [.ow 7 (List Str), .fz 6 Int, .fz 5 Int, .fz 4 Int, .fz 3 Int, .ow 2 (List Int), .fz 0 Script, .fz 1 Int]) (s_setO sc_law_wide_rows.nd (e_call (Γ := [.fz 0 Int, .fz 1 Int]) (L2N.takes_of rfl rfl rfl rfl) (ok_law_names T) (hr.mono (by decide)) T.g_law_names T.F_law_names.kp T.b_law_names (a_cons (e_call (Γ := [.fz 0 Script, .fz 1 Int]) (L2N.takes_of rfl rfl rfl rfl) (ok_law_cell T) (hr.mono (by decide)) T.g_law_cell T.F_law_cell.kp T.b_law_cell (a_cons (e_var (Var.s (Var.s (Var.s (Var.s (Var.s (Var.z))))))) (a_cons (e_op op_add m_add (e_var (Var.s (Var.s (Var.s (Var.s (Var.s (Var.s (Var.z)))))))) (e_int)) (a_nil)))) (a_cons (e_var (Var.s (Var.s (Var.s (Var.z))))) (a_nil)))) (Sub.keep (Sub.keep (Sub.keep (Sub.keep (Sub.keep (Sub.keep (Sub.keep (Sub.nil)))))))) (by exact ⟨(show 7 < 9 by decide), trivial⟩) rfl) (b_consT (c1 := [.ow 8 (List (Int × Str)), .fz 6 Int, .fz 5 Int, .ow 2 (List Int)]) (s_if (q_cmp op_eq m_eqI (e_ix ix_list m_ixL (e_varW (Var.s (Var.s (Var.s (Var.s (Var.s (Var.z))))))) (e_int)) (e_int)) (b_cons (c1 := [.ow 8 (List (Int × Str)), .fz 6 Int, .fz 5 Int, .ow 2 (List Int)]) (s_setO sc_law_wide_rows.nd (e_call (Γ := [.fz 0 Int, .bo 1 (List Str), .fz 2 Int, .fz 3 Int, .fz 4 Int]) (L2N.takes_of rfl rfl rfl rfl) (ok_law_unlike_rows T) (hr.mono (by decide)) T.g_law_unlike_rows T.F_law_unlike_rows.kp T.b_law_unlike_rows (a_cons (e_call (Γ := [.fz 0 Script, .fz 1 Int]) (L2N.takes_of rfl rfl rfl rfl) (ok_law_cell T) (hr.mono (by decide)) T.g_law_cell T.F_law_cell.kp T.b_law_cell (a_cons (e_var (Var.s (Var.s (Var.s (Var.s (Var.s (Var.s (Var.z)))))))) (a_cons (e_op op_add m_add (e_var (Var.s (Var.s (Var.s (Var.s (Var.s (Var.s (Var.s (Var.z))))))))) (e_int)) (a_nil)))) (a_consB (e_varW (Var.z)) (a_cons (e_var (Var.s (Var.s (Var.s (Var.s (Var.z)))))) (a_cons (e_var (Var.s (Var.s (Var.s (Var.z))))) (a_cons (e_var (Var.s (Var.s (Var.z)))) (a_nil))))))) (Sub.skip (Sub.keep (Sub.keep (Sub.skip (Sub.skip (Sub.keep (Sub.skip (Sub.skip (Sub.nil))))))))) (by exact ⟨(show 8 < 9 by decide), trivial⟩) rfl) (b_nil (Sub.keep (Sub.keep (Sub.keep (Sub.keep (Sub.nil))))))) (b_cons (c1 := [.ow 7 (List Str), .fz 6 Int, .fz 5 Int, .fz 4 Int, .fz 3 Int, .ow 2 (List Int), .fz 0 Script, .fz 1 Int]) (s_updO sc_law_wide_rows.nd (e_slL (e_varW (Var.z)) (p_none) (p_some (e_op op_add m_add (e_int) (e_op op_mod m_mod (e_t1 call_int1 m_int (by rfl) T.n_int bt_int (e_ix ix_list m_ixL (e_varW (Var.s (Var.s (Var.s (Var.s (Var.s (Var.z))))))) (e_int))) (e_var (Var.s (Var.s (Var.s (Var.s (Var.z)))))))))) (Var.z) (by exact ⟨(show 7 < 9 by decide), trivial⟩)) (b_cons (c1 := [.ow 8 (List (Int × Str)), .fz 6 Int, .fz 5 Int, .ow 2 (List Int)]) (s_setO sc_law_wide_rows.nd (e_call (Γ := [.fz 0 Int, .bo 1 (List Str), .fz 2 Int, .fz 3 Int, .fz 4 Int]) (L2N.takes_of rfl rfl rfl rfl) (ok_law_rows T) (hr.mono (by decide)) T.g_law_rows T.F_law_rows.kp T.b_law_rows (a_cons (e_call (Γ := [.fz 0 Script, .fz 1 Int]) (L2N.takes_of rfl rfl rfl rfl) (ok_law_cell T) (hr.mono (by decide)) T.g_law_cell T.F_law_cell.kp T.b_law_cell (a_cons (e_var (Var.s (Var.s (Var.s (Var.s (Var.s (Var.s (Var.z)))))))) (a_cons (e_op op_add m_add (e_var (Var.s (Var.s (Var.s (Var.s (Var.s (Var.s (Var.s (Var.z))))))))) (e_int)) (a_nil)))) (a_consB (e_varW (Var.z)) (a_cons (e_var (Var.s (Var.s (Var.s (Var.s (Var.z)))))) (a_cons (e_var (Var.s (Var.s (Var.s (Var.z))))) (a_cons (e_var (Var.s (Var.s (Var.z)))) (a_nil))))))) (Sub.skip (Sub.keep (Sub.keep (Sub.skip (Sub.skip (Sub.keep (Sub.skip (Sub.skip (Sub.nil))))))))) (by exact ⟨(show 8 < 9 by decide), trivial⟩) rfl) (b_nil (Sub.keep (Sub.keep (Sub.keep (Sub.keep (Sub.nil))))))))) (b_frzT (m := m_law_wide_rows_b1) (Frz.frz (Frz.keep (Frz.keep (Frz.keep (Frz.nil))))) (t_ret (e_call (Γ := [.fz 0 (List (Int × Str)), .fz 1 Int, .fz 2 Int, .fz 3 Int]) (L2N.takes_of rfl rfl rfl rfl) (ok_law_shaped T) (hr.mono (by decide)) T.g_law_shaped T.F_law_shaped.kp T.b_law_shaped (a_cons (e_var (Var.z)) (a_cons (e_var (Var.s (Var.z))) (a_cons (e_var (Var.s (Var.s (Var.z)))) (a_cons (e_op op_add m_add (e_int) (e_ix ix_list m_ixL (e_varW (Var.s (Var.s (Var.s (Var.z))))) (e_int))) (a_nil))))))))))))))))))))
theorem ok_InvalidSheaf_init (T : Txt K mg) : FnOk P w K mg base (L2N.CX P w) 1 T.a_InvalidSheaf_init T.d_InvalidSheaf_init ["self", "index"] (spE T.c_InvalidSheaf "index") :=
  ini_ok T.ox_InvalidSheaf.oex T.nf_InvalidSheaf T.F_InvalidSheaf_init sc_InvalidSheaf_init (j3 (by decide +kernel) (by decide +kernel)) (fun cdv A outer s H E =>
    pss_cons (ps_expr (pe_weinit T.bx_WornError (by rfl) T.g_WornError (pa_cons (pe_var (i := 0) rfl (by first | exact Or.inl rfl | exact Or.inr (Or.inl rfl) | exact Or.inr (Or.inr rfl))) (pa_cons (pe_joined (.cons pe_str (.cons (pe_fmt (pe_var (i := 1) rfl (by first | exact Or.inl rfl | exact Or.inr (Or.inl rfl) | exact Or.inr (Or.inr rfl)))) (.cons pe_str .nil)))) pa_nil)))) (pss_one (ps_ost (pe_var (i := 0) rfl (by first | exact Or.inl rfl | exact Or.inr (Or.inl rfl) | exact Or.inr (Or.inr rfl))) (pe_var (i := 1) rfl (by first | exact Or.inl rfl | exact Or.inr (Or.inl rfl) | exact Or.inr (Or.inr rfl))))))
theorem ok_valid_record (T : Txt K mg) : FnOk P w K mg base (L2N.CX P w) 2 T.a_valid_record T.d_valid_record ["text"] (spF (wdOf T) (kF : Kd (wdOf T) Bool) [.fz 0 Str] m_valid_record) :=
  fn_ok T.F_valid_record sc_valid_record rfl (fun cdv A outer s H E hr =>
    b_ifT (PW.pt (q_or (q_cmp op_lt m_lt (e_b1 call_len_str m_lenS (by rfl) T.n_len bt_len (e_var (Var.z))) (e_int)) (q_or1 (q_cmp op_gt m_gt (e_b1 call_len_str m_lenS (by rfl) T.n_len bt_len (e_var (Var.z))) (e_gi (by rfl) T.g_LONGEST))))) (t_ret (e_bl)) (b_goT (c1 := [.fz 0 Str]) (m2 := m_valid_record_b2) (s_forG (mb := m_valid_record_l1) (passes_of rfl) rfl (by first | exact .inl rfl | exact .inr rfl) (i_str (fr := .g) (e_var (Var.z))) (pg_name (i := 1) sc_valid_record.nd rfl (by first | exact .inl rfl | exact .inr rfl)) (g_name (by exact ⟨(show 1 < 2 by decide), trivial⟩) rfl) (b_ifG (q_cmp op_notIn_sign m_notin (e_var (Var.z)) (e_gs (by rfl) T.g_SIGNS)) (t_ret (e_bl)) (b_nilG (Sub.skip (Sub.keep (Sub.nil)))))) (t_ret (e_bl))))
theorem ok_Sheaf_init (T : Txt K mg) : FnOk P w K mg base (L2N.CX P w) 3 T.a_Sheaf_init T.d_Sheaf_init ["self", "rows"] (spI (wdOf T) "Sheaf" [.bo 1 (List (Int × Str))] mi_Sheaf_init) :=
  fn_okI (m := m_Sheaf_init) T.F_Sheaf_init sc_Sheaf_init rfl (fun y cdv A outer s H E hr =>
    b_cons (c1 := [.sf 0 (Ini "Sheaf") y, .bo 1 (List (Int × Str))]) (s_if (q_cmp op_eq m_eqI (e_b1 call_len_seq m_lenL (by rfl) T.n_len bt_len (e_varB (Var.s (Var.z)))) (e_int)) (b_ts (kr := (kF : Kd (wdOf T) Unit)) (t_raise "InvalidSheaf" (cm_InvalidSheaf T) T.ox_InvalidSheaf (ok_InvalidSheaf_init T) T.b_InvalidSheaf_init (L2N.takes_of rfl rfl rfl rfl) (hr.mono (by decide)) T.g_InvalidSheaf (e_int))) (b_nil (Sub.keep (Sub.keep (Sub.nil))))) (b_cons (c1 := [.sf 0 (Ini "Sheaf") y, .bo 1 (List (Int × Str))]) (s_for (c := [.sf 0 (Ini "Sheaf") y, .bo 1 (List (Int × Str))]) (c1 := [.fz 3 (Int × Str), .fz 2 Int, .sf 0 (Ini "Sheaf") y, .bo 1 (List (Int × Str))]) (mb := m_Sheaf_init_l1) (passes_of rfl) rfl (by first | exact .inl rfl | exact .inr rfl) (i_enumBo (Var.s (Var.z)) rfl (by rfl) T.n_enumerate) (pg_tup rfl (pgs_cons (pg_name (i := 2) sc_Sheaf_init.nd rfl (by first | exact .inl rfl | exact .inr rfl)) (pgs_cons (pg_name (i := 3) sc_Sheaf_init.nd rfl (by first | exact .inl rfl | exact .inr rfl)) pgs_nil))) (g_pair (by exact ⟨(show 2 < 4 by decide), trivial⟩) (by exact ⟨(show 3 < 4 by decide), trivial⟩) rfl rfl) (b_cons (c1 := [.sf 0 (Ini "Sheaf") y, .bo 1 (List (Int × Str))]) (s_if (q_not (q_val (e_call (Γ := [.fz 0 Str]) (L2N.takes_of rfl rfl rfl rfl) (ok_valid_record T) (hr.mono (by decide)) T.g_valid_record T.F_valid_record.kp T.b_valid_record (a_cons (e_snd rfl (e_var (Var.z))) (a_nil))))) (b_ts (kr := (kF : Kd (wdOf T) Unit)) (t_raise "InvalidSheaf" (cm_InvalidSheaf T) T.ox_InvalidSheaf (ok_InvalidSheaf_init T) T.b_InvalidSheaf_init (L2N.takes_of rfl rfl rfl rfl) (hr.mono (by decide)) T.g_InvalidSheaf (e_var (Var.s (Var.z))))) (b_nil (Sub.skip (Sub.skip (Sub.keep (Sub.keep (Sub.nil))))))) (b_nil (Sub.keep (Sub.keep (Sub.nil)))))) (b_cons (c1 := [.sf 0 Sheaf y, .bo 1 (List (Int × Str))]) (s_fld (C := "Sheaf") (put := fun _ (z : (Tup (Int × Str))) => Sheaf.mk z) (cm_Sheaf T) T.cls_Sheaf T.na_Sheaf__rows put_rows (e_t1 call_tuple_of m_tuple (by rfl) T.n_tuple bt_tuple (e_varB (Var.s (Var.z))))) (b_nil (Sub.keep (Sub.skip (Sub.nil)))))))
theorem ok_Sheaf_len (T : Txt K mg) : FnOk P w K mg base (L2N.CX P w) 2 T.a_Sheaf_len T.d_Sheaf_len ["self"] (spF (wdOf T) (kF : Kd (wdOf T) Int) [.bo 0 Sheaf] m_Sheaf_len) :=
  fn_ok T.F_Sheaf_len sc_Sheaf_len rfl (fun cdv A outer s H E hr =>
    t_ret (e_b1 call_len_seq m_lenT (by rfl) T.n_len bt_len (e_fld (C := "Sheaf") (g := fun (b : Sheaf) => b.rows) (cm_Sheaf T) T.cls_Sheaf T.na_Sheaf__rows fld_rows (e_varB (Var.z)))))
theorem ok_Sheaf_rows (T : Txt K mg) : FnOk P w K mg base (L2N.CX P w) 2 T.a_Sheaf_rows T.d_Sheaf_rows ["self"] (spF (wdOf T) (kO : Kd (wdOf T) (List (Int × Str))) [.bo 0 Sheaf] m_Sheaf_rows) :=
  fn_ok T.F_Sheaf_rows sc_Sheaf_rows rfl (fun cdv A outer s H E hr =>
    t_ret (e_t1 call_list_of m_listT (by rfl) T.n_list bt_list (e_fld (C := "Sheaf") (g := fun (b : Sheaf) => b.rows) (cm_Sheaf T) T.cls_Sheaf T.na_Sheaf__rows fld_rows (e_varB (Var.z)))))
theorem ok_law_same_rows (T : Txt K mg) : FnOk P w K mg base (L2N.CX P w) 2 T.a_law_same_rows T.d_law_same_rows ["told", "rows"] (spF (wdOf T) (kF : Kd (wdOf T) Bool) [.bo 0 (List (Int × Str)), .bo 1 (List (Int × Str))] m_law_same_rows) :=
  fn_ok T.F_law_same_rows sc_law_same_rows rfl (fun cdv A outer s H E hr =>
    b_ifT (PW.pt (q_or (q_not (q_val (e_isi (t := fun _ => .type "list") (b := fun _ => true) (u := .type "list") T.n_isinstance (e_varB (Var.z)) (pe_bltn (v := .ty "list") (by rfl) T.n_list bt_list rfl) (.ty _) ty_listB (fun _ => kit_ty (by decide +kernel))))) (q_or1 (q_cmp op_ne m_neI (e_b1 call_len_seq m_lenL (by rfl) T.n_len bt_len (e_varB (Var.z))) (e_b1 call_len_seq m_lenL (by rfl) T.n_len bt_len (e_varB (Var.s (Var.z)))))))) (t_ret (e_bl)) (b_goT (c1 := [.bo 0 (List (Int × Str)), .bo 1 (List (Int × Str))]) (m2 := m_law_same_rows_b2) (s_forG (mb := m_law_same_rows_l1) (passes_of rfl) rfl (by first | exact .inl rfl | exact .inr rfl) (i_rng1 (fr := .g) (by rfl) T.n_range (e_b1 call_len_seq m_lenL (by rfl) T.n_len bt_len (e_varB (Var.s (Var.z))))) (pg_name (i := 2) sc_law_same_rows.nd rfl (by first | exact .inl rfl | exact .inr rfl)) (g_name (by exact ⟨(show 2 < 4 by decide), trivial⟩) rfl) (b_consG (c1 := [.fz 3 (Int × Str), .fz 2 Int, .bo 0 (List (Int × Str)), .bo 1 (List (Int × Str))]) (s_set sc_law_same_rows.nd (e_ix ix_list m_ixL (e_varB (Var.s (Var.z))) (e_var (Var.z))) (Sub.keep (Sub.keep (Sub.keep (Sub.nil)))) (by exact ⟨(show 3 < 4 by decide), trivial⟩) rfl) (b_ifG (PW.pt (q_or (q_not (q_val (e_isi (t := fun _ => .type "tuple") (b := fun _ => true) (u := .type "tuple") T.n_isinstance (e_var (Var.z)) (pe_bltn (v := .ty "tuple") (by rfl) T.n_tuple bt_tuple rfl) (.ty _) ty_pair (fun _ => kit_ty (by decide +kernel))))) (q_or1 (q_cmp op_ne m_neI (e_b1 call_len_seq m_lenP (by rfl) T.n_len bt_len (e_var (Var.z))) (e_int))))) (t_ret (e_bl)) (b_ifG (PW.pt (q_or (q_not (q_val (e_isi (t := fun _ => .type "int") (b := fun _ => true) (u := .type "int") T.n_isinstance (e_fst rfl (e_var (Var.z))) (pe_bltn (v := .ty "int") (by rfl) T.n_int bt_int rfl) (.ty _) ty_int (fun _ => kit_ty (by decide +kernel))))) (q_or (q_val (e_isi (t := fun _ => .type "int") (b := fun _ => false) (u := .type "bool") T.n_isinstance (e_fst rfl (e_var (Var.z))) (pe_bltn (v := .ty "bool") (by rfl) T.n_bool bt_bool rfl) (.ty _) ty_int (fun _ => kit_ty (by decide +kernel)))) (q_or1 (q_not (q_val (e_isi (t := fun _ => .type "str") (b := fun _ => true) (u := .type "str") T.n_isinstance (e_snd rfl (e_var (Var.z))) (pe_bltn (v := .ty "str") (by rfl) T.n_str bt_str rfl) (.ty _) ty_str (fun _ => kit_ty (by decide +kernel))))))))) (t_ret (e_bl)) (b_ifG (PW.pt (q_or (q_cmp op_ne m_neI (e_fst rfl (e_var (Var.z))) (e_fst rfl (e_ix ix_list m_ixL (e_varB (Var.s (Var.s (Var.s (Var.z))))) (e_var (Var.s (Var.z)))))) (q_or1 (q_cmp op_ne m_neS (e_snd rfl (e_var (Var.z))) (e_snd rfl (e_ix ix_list m_ixL (e_varB (Var.s (Var.s (Var.s (Var.z))))) (e_var (Var.s (Var.z))))))))) (t_ret (e_bl)) (b_nilG (Sub.skip (Sub.skip (Sub.keep (Sub.keep (Sub.nil))))))))))) (t_ret (e_bl))))
theorem ok_Sheaf_iter (T : Txt K mg) : FnOk P w K mg base (L2N.CX P w) 2 T.a_Sheaf_iter T.d_Sheaf_iter ["self"] (spF (wdOf T) (kI : Kd (wdOf T) (Tup (Int × Str))) [.bo 0 Sheaf] m_Sheaf_iter) :=
  fn_ok T.F_Sheaf_iter sc_Sheaf_iter rfl (fun cdv A outer s H E hr =>
    t_ret (e_b1 call_iterT m_iter (by rfl) T.n_iter bt_iter (e_fld (C := "Sheaf") (g := fun (b : Sheaf) => b.rows) (cm_Sheaf T) T.cls_Sheaf T.na_Sheaf__rows fld_rows (e_varB (Var.z)))))
theorem ok_law_holds (T : Txt K mg) : FnOk P w K mg base (L2N.CX P w) 6 T.a_law_holds T.d_law_holds ["sheaf", "rows"] (spF (wdOf T) (kF : Kd (wdOf T) Bool) [.bo 0 Sheaf, .bo 1 (List (Int × Str))] m_law_holds) :=
  fn_ok T.F_law_holds sc_law_holds rfl (fun cdv A outer s H E hr =>
    t_ret (e_and (e_cmp op_eq m_eqI (e_b1T (call_lenW (ok_Sheaf_len T) T.me_Sheaf_len.at_ T.me_Sheaf_len.fn (hr.mono (by decide)) T.b_Sheaf_len) (m_lenW ins_sheaf (cm_Sheaf T)) (by rfl) T.n_len bt_len (e_varB (Var.z))) (e_b1 call_len_seq m_lenL (by rfl) T.n_len bt_len (e_varB (Var.s (Var.z))))) (e_and (e_call (Γ := [.bo 0 (List (Int × Str)), .bo 1 (List (Int × Str))]) (L2N.takes_of rfl rfl rfl rfl) (ok_law_same_rows T) (hr.mono (by decide)) T.g_law_same_rows T.F_law_same_rows.kp T.b_law_same_rows (a_consB (e_ob (e_meth0 ins_sheaf (cm_Sheaf T) T.cls_Sheaf T.me_Sheaf_rows (by decide) (L2N.takes_of rfl rfl rfl rfl) (ok_Sheaf_rows T) (hr.mono (by decide)) T.b_Sheaf_rows (e_varB (Var.z)))) (a_consB (e_varB (Var.s (Var.z))) (a_nil)))) (e_one (e_call (Γ := [.bo 0 (List (Int × Str)), .bo 1 (List (Int × Str))]) (L2N.takes_of rfl rfl rfl rfl) (ok_law_same_rows T) (hr.mono (by decide)) T.g_law_same_rows T.F_law_same_rows.kp T.b_law_same_rows (a_consB (e_ob (e_t1T (call_listW rfl (hr.mono (by decide)) (hr.mono (by decide)) T.me_Sheaf_iter.at_ T.me_Sheaf_iter.fn (ok_Sheaf_iter T) T.b_Sheaf_iter T.me_Sheaf_len.at_ T.me_Sheaf_len.fn (ok_Sheaf_len T) T.b_Sheaf_len) (m_listW ins_sheaf (cm_Sheaf T)) (by rfl) T.n_list bt_list (e_varB (Var.z)))) (a_consB (e_varB (Var.s (Var.z))) (a_nil))))))))
theorem ok_law_variant (T : Txt K mg) : FnOk P w K mg base (L2N.CX P w) 3 T.a_law_variant T.d_law_variant ["rows", "cell", "kind"] (spF (wdOf T) (kO : Kd (wdOf T) (List (Int × Str))) [.bo 0 (List (Int × Str)), .fz 1 Int, .fz 2 Int] m_law_variant) :=
  fn_ok T.F_law_variant sc_law_variant rfl (fun cdv A outer s H E hr =>
    b_consT (c1 := [.fz 3 Str, .bo 0 (List (Int × Str)), .fz 1 Int, .fz 2 Int]) (s_set sc_law_variant.nd (e_str) (Sub.keep (Sub.keep (Sub.keep (Sub.nil)))) (by exact ⟨(show 3 < 11 by decide), trivial⟩) rfl) (b_consT (c1 := [.ow 4 (List Int), .fz 3 Str, .bo 0 (List (Int × Str)), .fz 2 Int]) (s_setO sc_law_variant.nd (e_call (Γ := [.fz 0 Int, .bo 1 (List Int)]) (L2N.takes_of rfl rfl rfl rfl) (ok_law_draws T) (hr.mono (by decide)) T.g_law_draws T.F_law_draws.kp T.b_law_draws (a_cons (e_var (Var.s (Var.s (Var.z)))) (a_consB (e_ob (e_lst (l_cons (e_int) (l_cons (e_int) (l_cons (e_int) (l_cons (e_int) (l_cons (e_int) (l_nil (α := Int))))))))) (a_nil)))) (Sub.keep (Sub.keep (Sub.skip (Sub.keep (Sub.nil))))) (by exact ⟨(show 4 < 11 by decide), trivial⟩) rfl) (b_consT (c1 := [.fz 5 Int, .ow 4 (List Int), .fz 3 Str, .bo 0 (List (Int × Str)), .fz 2 Int]) (s_set sc_law_variant.nd (e_op op_mod m_mod (e_t1 call_int1 m_int (by rfl) T.n_int bt_int (e_ix ix_list m_ixL (e_varW (Var.z)) (e_int))) (e_b1 call_len_seq m_lenL (by rfl) T.n_len bt_len (e_varB (Var.s (Var.s (Var.z)))))) (Sub.keep (Sub.keep (Sub.keep (Sub.keep (Sub.nil))))) (by exact ⟨(show 5 < 11 by decide), trivial⟩) rfl) (b_consT (c1 := [.fz 6 Int, .fz 5 Int, .ow 4 (List Int), .fz 3 Str, .bo 0 (List (Int × Str)), .fz 2 Int]) (s_set sc_law_variant.nd (e_op op_mod m_mod (e_t1 call_int1 m_int (by rfl) T.n_int bt_int (e_ix ix_list m_ixL (e_varW (Var.s (Var.z))) (e_int))) (e_b1 call_len_seq m_lenL (by rfl) T.n_len bt_len (e_varB (Var.s (Var.s (Var.s (Var.z))))))) (Sub.keep (Sub.keep (Sub.keep (Sub.keep (Sub.keep (Sub.nil)))))) (by exact ⟨(show 6 < 11 by decide), trivial⟩) rfl) (b_consT (c1 := [.fz 7 Str, .fz 6 Int, .fz 5 Int, .ow 4 (List Int), .fz 3 Str, .bo 0 (List (Int × Str)), .fz 2 Int]) (s_set sc_law_variant.nd (e_snd rfl (e_ix ix_list m_ixL (e_varB (Var.s (Var.s (Var.s (Var.s (Var.z)))))) (e_var (Var.s (Var.z))))) (Sub.keep (Sub.keep (Sub.keep (Sub.keep (Sub.keep (Sub.keep (Sub.nil))))))) (by exact ⟨(show 7 < 11 by decide), trivial⟩) rfl) (b_consT (c1 := [.ow 8 (List (Int × Str)), .fz 7 Str, .fz 6 Int, .fz 5 Int, .ow 4 (List Int), .fz 3 Str, .bo 0 (List (Int × Str)), .fz 2 Int]) (s_setO sc_law_variant.nd (e_t1 call_list_of m_list (by rfl) T.n_list bt_list (e_varB (Var.s (Var.s (Var.s (Var.s (Var.s (Var.z)))))))) (Sub.keep (Sub.keep (Sub.keep (Sub.keep (Sub.keep (Sub.keep (Sub.keep (Sub.nil)))))))) (by exact ⟨(show 8 < 11 by decide), trivial⟩) rfl) (b_consT (c1 := [.ow 8 (List (Int × Str)), .fz 7 Str, .fz 6 Int, .fz 5 Int, .ow 4 (List Int), .fz 3 Str, .bo 0 (List (Int × Str)), .fz 2 Int]) (s_if (q_cmp op_eq m_eqI (e_var (Var.s (Var.s (Var.s (Var.s (Var.s (Var.s (Var.s (Var.z))))))))) (e_int)) (b_cons (c1 := [.ow 8 (List (Int × Str)), .fz 7 Str, .fz 6 Int, .fz 5 Int, .ow 4 (List Int), .fz 3 Str, .bo 0 (List (Int × Str)), .fz 2 Int]) (s_store (Var.z) (e_pair (e_op op_sub m_sub (e_op op_add m_add (e_fst rfl (e_ix ix_list m_ixL (e_varB (Var.s (Var.s (Var.s (Var.s (Var.s (Var.s (Var.z)))))))) (e_var (Var.s (Var.s (Var.s (Var.z))))))) (e_int)) (e_op op_mul m_mul (e_int) (e_ix ix_list m_ixL (e_varW (Var.s (Var.s (Var.s (Var.s (Var.z)))))) (e_int)))) (e_var (Var.s (Var.z)))) (e_var (Var.s (Var.s (Var.s (Var.z)))))) (b_nil (Sub.keep (Sub.keep (Sub.keep (Sub.keep (Sub.keep (Sub.keep (Sub.keep (Sub.keep (Sub.nil))))))))))) (b_nil (Sub.keep (Sub.keep (Sub.keep (Sub.keep (Sub.keep (Sub.keep (Sub.keep (Sub.keep (Sub.nil))))))))))) (b_consT (c1 := [.ow 8 (List (Int × Str)), .fz 6 Int, .fz 5 Int, .bo 0 (List (Int × Str)), .fz 2 Int]) (s_if (q_cmp op_eq m_eqI (e_var (Var.s (Var.s (Var.s (Var.s (Var.s (Var.s (Var.s (Var.z))))))))) (e_int)) (b_cons (c1 := [.fz 9 Int, .ow 8 (List (Int × Str)), .fz 7 Str, .fz 6 Int, .fz 5 Int, .ow 4 (List Int), .fz 3 Str, .bo 0 (List (Int × Str)), .fz 2 Int]) (s_set sc_law_variant.nd (e_op op_mod m_mod (e_t1 call_int1 m_int (by rfl) T.n_int bt_int (e_ix ix_list m_ixL (e_varW (Var.s (Var.s (Var.s (Var.s (Var.z)))))) (e_int))) (e_b1 call_len_str m_lenS (by rfl) T.n_len bt_len (e_var (Var.s (Var.z))))) (Sub.keep (Sub.keep (Sub.keep (Sub.keep (Sub.keep (Sub.keep (Sub.keep (Sub.keep (Sub.nil))))))))) (by exact ⟨(show 9 < 11 by decide), trivial⟩) rfl) (b_cons (c1 := [.fz 10 Int, .fz 9 Int, .ow 8 (List (Int × Str)), .fz 7 Str, .fz 6 Int, .fz 5 Int, .fz 3 Str, .bo 0 (List (Int × Str)), .fz 2 Int]) (s_set sc_law_variant.nd (e_op op_mod m_mod (e_t1 call_int1 m_int (by rfl) T.n_int bt_int (e_op op_add m_add (e_op op_add m_add (e_find (e_var (Var.s (Var.s (Var.s (Var.s (Var.s (Var.s (Var.z)))))))) (e_ix ix_str m_ixS (e_var (Var.s (Var.s (Var.z)))) (e_var (Var.z)))) (e_int)) (e_ix ix_list m_ixL (e_varW (Var.s (Var.s (Var.s (Var.s (Var.s (Var.z))))))) (e_int)))) (e_int)) (Sub.keep (Sub.keep (Sub.keep (Sub.keep (Sub.keep (Sub.skip (Sub.keep (Sub.keep (Sub.keep (Sub.nil)))))))))) (by exact ⟨(show 10 < 11 by decide), trivial⟩) rfl) (b_cons (c1 := [.fz 10 Int, .fz 9 Int, .ow 8 (List (Int × Str)), .fz 7 Str, .fz 6 Int, .fz 5 Int, .fz 3 Str, .bo 0 (List (Int × Str)), .fz 2 Int]) (s_store (Var.s (Var.s (Var.z))) (e_pair (e_fst rfl (e_ix ix_list m_ixL (e_varB (Var.s (Var.s (Var.s (Var.s (Var.s (Var.s (Var.s (Var.z))))))))) (e_var (Var.s (Var.s (Var.s (Var.s (Var.s (Var.z))))))))) (e_op op_add_str m_catS (e_op op_add_str m_catS (e_slS (e_var (Var.s (Var.s (Var.s (Var.z))))) (p_none) (p_some (e_var (Var.s (Var.z))))) (e_ix ix_str m_ixS (e_var (Var.s (Var.s (Var.s (Var.s (Var.s (Var.s (Var.z)))))))) (e_var (Var.z)))) (e_slS (e_var (Var.s (Var.s (Var.s (Var.z))))) (p_some (e_op op_add m_add (e_var (Var.s (Var.z))) (e_int))) (p_none)))) (e_var (Var.s (Var.s (Var.s (Var.s (Var.s (Var.z)))))))) (b_nil (Sub.skip (Sub.skip (Sub.keep (Sub.skip (Sub.keep (Sub.keep (Sub.skip (Sub.keep (Sub.keep (Sub.nil)))))))))))))) (b_nil (Sub.keep (Sub.skip (Sub.keep (Sub.keep (Sub.skip (Sub.skip (Sub.keep (Sub.keep (Sub.nil))))))))))) (b_consT (c1 := [.ow 8 (List (Int × Str)), .fz 5 Int, .bo 0 (List (Int × Str)), .fz 2 Int]) (s_if (q_cmp op_eq m_eqI (e_var (Var.s (Var.s (Var.s (Var.s (Var.z)))))) (e_int)) (b_cons (c1 := [.ow 8 (List (Int × Str)), .fz 6 Int, .fz 5 Int, .bo 0 (List (Int × Str)), .fz 2 Int]) (s_store (Var.z) (e_ix ix_list m_ixL (e_varB (Var.s (Var.s (Var.s (Var.z))))) (e_var (Var.s (Var.z)))) (e_var (Var.s (Var.s (Var.z))))) (b_cons (c1 := [.ow 8 (List (Int × Str)), .fz 6 Int, .fz 5 Int, .bo 0 (List (Int × Str)), .fz 2 Int]) (s_store (Var.z) (e_ix ix_list m_ixL (e_varB (Var.s (Var.s (Var.s (Var.z))))) (e_var (Var.s (Var.s (Var.z))))) (e_var (Var.s (Var.z)))) (b_nil (Sub.keep (Sub.skip (Sub.keep (Sub.keep (Sub.keep (Sub.nil))))))))) (b_nil (Sub.keep (Sub.skip (Sub.keep (Sub.keep (Sub.keep (Sub.nil)))))))) (b_consT (c1 := [.ow 8 (List (Int × Str)), .fz 5 Int, .bo 0 (List (Int × Str)), .fz 2 Int]) (s_if (PW.pt (q_and (q_cmp op_eq m_eqI (e_var (Var.s (Var.s (Var.s (Var.z))))) (e_int)) (q_and1 (q_cmp op_gt m_gt (e_b1 call_len_seq m_lenL (by rfl) T.n_len bt_len (e_varB (Var.s (Var.s (Var.z))))) (e_int))))) (b_cons (c1 := [.ow 8 (List (Int × Str)), .fz 5 Int, .bo 0 (List (Int × Str)), .fz 2 Int]) (s_pop (Var.z)) (b_nil (Sub.keep (Sub.keep (Sub.keep (Sub.keep (Sub.nil))))))) (b_nil (Sub.keep (Sub.keep (Sub.keep (Sub.keep (Sub.nil))))))) (b_consT (c1 := [.ow 8 (List (Int × Str))]) (s_if (PW.pt (q_and (q_cmp op_eq m_eqI (e_var (Var.s (Var.s (Var.s (Var.z))))) (e_int)) (q_and1 (q_cmp op_lt m_lt (e_b1 call_len_seq m_lenL (by rfl) T.n_len bt_len (e_varB (Var.s (Var.s (Var.z))))) (e_int))))) (b_cons (c1 := [.ow 8 (List (Int × Str)), .fz 5 Int, .bo 0 (List (Int × Str)), .fz 2 Int]) (s_append (Var.z) (e_ix ix_list m_ixL (e_varB (Var.s (Var.s (Var.z)))) (e_var (Var.s (Var.z))))) (b_nil (Sub.keep (Sub.skip (Sub.skip (Sub.skip (Sub.nil))))))) (b_nil (Sub.keep (Sub.skip (Sub.skip (Sub.skip (Sub.nil))))))) (t_retW (Var.z)))))))))))))
theorem ok_Sheaf_eq (T : Txt K mg) : FnOk P w K mg base (L2N.CX P w) 2 T.a_Sheaf_eq T.d_Sheaf_eq ["self", "other"] (spF (wdOf T) (kF : Kd (wdOf T) Bool) [.bo 0 Sheaf, .bo 1 Sheaf] m_Sheaf_eq) :=
  fn_ok T.F_Sheaf_eq sc_Sheaf_eq rfl (fun cdv A outer s H E hr =>
    t_ret (e_and (e_isi (t := fun _ => .ref T.c_Sheaf) (b := fun _ => true) (u := .ref T.c_Sheaf) T.n_isinstance (e_varB (Var.s (Var.z))) (e_cls (by rfl) T.g_Sheaf) (.own _) (ty_insB ins_sheaf (cm_Sheaf T) T.isi_Sheaf) (fun _ => kit_self)) (e_one (e_cmp (op_eqD (by have hu := hr.units; exact hu)) m_eqD (e_fld (C := "Sheaf") (g := fun (b : Sheaf) => b.rows) (cm_Sheaf T) T.cls_Sheaf T.na_Sheaf__rows fld_rows (e_varB (Var.z))) (e_fld (C := "Sheaf") (g := fun (b : Sheaf) => b.rows) (cm_Sheaf T) T.cls_Sheaf T.na_Sheaf__rows fld_rows (e_varB (Var.s (Var.z))))))))
theorem ok_law_equals (T : Txt K mg) : FnOk P w K mg base (L2N.CX P w) 5 T.a_law_equals T.d_law_equals ["sheaf", "rows", "cell"] (spF (wdOf T) (kF : Kd (wdOf T) Bool) [.bo 0 Sheaf, .bo 1 (List (Int × Str)), .fz 2 Int] m_law_equals) :=
  fn_ok T.F_law_equals sc_law_equals rfl (fun cdv A outer s H E hr =>
    b_goT (c1 := [.bo 0 Sheaf, .bo 1 (List (Int × Str)), .fz 2 Int]) (m2 := m_law_equals_b2) (s_forG (mb := m_law_equals_l1) (passes_of rfl) rfl (by first | exact .inl rfl | exact .inr rfl) (i_rng1 (fr := .g) (by rfl) T.n_range (e_int)) (pg_name (i := 3) sc_law_equals.nd rfl (by first | exact .inl rfl | exact .inr rfl)) (g_name (by exact ⟨(show 3 < 6 by decide), trivial⟩) rfl) (b_consG (c1 := [.ow 4 (List (Int × Str)), .bo 0 Sheaf, .bo 1 (List (Int × Str)), .fz 2 Int]) (s_setO sc_law_equals.nd (e_call (Γ := [.bo 0 (List (Int × Str)), .fz 1 Int, .fz 2 Int]) (L2N.takes_of rfl rfl rfl rfl) (ok_law_variant T) (hr.mono (by decide)) T.g_law_variant T.F_law_variant.kp T.b_law_variant (a_consB (e_varB (Var.s (Var.s (Var.z)))) (a_cons (e_var (Var.s (Var.s (Var.s (Var.z))))) (a_cons (e_var (Var.z)) (a_nil))))) (Sub.skip (Sub.keep (Sub.keep (Sub.keep (Sub.nil))))) (by exact ⟨(show 4 < 6 by decide), trivial⟩) rfl) (b_consG (c1 := [.ow 5 Sheaf, .ow 4 (List (Int × Str)), .bo 0 Sheaf, .bo 1 (List (Int × Str)), .fz 2 Int]) (s_setO sc_law_equals.nd (e_make (C := "Sheaf") (Γ := [.bo 1 (List (Int × Str))]) (cm_Sheaf T) T.mk_Sheaf (L2N.takes_of rfl rfl rfl rfl) (ok_Sheaf_init T) (hr.mono (by decide)) T.g_Sheaf T.b_Sheaf_init (a_consB (e_ob (e_t1 call_list_of m_list (by rfl) T.n_list bt_list (e_varW (Var.z)))) (a_nil))) (Sub.keep (Sub.keep (Sub.keep (Sub.keep (Sub.nil))))) (by exact ⟨(show 5 < 6 by decide), trivial⟩) rfl) (b_ifG (PW.pt (q_or (q_cmp op_ne m_neL (e_t1 call_bool1 m_boolB (by rfl) T.n_bool bt_bool (e_cmpT (op_eqW (ok_Sheaf_eq T) T.me_Sheaf_eq.at_ T.me_Sheaf_eq.fn (hr.mono (by decide)) T.b_Sheaf_eq) (m_eqW ins_sheaf (cm_Sheaf T)) (e_varB (Var.s (Var.s (Var.z)))) (e_varW (Var.z)))) (e_cmp (op_eqD (by have hu := hr.units; exact hu)) m_eqB (e_varW (Var.s (Var.z))) (e_varB (Var.s (Var.s (Var.s (Var.z))))))) (q_or1 (q_cmp op_ne m_neL (e_t1 call_bool1 m_boolB (by rfl) T.n_bool bt_bool (e_cmpT (op_eqW (ok_Sheaf_eq T) T.me_Sheaf_eq.at_ T.me_Sheaf_eq.fn (hr.mono (by decide)) T.b_Sheaf_eq) (m_eqW ins_sheaf (cm_Sheaf T)) (e_varW (Var.z)) (e_varB (Var.s (Var.s (Var.z)))))) (e_cmp (op_eqD (by have hu := hr.units; exact hu)) m_eqB (e_varW (Var.s (Var.z))) (e_varB (Var.s (Var.s (Var.s (Var.z)))))))))) (t_ret (e_bl)) (b_nilG (Sub.skip (Sub.skip (Sub.keep (Sub.keep (Sub.keep (Sub.nil))))))))))) (t_ret (e_bl)))
theorem ok_Sheaf_add (T : Txt K mg) : FnOk P w K mg base (L2N.CX P w) 5 T.a_Sheaf_add T.d_Sheaf_add ["self", "other"] (spF (wdOf T) (kO : Kd (wdOf T) Sheaf) [.bo 0 Sheaf, .bo 1 Sheaf] m_Sheaf_add) :=
  fn_ok T.F_Sheaf_add sc_Sheaf_add rfl (fun cdv A outer s H E hr =>
    t_ret (e_make (C := "Sheaf") (Γ := [.bo 1 (List (Int × Str))]) (cm_Sheaf T) T.mk_Sheaf (L2N.takes_of rfl rfl rfl rfl) (ok_Sheaf_init T) (hr.mono (by decide)) T.g_Sheaf T.b_Sheaf_init (a_consB (e_ob (e_op op_cat m_cat (e_ob (e_meth0 ins_sheaf (cm_Sheaf T) T.cls_Sheaf T.me_Sheaf_rows (by decide) (L2N.takes_of rfl rfl rfl rfl) (ok_Sheaf_rows T) (hr.mono (by decide)) T.b_Sheaf_rows (e_varB (Var.z)))) (e_ob (e_meth0 ins_sheaf (cm_Sheaf T) T.cls_Sheaf T.me_Sheaf_rows (by decide) (L2N.takes_of rfl rfl rfl rfl) (ok_Sheaf_rows T) (hr.mono (by decide)) T.b_Sheaf_rows (e_varB (Var.s (Var.z))))))) (a_nil))))
theorem ok_law_sums (T : Txt K mg) : FnOk P w K mg base (L2N.CX P w) 7 T.a_law_sums T.d_law_sums ["one", "two", "three"] (spF (wdOf T) (kF : Kd (wdOf T) Bool) [.bo 0 (List (Int × Str)), .bo 1 (List (Int × Str)), .bo 2 (List (Int × Str))] m_law_sums) :=
  fn_ok T.F_law_sums sc_law_sums rfl (fun cdv A outer s H E hr =>
    b_consT (c1 := [.ow 3 Sheaf, .bo 0 (List (Int × Str)), .bo 1 (List (Int × Str)), .bo 2 (List (Int × Str))]) (s_setO sc_law_sums.nd (e_make (C := "Sheaf") (Γ := [.bo 1 (List (Int × Str))]) (cm_Sheaf T) T.mk_Sheaf (L2N.takes_of rfl rfl rfl rfl) (ok_Sheaf_init T) (hr.mono (by decide)) T.g_Sheaf T.b_Sheaf_init (a_consB (e_ob (e_t1 call_list_of m_list (by rfl) T.n_list bt_list (e_varB (Var.z)))) (a_nil))) (Sub.keep (Sub.keep (Sub.keep (Sub.nil)))) (by exact ⟨(show 3 < 9 by decide), trivial⟩) rfl) (b_consT (c1 := [.ow 4 Sheaf, .ow 3 Sheaf, .bo 0 (List (Int × Str)), .bo 1 (List (Int × Str)), .bo 2 (List (Int × Str))]) (s_setO sc_law_sums.nd (e_make (C := "Sheaf") (Γ := [.bo 1 (List (Int × Str))]) (cm_Sheaf T) T.mk_Sheaf (L2N.takes_of rfl rfl rfl rfl) (ok_Sheaf_init T) (hr.mono (by decide)) T.g_Sheaf T.b_Sheaf_init (a_consB (e_ob (e_t1 call_list_of m_list (by rfl) T.n_list bt_list (e_varB (Var.s (Var.s (Var.z)))))) (a_nil))) (Sub.keep (Sub.keep (Sub.keep (Sub.keep (Sub.nil))))) (by exact ⟨(show 4 < 9 by decide), trivial⟩) rfl) (b_consT (c1 := [.ow 5 Sheaf, .ow 4 Sheaf, .ow 3 Sheaf, .bo 0 (List (Int × Str)), .bo 1 (List (Int × Str)), .bo 2 (List (Int × Str))]) (s_setO sc_law_sums.nd (e_make (C := "Sheaf") (Γ := [.bo 1 (List (Int × Str))]) (cm_Sheaf T) T.mk_Sheaf (L2N.takes_of rfl rfl rfl rfl) (ok_Sheaf_init T) (hr.mono (by decide)) T.g_Sheaf T.b_Sheaf_init (a_consB (e_ob (e_t1 call_list_of m_list (by rfl) T.n_list bt_list (e_varB (Var.s (Var.s (Var.s (Var.s (Var.z)))))))) (a_nil))) (Sub.keep (Sub.keep (Sub.keep (Sub.keep (Sub.keep (Sub.nil)))))) (by exact ⟨(show 5 < 9 by decide), trivial⟩) rfl) (b_consT (c1 := [.ow 6 Sheaf, .ow 5 Sheaf, .ow 4 Sheaf, .ow 3 Sheaf, .bo 0 (List (Int × Str)), .bo 1 (List (Int × Str)), .bo 2 (List (Int × Str))]) (s_setO sc_law_sums.nd (e_opT (op_addW (ok_Sheaf_add T) T.me_Sheaf_add.at_ T.me_Sheaf_add.fn T.sf_Sheaf (hr.mono (by decide)) T.b_Sheaf_add) (m_addW ins_sheaf (cm_Sheaf T)) (e_varW (Var.s (Var.s (Var.z)))) (e_varW (Var.s (Var.z)))) (Sub.keep (Sub.keep (Sub.keep (Sub.keep (Sub.keep (Sub.keep (Sub.nil))))))) (by exact ⟨(show 6 < 9 by decide), trivial⟩) rfl) (b_ifT (PW.pt (q_or (q_not (q_val (e_isi (t := fun _ => .ref T.c_Sheaf) (b := fun _ => true) (u := .ref T.c_Sheaf) T.n_isinstance (e_varW (Var.z)) (e_cls (by rfl) T.g_Sheaf) (.own _) (ty_insB ins_sheaf (cm_Sheaf T) T.isi_Sheaf) (fun _ => kit_self)))) (q_or1 (q_not (q_val (e_call (Γ := [.bo 0 Sheaf, .bo 1 (List (Int × Str))]) (L2N.takes_of rfl rfl rfl rfl) (ok_law_holds T) (hr.mono (by decide)) T.g_law_holds T.F_law_holds.kp T.b_law_holds (a_consB (e_varW (Var.z)) (a_consB (e_ob (e_op op_cat m_cat (e_varB (Var.s (Var.s (Var.s (Var.s (Var.z)))))) (e_varB (Var.s (Var.s (Var.s (Var.s (Var.s (Var.z))))))))) (a_nil))))))))) (t_ret (e_bl)) (b_consT (c1 := [.ow 7 (List (Int × Str)), .ow 6 Sheaf, .ow 5 Sheaf, .ow 4 Sheaf, .ow 3 Sheaf, .bo 0 (List (Int × Str)), .bo 1 (List (Int × Str)), .bo 2 (List (Int × Str))]) (s_setO sc_law_sums.nd (e_meth0 ins_sheaf (cm_Sheaf T) T.cls_Sheaf T.me_Sheaf_rows (by decide) (L2N.takes_of rfl rfl rfl rfl) (ok_Sheaf_rows T) (hr.mono (by decide)) T.b_Sheaf_rows (e_varW (Var.z))) (Sub.keep (Sub.keep (Sub.keep (Sub.keep (Sub.keep (Sub.keep (Sub.keep (Sub.nil)))))))) (by exact ⟨(show 7 < 9 by decide), trivial⟩) rfl) (b_consT (c1 := [.ow 7 (List (Int × Str)), .ow 6 Sheaf, .ow 5 Sheaf, .ow 4 Sheaf, .ow 3 Sheaf, .bo 0 (List (Int × Str)), .bo 1 (List (Int × Str)), .bo 2 (List (Int × Str))]) (s_store (Var.z) (e_pair (e_op op_add m_add (e_fst rfl (e_ix ix_list m_ixL (e_varB (Var.s (Var.s (Var.s (Var.s (Var.s (Var.z))))))) (e_int))) (e_int)) (e_snd rfl (e_ix ix_list m_ixL (e_varB (Var.s (Var.s (Var.s (Var.s (Var.s (Var.z))))))) (e_int)))) (e_int)) (b_consT (c1 := [.ow 7 (List (Int × Str)), .ow 6 Sheaf, .ow 5 Sheaf, .ow 4 Sheaf, .ow 3 Sheaf, .bo 0 (List (Int × Str)), .bo 1 (List (Int × Str)), .bo 2 (List (Int × Str))]) (s_append (Var.z) (e_pair (e_fst rfl (e_ix ix_list m_ixL (e_varB (Var.s (Var.s (Var.s (Var.s (Var.s (Var.z))))))) (e_int))) (e_str))) (b_ifT (PW.pt (q_or (q_not (q_val (e_call (Γ := [.bo 0 Sheaf, .bo 1 (List (Int × Str))]) (L2N.takes_of rfl rfl rfl rfl) (ok_law_holds T) (hr.mono (by decide)) T.g_law_holds T.F_law_holds.kp T.b_law_holds (a_consB (e_ob (e_opT (op_addW (ok_Sheaf_add T) T.me_Sheaf_add.at_ T.me_Sheaf_add.fn T.sf_Sheaf (hr.mono (by decide)) T.b_Sheaf_add) (m_addW ins_sheaf (cm_Sheaf T)) (e_varW (Var.s (Var.s (Var.s (Var.z))))) (e_varW (Var.s (Var.s (Var.s (Var.s (Var.z)))))))) (a_consB (e_ob (e_op op_cat m_cat (e_varB (Var.s (Var.s (Var.s (Var.s (Var.s (Var.s (Var.z)))))))) (e_varB (Var.s (Var.s (Var.s (Var.s (Var.s (Var.z))))))))) (a_nil)))))) (q_or1 (q_not (q_val (e_call (Γ := [.bo 0 Sheaf, .bo 1 (List (Int × Str))]) (L2N.takes_of rfl rfl rfl rfl) (ok_law_holds T) (hr.mono (by decide)) T.g_law_holds T.F_law_holds.kp T.b_law_holds (a_consB (e_ob (e_opT (op_addW (ok_Sheaf_add T) T.me_Sheaf_add.at_ T.me_Sheaf_add.fn T.sf_Sheaf (hr.mono (by decide)) T.b_Sheaf_add) (m_addW ins_sheaf (cm_Sheaf T)) (e_varW (Var.s (Var.s (Var.s (Var.s (Var.z)))))) (e_varW (Var.s (Var.s (Var.s (Var.s (Var.z)))))))) (a_consB (e_ob (e_op op_cat m_cat (e_varB (Var.s (Var.s (Var.s (Var.s (Var.s (Var.z))))))) (e_varB (Var.s (Var.s (Var.s (Var.s (Var.s (Var.z))))))))) (a_nil))))))))) (t_ret (e_bl)) (b_consT (c1 := [.ow 8 Sheaf, .ow 6 Sheaf, .ow 5 Sheaf, .ow 4 Sheaf, .ow 3 Sheaf, .bo 0 (List (Int × Str)), .bo 1 (List (Int × Str)), .bo 2 (List (Int × Str))]) (s_setO sc_law_sums.nd (e_opT (op_addW (ok_Sheaf_add T) T.me_Sheaf_add.at_ T.me_Sheaf_add.fn T.sf_Sheaf (hr.mono (by decide)) T.b_Sheaf_add) (m_addW ins_sheaf (cm_Sheaf T)) (e_varW (Var.s (Var.z))) (e_varW (Var.s (Var.s (Var.z))))) (Sub.skip (Sub.keep (Sub.keep (Sub.keep (Sub.keep (Sub.keep (Sub.keep (Sub.keep (Sub.nil))))))))) (by exact ⟨(show 8 < 9 by decide), trivial⟩) rfl) (b_ifT (PW.pt (q_or (q_not (q_val (e_call (Γ := [.bo 0 Sheaf, .bo 1 (List (Int × Str))]) (L2N.takes_of rfl rfl rfl rfl) (ok_law_holds T) (hr.mono (by decide)) T.g_law_holds T.F_law_holds.kp T.b_law_holds (a_consB (e_varW (Var.z)) (a_consB (e_ob (e_op op_cat m_cat (e_ob (e_op op_cat m_cat (e_varB (Var.s (Var.s (Var.s (Var.s (Var.s (Var.z))))))) (e_varB (Var.s (Var.s (Var.s (Var.s (Var.s (Var.s (Var.z)))))))))) (e_varB (Var.s (Var.s (Var.s (Var.s (Var.s (Var.s (Var.s (Var.z))))))))))) (a_nil)))))) (q_or1 (q_not (q_val (e_call (Γ := [.bo 0 Sheaf, .bo 1 (List (Int × Str))]) (L2N.takes_of rfl rfl rfl rfl) (ok_law_holds T) (hr.mono (by decide)) T.g_law_holds T.F_law_holds.kp T.b_law_holds (a_consB (e_ob (e_opT (op_addW (ok_Sheaf_add T) T.me_Sheaf_add.at_ T.me_Sheaf_add.fn T.sf_Sheaf (hr.mono (by decide)) T.b_Sheaf_add) (m_addW ins_sheaf (cm_Sheaf T)) (e_varW (Var.s (Var.s (Var.s (Var.s (Var.z)))))) (e_ob (e_opT (op_addW (ok_Sheaf_add T) T.me_Sheaf_add.at_ T.me_Sheaf_add.fn T.sf_Sheaf (hr.mono (by decide)) T.b_Sheaf_add) (m_addW ins_sheaf (cm_Sheaf T)) (e_varW (Var.s (Var.s (Var.s (Var.z))))) (e_varW (Var.s (Var.s (Var.z)))))))) (a_consB (e_ob (e_op op_cat m_cat (e_ob (e_op op_cat m_cat (e_varB (Var.s (Var.s (Var.s (Var.s (Var.s (Var.z))))))) (e_varB (Var.s (Var.s (Var.s (Var.s (Var.s (Var.s (Var.z)))))))))) (e_varB (Var.s (Var.s (Var.s (Var.s (Var.s (Var.s (Var.s (Var.z))))))))))) (a_nil))))))))) (t_ret (e_bl)) (b_ifT (q_not (q_cmpT (op_eqW (ok_Sheaf_eq T) T.me_Sheaf_eq.at_ T.me_Sheaf_eq.fn (hr.mono (by decide)) T.b_Sheaf_eq) (m_eqW ins_sheaf (cm_Sheaf T)) (e_varW (Var.z)) (e_ob (e_opT (op_addW (ok_Sheaf_add T) T.me_Sheaf_add.at_ T.me_Sheaf_add.fn T.sf_Sheaf (hr.mono (by decide)) T.b_Sheaf_add) (m_addW ins_sheaf (cm_Sheaf T)) (e_varW (Var.s (Var.s (Var.s (Var.s (Var.z)))))) (e_ob (e_opT (op_addW (ok_Sheaf_add T) T.me_Sheaf_add.at_ T.me_Sheaf_add.fn T.sf_Sheaf (hr.mono (by decide)) T.b_Sheaf_add) (m_addW ins_sheaf (cm_Sheaf T)) (e_varW (Var.s (Var.s (Var.s (Var.z))))) (e_varW (Var.s (Var.s (Var.z)))))))))) (t_ret (e_bl)) (b_ifT (PW.pt (q_or (q_not (q_val (e_call (Γ := [.bo 0 Sheaf, .bo 1 (List (Int × Str))]) (L2N.takes_of rfl rfl rfl rfl) (ok_law_holds T) (hr.mono (by decide)) T.g_law_holds T.F_law_holds.kp T.b_law_holds (a_consB (e_varW (Var.s (Var.s (Var.s (Var.s (Var.z)))))) (a_consB (e_varB (Var.s (Var.s (Var.s (Var.s (Var.s (Var.z))))))) (a_nil)))))) (q_or (q_not (q_val (e_call (Γ := [.bo 0 Sheaf, .bo 1 (List (Int × Str))]) (L2N.takes_of rfl rfl rfl rfl) (ok_law_holds T) (hr.mono (by decide)) T.g_law_holds T.F_law_holds.kp T.b_law_holds (a_consB (e_varW (Var.s (Var.s (Var.s (Var.z))))) (a_consB (e_varB (Var.s (Var.s (Var.s (Var.s (Var.s (Var.s (Var.z)))))))) (a_nil)))))) (q_or1 (q_not (q_val (e_call (Γ := [.bo 0 Sheaf, .bo 1 (List (Int × Str))]) (L2N.takes_of rfl rfl rfl rfl) (ok_law_holds T) (hr.mono (by decide)) T.g_law_holds T.F_law_holds.kp T.b_law_holds (a_consB (e_varW (Var.s (Var.s (Var.z)))) (a_consB (e_varB (Var.s (Var.s (Var.s (Var.s (Var.s (Var.s (Var.s (Var.z))))))))) (a_nil)))))))))) (t_ret (e_bl)) (t_ret (e_call (Γ := [.bo 0 Sheaf, .bo 1 (List (Int × Str))]) (L2N.takes_of rfl rfl rfl rfl) (ok_law_holds T) (hr.mono (by decide)) T.g_law_holds T.F_law_holds.kp T.b_law_holds (a_consB (e_varW (Var.s (Var.z))) (a_consB (e_ob (e_op op_cat m_cat (e_varB (Var.s (Var.s (Var.s (Var.s (Var.s (Var.z))))))) (e_varB (Var.s (Var.s (Var.s (Var.s (Var.s (Var.s (Var.z)))))))))) (a_nil))))))))))))))))))
theorem ok_law (T : Txt K mg) : FnOk P w K mg base (L2N.CX P w) 8 T.a_law T.d_law ["script"] (spF (wdOf T) (kF : Kd (wdOf T) Bool) [.fz 0 Script] m_law) :=
  fn_ok T.F_law sc_law rfl (fun cdv A outer s H E hr =>
    b_consT (c1 := [.fz 1 (List (Int × Str)), .fz 0 Script]) (s_set sc_law.nd (e_call (Γ := [.fz 0 Script, .fz 1 Int]) (L2N.takes_of rfl rfl rfl rfl) (ok_law_wide_rows T) (hr.mono (by decide)) T.g_law_wide_rows T.F_law_wide_rows.kp T.b_law_wide_rows (a_cons (e_var (Var.z)) (a_cons (e_int) (a_nil)))) (Sub.keep (Sub.nil)) (by exact ⟨(show 1 < 5 by decide), trivial⟩) rfl) (b_consT (c1 := [.ow 2 (List (Int × Str)), .fz 1 (List (Int × Str)), .fz 0 Script]) (s_setO sc_law.nd (e_t1 call_list_of m_list (by rfl) T.n_list bt_list (e_fb (e_var (Var.z)))) (Sub.keep (Sub.keep (Sub.nil))) (by exact ⟨(show 2 < 5 by decide), trivial⟩) rfl) (b_consT (c1 := [.ow 3 Sheaf, .ow 2 (List (Int × Str)), .fz 1 (List (Int × Str)), .fz 0 Script]) (s_setO sc_law.nd (e_make (C := "Sheaf") (Γ := [.bo 1 (List (Int × Str))]) (cm_Sheaf T) T.mk_Sheaf (L2N.takes_of rfl rfl rfl rfl) (ok_Sheaf_init T) (hr.mono (by decide)) T.g_Sheaf T.b_Sheaf_init (a_consB (e_varW (Var.z)) (a_nil))) (Sub.keep (Sub.keep (Sub.keep (Sub.nil)))) (by exact ⟨(show 3 < 5 by decide), trivial⟩) rfl) (b_ifT (q_cmp (op_neD (by have hu := hr.units; exact hu)) m_neB (e_varW (Var.s (Var.z))) (e_fb (e_var (Var.s (Var.s (Var.z)))))) (t_ret (e_bl)) (b_consT (c1 := [.ow 3 Sheaf, .ow 2 (List (Int × Str)), .fz 1 (List (Int × Str)), .fz 0 Script]) (s_store (Var.s (Var.z)) (e_pair (e_op op_add m_add (e_fst rfl (e_ix ix_list m_ixL (e_fb (e_var (Var.s (Var.s (Var.z))))) (e_int))) (e_int)) (e_snd rfl (e_ix ix_list m_ixL (e_fb (e_var (Var.s (Var.s (Var.z))))) (e_int)))) (e_int)) (b_consT (c1 := [.ow 3 Sheaf, .ow 2 (List (Int × Str)), .fz 1 (List (Int × Str)), .fz 0 Script]) (s_append (Var.s (Var.z)) (e_pair (e_fst rfl (e_ix ix_list m_ixL (e_fb (e_var (Var.s (Var.s (Var.z))))) (e_int))) (e_str))) (b_ifT (q_not (q_val (e_call (Γ := [.bo 0 Sheaf, .bo 1 (List (Int × Str))]) (L2N.takes_of rfl rfl rfl rfl) (ok_law_holds T) (hr.mono (by decide)) T.g_law_holds T.F_law_holds.kp T.b_law_holds (a_consB (e_varW (Var.z)) (a_consB (e_fb (e_var (Var.s (Var.s (Var.z))))) (a_nil)))))) (t_ret (e_bl)) (b_consT (c1 := [.ow 4 (List (Int × Str)), .ow 3 Sheaf, .fz 1 (List (Int × Str)), .fz 0 Script]) (s_setO sc_law.nd (e_meth0 ins_sheaf (cm_Sheaf T) T.cls_Sheaf T.me_Sheaf_rows (by decide) (L2N.takes_of rfl rfl rfl rfl) (ok_Sheaf_rows T) (hr.mono (by decide)) T.b_Sheaf_rows (e_varW (Var.z))) (Sub.keep (Sub.skip (Sub.keep (Sub.keep (Sub.nil))))) (by exact ⟨(show 4 < 5 by decide), trivial⟩) rfl) (b_consT (c1 := [.ow 4 (List (Int × Str)), .ow 3 Sheaf, .fz 1 (List (Int × Str)), .fz 0 Script]) (s_store (Var.z) (e_pair (e_op op_add m_add (e_fst rfl (e_ix ix_list m_ixL (e_fb (e_var (Var.s (Var.s (Var.z))))) (e_int))) (e_int)) (e_snd rfl (e_ix ix_list m_ixL (e_fb (e_var (Var.s (Var.s (Var.z))))) (e_int)))) (e_int)) (b_consT (c1 := [.ow 4 (List (Int × Str)), .ow 3 Sheaf, .fz 1 (List (Int × Str)), .fz 0 Script]) (s_append (Var.z) (e_pair (e_fst rfl (e_ix ix_list m_ixL (e_fb (e_var (Var.s (Var.s (Var.z))))) (e_int))) (e_str))) (b_ifT (PW.pt (q_or (q_not (q_val (e_call (Γ := [.bo 0 Sheaf, .bo 1 (List (Int × Str))]) (L2N.takes_of rfl rfl rfl rfl) (ok_law_holds T) (hr.mono (by decide)) T.g_law_holds T.F_law_holds.kp T.b_law_holds (a_consB (e_varW (Var.s (Var.z))) (a_consB (e_fb (e_var (Var.s (Var.s (Var.z))))) (a_nil)))))) (q_or1 (q_not (q_val (e_call (Γ := [.bo 0 Sheaf, .bo 1 (List (Int × Str)), .fz 2 Int]) (L2N.takes_of rfl rfl rfl rfl) (ok_law_equals T) (hr.mono (by decide)) T.g_law_equals T.F_law_equals.kp T.b_law_equals (a_consB (e_varW (Var.s (Var.z))) (a_consB (e_fb (e_var (Var.s (Var.s (Var.z))))) (a_cons (e_call (Γ := [.fz 0 Script, .fz 1 Int]) (L2N.takes_of rfl rfl rfl rfl) (ok_law_cell T) (hr.mono (by decide)) T.g_law_cell T.F_law_cell.kp T.b_law_cell (a_cons (e_var (Var.s (Var.s (Var.s (Var.z))))) (a_cons (e_int) (a_nil)))) (a_nil)))))))))) (t_ret (e_bl)) (t_ret (e_call (Γ := [.bo 0 (List (Int × Str)), .bo 1 (List (Int × Str)), .bo 2 (List (Int × Str))]) (L2N.takes_of rfl rfl rfl rfl) (ok_law_sums T) (hr.mono (by decide)) T.g_law_sums T.F_law_sums.kp T.b_law_sums (a_consB (e_ob (e_slL (e_fb (e_var (Var.s (Var.s (Var.z))))) (p_none) (p_some (e_int)))) (a_consB (e_ob (e_slL (e_fb (e_call (Γ := [.fz 0 Script, .fz 1 Int]) (L2N.takes_of rfl rfl rfl rfl) (ok_law_wide_rows T) (hr.mono (by decide)) T.g_law_wide_rows T.F_law_wide_rows.kp T.b_law_wide_rows (a_cons (e_var (Var.s (Var.s (Var.s (Var.z))))) (a_cons (e_int) (a_nil))))) (p_none) (p_some (e_int)))) (a_consB (e_ob (e_slL (e_fb (e_call (Γ := [.fz 0 Script, .fz 1 Int]) (L2N.takes_of rfl rfl rfl rfl) (ok_law_wide_rows T) (hr.mono (by decide)) T.g_law_wide_rows T.F_law_wide_rows.kp T.b_law_wide_rows (a_cons (e_var (Var.s (Var.s (Var.s (Var.z))))) (a_cons (e_int) (a_nil))))) (p_none) (p_some (e_int)))) (a_nil)))))))))))))))))
end
end Wk
set_option Elab.async false
set_option linter.all false
set_option maxRecDepth 100000
set_option maxHeartbeats 400000
namespace Wk
open PySem PySem.Spec PyProof.Rows L2 Wm
theorem cell_ok (ns : List Int) (k : Nat) : ∃ v : Int, m_law_cell (⟨ns⟩, (k : Int), ()) = .ok v := by
  unfold m_law_cell
  simp only [Rs.bo]
  by_cases h : (k : Int) < (ns.length : Int)
  · rw [if_pos (by simpa using h)]
    have h' : k < ns.length := by omega
    rw [getI_nat (List.getElem?_eq_getElem h')]
    exact ⟨_, rfl⟩
  · rw [if_neg (by simpa using h)]
    exact ⟨_, rfl⟩

/-- each draw stands under its size -/
structure Drawn (sizes ds : List Int) : Prop where
  len : ds.length = sizes.length
  at' : ∀ (i : Nat) (s : Int), sizes[i]? = some s → ∃ d : Int, ds[i]? = some d ∧ 0 ≤ d ∧ d < s
theorem draws_step (sizes : List Int) (hs : ∀ s ∈ sizes, 0 < s ∧ s < 1000000000) (hl : sizes.length ≤ 1000000) (cell : Int) (packed : Bool) (left : Int) (drawn : List Int) (i : Nat) (s : Int) (hi : sizes[i]? = some s) (hd : drawn.length = i) :
    ∃ left' d, m_law_draws_l1 ((i : Int), packed, left, drawn, cell, sizes, ()) = .ok (packed, left', drawn ++ [d], cell, sizes, ()) ∧ 0 ≤ d ∧ d < s := by
  obtain ⟨h0, h1⟩ := hs s (List.mem_of_getElem? hi)
  have hil : i < sizes.length := (List.getElem?_eq_some_iff.mp hi).1
  unfold m_law_draws_l1
  simp only [Rs.bo, getI_nat hi, if_pos h0, if_pos (CDiv_of h0 (show s < 1000000000 by omega)), appI_ok (show drawn.length < 16777216 by omega)]
  have ht : (if packed = true then Rs.ok (decide (0 < left)) else Rs.ok false) = Rs.ok (packed && decide (0 < left)) := by cases packed <;> rfl
  rw [ht]
  simp only [Rs.bo]
  split
  · exact ⟨_, _, rfl, Int.emod_nonneg _ (by omega), Int.emod_lt_of_pos _ h0⟩
  · rw [if_pos (CMul_l (by decide) (by decide))]
    simp only [Rs.bo]
    rw [if_pos (by decide)]
    simp only [Rs.bo]
    generalize hm1 : (cell + 7919 * (i : Int) + 13) % 2147483647 = m1
    have b1 := Int.emod_nonneg (cell + 7919 * (i : Int) + 13) (show (2147483647 : Int) ≠ 0 by decide)
    have b2 := Int.emod_lt_of_pos (cell + 7919 * (i : Int) + 13) (show (0 : Int) < 2147483647 by decide)
    rw [hm1] at b1 b2
    rw [if_pos (CMul_l (by omega) (by omega))]
    simp only [Rs.bo]
    rw [if_pos (by decide)]
    simp only [Rs.bo]
    generalize hm2 : (m1 * (m1 + 48271)) % 2147483629 = m2
    have c1 := Int.emod_nonneg (m1 * (m1 + 48271)) (show (2147483629 : Int) ≠ 0 by decide)
    have c2 := Int.emod_lt_of_pos (m1 * (m1 + 48271)) (show (0 : Int) < 2147483629 by decide)
    rw [hm2] at c1 c2
    rw [if_pos (CMul_l (by omega) (by omega))]
    simp only [Rs.bo]
    rw [if_pos (CMul_l (by decide) (by decide))]
    simp only [Rs.bo]
    rw [if_pos (by decide)]
    simp only [Rs.bo]
    rw [if_pos (CDiv_of (by decide) (by decide))]
    simp only [Rs.bo, getI_nat hi, if_pos h0, appI_ok (show drawn.length < 16777216 by omega)]
    exact ⟨_, _, rfl, Int.emod_nonneg _ (by omega), Int.emod_lt_of_pos _ h0⟩
theorem draws_w (cell : Int) (sizes : List Int) (hs : ∀ s ∈ sizes, 0 < s ∧ s < 1000000000) (hl : sizes.length ≤ 1000000) : ∃ ds, m_law_draws (cell, sizes, ()) = .ok ds ∧ Drawn sizes ds := by
  unfold m_law_draws
  simp only [Rs.bo]
  rw [if_pos (by decide)]
  simp only [Rs.bo]
  rw [Rng_nat (by omega)]
  simp only [Rs.bo]
  obtain ⟨g, e, packed, left, drawn, rfl, hd, hv⟩ := fold_inv (f := fun γ x => m_law_draws_l1 (x, γ)) (xs := rng 0 (sizes.length : Int)) (g := (decide ((10 : Int) ^ (Int.toNat 18) ≤ cell), cell, ([] : List Int), cell, sizes, ()))
    (fun i g => ∃ packed left drawn, g = (packed, left, drawn, cell, sizes, ()) ∧ drawn.length = i ∧ ∀ j s, j < i → sizes[j]? = some s → ∃ d, drawn[j]? = some d ∧ 0 ≤ d ∧ d < s)
    ⟨_, _, _, rfl, rfl, fun j s hj => absurd hj (Nat.not_lt_zero j)⟩ (by
      rintro i g a ha ⟨packed, left, drawn, rfl, hd, hv⟩
      obtain ⟨hi, rfl⟩ := rng_get ha
      have hi' : i < sizes.length := by omega
      obtain ⟨left', d, e, h0, h1⟩ := draws_step sizes hs hl cell packed left drawn i _ (List.getElem?_eq_getElem hi') hd
      refine ⟨_, by rw [show (0 : Int) + (i : Int) = (i : Int) by omega]; exact e, packed, left', drawn ++ [d], rfl, by simp [hd], fun j s hj hjs => ?_⟩
      by_cases hji : j < i
      · obtain ⟨d', k1, k2, k3⟩ := hv j s hji hjs
        exact ⟨d', by rw [List.getElem?_append_left (by omega)]; exact k1, k2, k3⟩
      · have : j = i := by omega
        subst this
        rw [List.getElem?_eq_getElem hi'] at hjs
        cases hjs
        exact ⟨d, by rw [List.getElem?_append_right (by omega), hd]; simp, h0, h1⟩)
  rw [e]
  refine ⟨drawn, rfl, by rw [hd, rng0_len], fun i s hi => hv i s ?_ hi⟩
  rw [rng0_len]
  exact (List.getElem?_eq_some_iff.mp hi).1
theorem Drawn.get {sizes ds : List Int} (h : Drawn sizes ds) {i : Nat} {s : Int} (hi : sizes[i]? = some s) : ∃ d : Int, getI ds (i : Int) = .ok d ∧ ds[i]? = some d ∧ 0 ≤ d ∧ d < s := by
  obtain ⟨d, e, h0, h1⟩ := h.at' i s hi
  exact ⟨d, getI_nat e, e, h0, h1⟩
theorem draws_ok (cell : Int) (sizes : List Int) (hs : ∀ s ∈ sizes, 0 < s ∧ s < 1000000) (hl : sizes.length ≤ 1000000) : ∃ ds, m_law_draws (cell, sizes, ()) = .ok ds ∧ Drawn sizes ds :=
  draws_w cell sizes (fun s h => ⟨(hs s h).1, by have := (hs s h).2; omega⟩) hl

theorem cell_ex (s : Script) (k : Int) (h : 0 ≤ k) : ∃ v, m_law_cell (s, k, ()) = .ok v := by
  obtain ⟨n, rfl⟩ := Int.eq_ofNat_of_zero_le h
  exact cell_ok s.ns n
theorem Drawn.g {sizes ds : List Int} (h : Drawn sizes ds) (k : Int) {s : Int} (h0 : 0 ≤ k) (hs : sizes[k.toNat]? = some s) : ∃ d, getI ds k = .ok d ∧ 0 ≤ d ∧ d < s := by
  obtain ⟨d, e, _, l, u⟩ := h.get hs
  exact ⟨d, by rw [← e, Int.toNat_of_nonneg h0], l, u⟩

/-- the sizes that the names are drawn by -/
def nameSizes (n : Nat) : List Int := [2, 36, 35] ++ (List.replicate n [7, 36, 36, 36]).flatten
theorem nameSizes_at {n k j : Nat} (hk : k < n) (hj : j < 4) : (nameSizes n)[3 + 4 * k + j]? = ([7, 36, 36, 36] : List Int)[j]? := by
  unfold nameSizes
  rw [List.getElem?_append_right (by simp; omega), rep_get n _ (by simp; omega)]
  congr 1
  simp
  omega
theorem names_step {n : Nat} {ds names : List Int} {nm : List Str} (hD : Drawn (nameSizes n) ds) (hn : n ≤ 1000) {k : Nat} (hk : k < n) (hl : nm.length = k) :
    ∃ t, m_law_names_l1 ((k : Int), nm, ds, LET, (n : Int), ()) = .ok (nm ++ [t], ds, LET, (n : Int), ()) ∧ IsRec t := by
  obtain ⟨d0, g0, -, l0, u0⟩ := hD.get (i := 0) rfl
  obtain ⟨d1, g1, -, l1, u1⟩ := hD.get (i := 1) rfl
  obtain ⟨d2, g2, -, l2, u2⟩ := hD.get (i := 2) rfl
  have g0' : getI ds (0 : Int) = .ok d0 := g0
  have g1' : getI ds (1 : Int) = .ok d1 := g1
  have g2' : getI ds (2 : Int) = .ok d2 := g2
  have q1 : CMul (k : Int) (1 + d2 / 5) := CMul_l (by omega) (by omega)
  have q2 : CMul (n : Int) (1 + d2 / 5) := CMul_l (by omega) (by omega)
  have q3 : CMul (36 : Int) d1 := CMul_l (by decide) (by decide)
  have q4 : CMul (7 : Int) (k : Int) := CMul_l (by decide) (by decide)
  have q5 : CMul (4 : Int) (k : Int) := CMul_l (by decide) (by decide)
  have q7 : CDiv d2 (5 : Int) := CDiv_of (by decide) (by decide)
  unfold m_law_names_l1
  simp only [Rs.bo, g0', g1', g2', if_pos q1, if_pos q2, if_pos q3, if_pos q4, if_pos q5, if_pos q7, if_pos (show (0 : Int) < 36 by decide), if_pos (show (0 : Int) < 1296 by decide), if_pos (show (0 : Int) < 4 by decide), if_pos (show (0 : Int) < 2 by decide), ok_if]
  generalize (if decide (d0 = 0) = true then decide ((n : Int) * (1 + d2 / 5) ≤ 36) else false) = b
  cases b
  rotate_left
  · simp only [if_true]
    obtain ⟨y, hy, hy1, hyS⟩ := let_get (k := (d1 + (k : Int) * (1 + d2 / 5)) % 36) (Int.emod_nonneg _ (by decide)) (Int.emod_lt_of_pos _ (by decide))
    rw [hy]
    simp only [Rs.bo]
    rw [appI_ok (by omega)]
    exact ⟨y, rfl, hyS, by omega, by omega⟩
  · simp only [Bool.false_eq_true, if_false]
    generalize hp : (36 * d1 + d2 + 7 * (k : Int)) % 1296 = place
    have p0 := Int.emod_nonneg (36 * d1 + d2 + 7 * (k : Int)) (show (1296 : Int) ≠ 0 by decide)
    have p1 := Int.emod_lt_of_pos (36 * d1 + d2 + 7 * (k : Int)) (show (0 : Int) < 1296 by decide)
    rw [hp] at p0 p1
    generalize hw : (if decide (1 < d2 % 4) = true then (1 : Int) else 0) = w
    have hw' : w = 0 ∨ w = 1 := by rw [← hw]; split <;> simp
    have q6 : CMul (4 * (k : Int)) w := CMul_r (by omega) (by omega)
    have q8 : CDiv place (36 : Int) := CDiv_of (by decide) (by decide)
    have at' : ∀ j : Nat, j < 4 → ∃ d : Int, getI ds ((3 + j : Nat) + 4 * (k : Int) * w) = .ok d ∧ ∃ s, ([7, 36, 36, 36] : List Int)[j]? = some s ∧ 0 ≤ d ∧ d < s := by
      intro j hj
      rcases hw' with e | e
      · subst e
        obtain ⟨s, hs⟩ : ∃ s, ([7, 36, 36, 36] : List Int)[j]? = some s := ⟨_, List.getElem?_eq_getElem hj⟩
        obtain ⟨d, h1, h2, h3⟩ := hD.at' (3 + 4 * 0 + j) s (by rw [nameSizes_at (by omega) hj]; exact hs)
        exact ⟨d, getI_at (by simp) h1, s, hs, h2, h3⟩
      · subst e
        obtain ⟨s, hs⟩ : ∃ s, ([7, 36, 36, 36] : List Int)[j]? = some s := ⟨_, List.getElem?_eq_getElem hj⟩
        obtain ⟨d, h1, h2, h3⟩ := hD.at' (3 + 4 * k + j) s (by rw [nameSizes_at hk hj]; exact hs)
        exact ⟨d, getI_at (by simp; omega) h1, s, hs, h2, h3⟩
    obtain ⟨d3, e3, s3, hs3, l3, u3⟩ := at' 0 (by decide)
    obtain ⟨d4, e4, s4, hs4, l4, u4⟩ := at' 1 (by decide)
    obtain ⟨d5, e5, s5, hs5, l5, u5⟩ := at' 2 (by decide)
    obtain ⟨d6, e6, s6, hs6, l6, u6⟩ := at' 3 (by decide)
    cases hs3; cases hs4; cases hs5; cases hs6
    have e3' : getI ds (3 + 4 * (k : Int) * w) = .ok d3 := e3
    have e4' : getI ds (4 + 4 * (k : Int) * w) = .ok d4 := e4
    have e5' : getI ds (5 + 4 * (k : Int) * w) = .ok d5 := e5
    have e6' : getI ds (6 + 4 * (k : Int) * w) = .ok d6 := e6
    obtain ⟨y4, hy4, n4, S4⟩ := let_get l4 u4
    obtain ⟨y5, hy5, n5, S5⟩ := let_get l5 u5
    obtain ⟨y6, hy6, n6, S6⟩ := let_get l6 u6
    obtain ⟨z1, hz1, m1, T1⟩ := let_get (k := place / 36) (by omega) (by omega)
    obtain ⟨z2, hz2, m2, T2⟩ := let_get (k := place % 36) (by omega) (by omega)
    simp only [if_pos q6, if_pos q8, Rs.bo, e3', e4', e5', e6', hy4, hy5, hy6, hz1, hz2]
    rw [catS_ok (by omega)]
    simp only [Rs.bo]
    have nf : (y4 ++ y5 ++ y6).length = 3 := by rw [app_len, app_len]; omega
    rw [catS_ok (by rw [app_len]; omega)]
    simp only [Rs.bo]
    rw [catS_ok (a := y4 ++ y5 ++ y6) (by omega)]
    simp only [Rs.bo, e3', if_pos q8, hz1, hz2]
    have Sf : Sg (y4 ++ y5 ++ y6) := (S4.app S5).app S6
    generalize hfr : cutS (y4 ++ y5 ++ y6 ++ (y4 ++ y5 ++ y6)) none (some d3) = fr
    have Sfr : Sg fr := by rw [← hfr]; exact (Sf.app Sf).cut _ _
    have nfr : fr.length ≤ 6 := by rw [← hfr]; exact Nat.le_trans (cut_to l3) (by omega)
    rw [catS_ok (a := z1) (by omega)]
    simp only [Rs.bo]
    have nt : (z1 ++ z2).length = 2 := by rw [app_len]; omega
    rw [catS_ok (a := fr) (by omega), catS_ok (a := z1 ++ z2) (by omega)]
    simp only [Rs.bo, g2']
    have R1 : IsRec (fr ++ (z1 ++ z2)) := ⟨Sfr.app (T1.app T2), by rw [app_len]; omega, by rw [app_len]; omega⟩
    have R2 : IsRec (z1 ++ z2 ++ fr) := ⟨(T1.app T2).app Sfr, by rw [app_len]; omega, by rw [app_len]; omega⟩
    have hm : d2 % 2 = 0 ∨ d2 % 2 = 1 := by omega
    rcases hm with e | e
    · rw [e, show getI [fr ++ (z1 ++ z2), z1 ++ z2 ++ fr] (0 : Int) = .ok (fr ++ (z1 ++ z2)) from rfl]
      simp only [Rs.bo]
      rw [appI_ok (by omega)]
      exact ⟨_, rfl, R1⟩
    · rw [e, show getI [fr ++ (z1 ++ z2), z1 ++ z2 ++ fr] (1 : Int) = .ok (z1 ++ z2 ++ fr) from rfl]
      simp only [Rs.bo]
      rw [appI_ok (by omega)]
      exact ⟨_, rfl, R2⟩
theorem names_ok (cell : Int) (n : Nat) (hn : n ≤ 1000) : ∃ nm : List Str, m_law_names (cell, (n : Int), ()) = .ok nm ∧ nm.length = n ∧ ∀ t ∈ nm, IsRec t := by
  unfold m_law_names
  simp only [Rs.bo]
  rw [repI_ok (by omega) (by omega) (by simp; omega)]
  simp only [Rs.bo]
  rw [catI_ok (by rw [rep_flen]; simp; omega)]
  simp only [Rs.bo]
  rw [show ((n : Int).toNat) = n from Int.toNat_natCast n]
  obtain ⟨ds, e, hD⟩ := draws_ok cell (nameSizes n) (fun s hs => by
    unfold nameSizes at hs
    rcases List.mem_append.mp hs with h | h
    · exact (by decide : ∀ s ∈ ([2, 36, 35] : List Int), 0 < s ∧ s < 1000000) s h
    · exact (by decide : ∀ s ∈ ([7, 36, 36, 36] : List Int), 0 < s ∧ s < 1000000) s (Wm.rep_mem h)) (by unfold nameSizes; rw [List.length_append, rep_flen]; simp; omega)
  rw [show m_law_draws (cell, [2, 36, 35] ++ (List.replicate n [7, 36, 36, 36]).flatten, ()) = _ from e]
  simp only [Rs.bo]
  rw [Rng_nat (by omega)]
  simp only [Rs.bo]
  obtain ⟨g, e2, nm, rfl, hl, hr⟩ := fold_inv (f := fun (γ : Ctx.T [.ow 4 (List Str), .ow 3 (List Int), .fz 2 Str, .fz 1 Int]) x => m_law_names_l1 (x, γ)) (xs := rng 0 (n : Int)) (g := (([] : List Str), ds, LET, (n : Int), ()))
    (fun i g => ∃ nm : List Str, g = (nm, ds, LET, (n : Int), ()) ∧ nm.length = i ∧ ∀ t ∈ nm, IsRec t) ⟨[], rfl, rfl, fun t h => by cases h⟩ (by
      rintro i a g ha ⟨nm, rfl, hl, hr⟩
      obtain ⟨hi, rfl⟩ := rng_get ha
      obtain ⟨t, et, ht⟩ := names_step (names := []) hD hn (k := i) (by omega) hl
      refine ⟨_, by rw [show ((0 : Int) + (i : Int)) = (i : Int) by omega]; exact et, _, rfl, by rw [List.length_append, hl]; rfl, fun u hu => ?_⟩
      rcases List.mem_append.mp hu with h | h
      · exact hr u h
      · rw [List.mem_singleton.mp h]; exact ht)
  rw [e2]
  rw [rng0_len] at hl
  exact ⟨nm, rfl, hl, hr⟩

theorem rows_ok (cell : Int) (nm : List Str) (count : Nat) (spread base : Int) (hn : 1 ≤ nm.length ∧ nm.length ≤ 1000) (hc : count ≤ 1000) (hs : 1 ≤ spread ∧ spread < 1000000) :
    ∃ rows : List (Int × Str), m_law_rows (cell, nm, (count : Int), spread, base, ()) = .ok rows ∧ rows.length = count ∧ ∀ r ∈ rows, base ≤ r.1 ∧ r.1 < base + spread ∧ r.2 ∈ nm := by
  unfold m_law_rows
  simp only [Rs.bo]
  rw [repI_ok (by omega) (by omega) (by simp; omega)]
  simp only [Rs.bo]
  rw [show ((count : Int).toNat) = count from Int.toNat_natCast count]
  obtain ⟨ds, e, hD⟩ := draws_ok cell ((List.replicate count [spread, (nm.length : Int)]).flatten) (fun s h => by
    have := Wm.rep_mem h
    simp only [List.mem_cons, List.not_mem_nil, or_false] at this
    omega) (by rw [rep_flen]; simp; omega)
  rw [e]
  simp only [Rs.bo]
  rw [Rng_nat (by omega)]
  simp only [Rs.bo]
  rw [if_pos (by rw [rng0_len]; omega)]
  obtain ⟨rows, h1, h2, h3⟩ := comp_ex (t := fun (_ : Int) => Rs.ok true) (f := fun x => m_law_rows_e1 (x, ds, nm, base, ())) (fun _ (r : Int × Str) => base ≤ r.1 ∧ r.1 < base + spread ∧ r.2 ∈ nm) (xs := rng 0 (count : Int)) (fun _ _ => rfl) (by
    intro i x hx
    obtain ⟨hi, rfl⟩ := rng_get hx
    have hi' : i < count := by omega
    obtain ⟨a, ha, a0, a1⟩ := hD.at' (2 * i) spread (by rw [rep_get _ _ (by simp; omega)]; simp)
    obtain ⟨b, hb, b0, b1⟩ := hD.at' (2 * i + 1) (nm.length : Int) (by rw [rep_get _ _ (by simp; omega)]; simp [Nat.add_mod])
    show ∃ y, m_law_rows_e1 ((0 : Int) + (i : Int), ds, nm, base, ()) = .ok y ∧ _
    obtain ⟨z, hz, hz'⟩ := getI_ex (xs := nm) b0 b1
    have q : CMul (2 : Int) ((0 : Int) + (i : Int)) := CMul_l (by decide) (by decide)
    unfold m_law_rows_e1
    simp only [Rs.bo, if_pos q]
    rw [getI_at (xs := ds) (i := 2 * i) (by omega) ha, getI_at (xs := ds) (i := 2 * i + 1) (by omega) hb]
    simp only [Rs.bo, hz']
    exact ⟨_, rfl, by show base ≤ base + a; omega, by show base + a < base + spread; omega, List.mem_of_getElem? hz⟩)
  refine ⟨rows, h1, by rw [h2, rng0_len], fun r hr => ?_⟩
  obtain ⟨i, hi⟩ := List.mem_iff_getElem?.mp hr
  exact h3 i r hi

theorem unlike_ok (cell : Int) (nm : List Str) (count : Nat) (spread base : Int) (hn : count ≤ nm.length) (hc : count ≤ 1000) (hs : 1 ≤ spread ∧ spread < 1000000) :
    ∃ rows : List (Int × Str), m_law_unlike_rows (cell, nm, (count : Int), spread, base, ()) = .ok rows ∧ rows.length = count ∧ (∀ r ∈ rows, base ≤ r.1 ∧ r.1 < base + spread ∧ r.2 ∈ nm) ∧ ∀ (i : Nat) (r : Int × Str), rows[i]? = some r → nm[i]? = some r.2 := by
  unfold m_law_unlike_rows
  simp only [Rs.bo]
  rw [repI_one (by omega) (by omega)]
  simp only [Rs.bo]
  rw [show ((count : Int).toNat) = count from Int.toNat_natCast count]
  obtain ⟨ds, e, hD⟩ := draws_ok cell (List.replicate count spread) (fun s h => by
    rw [(List.mem_replicate.mp h).2]; omega) (by rw [List.length_replicate]; omega)
  rw [e]
  simp only [Rs.bo]
  rw [Rng_nat (by omega)]
  simp only [Rs.bo]
  rw [if_pos (by rw [rng0_len]; omega)]
  obtain ⟨rows, h1, h2, h3⟩ := comp_ex (t := fun (_ : Int) => Rs.ok true) (f := fun x => m_law_unlike_rows_e1 (x, ds, nm, base, ())) (fun i (r : Int × Str) => (base ≤ r.1 ∧ r.1 < base + spread ∧ r.2 ∈ nm) ∧ nm[i]? = some r.2) (xs := rng 0 (count : Int)) (fun _ _ => rfl) (by
    intro i x hx
    obtain ⟨hi, rfl⟩ := rng_get hx
    have hi' : i < count := by omega
    obtain ⟨a, ha, a0, a1⟩ := hD.at' i spread (by rw [List.getElem?_replicate, if_pos hi'])
    obtain ⟨z, hz⟩ : ∃ z, nm[i]? = some z := ⟨_, List.getElem?_eq_getElem (by omega)⟩
    show ∃ y, m_law_unlike_rows_e1 ((0 : Int) + (i : Int), ds, nm, base, ()) = .ok y ∧ _
    unfold m_law_unlike_rows_e1
    simp only [Rs.bo]
    rw [getI_at (xs := ds) (i := i) (by omega) ha]
    simp only [Rs.bo]
    rw [getI_at (xs := nm) (i := i) (by omega) hz]
    exact ⟨_, rfl, ⟨by show base ≤ base + a; omega, by show base + a < base + spread; omega, List.mem_of_getElem? hz⟩, hz⟩)
  refine ⟨rows, h1, by rw [h2, rng0_len], fun r hr => ?_, fun i r hi => (h3 i r hi).2⟩
  obtain ⟨i, hi⟩ := List.mem_iff_getElem?.mp hr
  exact (h3 i r hi).1

theorem names_int (c : Int) (n : Int) (h0 : 0 ≤ n) (h1 : n ≤ 1000) : ∃ nm : List Str, m_law_names (c, n, ()) = .ok nm ∧ (nm.length : Int) = n ∧ ∀ t ∈ nm, IsRec t := by
  obtain ⟨k, rfl⟩ := Int.eq_ofNat_of_zero_le h0
  obtain ⟨nm, e, l, r⟩ := names_ok c k (by omega)
  exact ⟨nm, e, by omega, r⟩
theorem rows_int (cell : Int) (nm : List Str) (n spread base : Int) (hn : 1 ≤ nm.length ∧ nm.length ≤ 1000) (h0 : 0 ≤ n) (h1 : n ≤ 1000) (hs : 1 ≤ spread ∧ spread < 1000000) :
    ∃ rows : List (Int × Str), m_law_rows (cell, nm, n, spread, base, ()) = .ok rows ∧ (rows.length : Int) = n ∧ ∀ r ∈ rows, base ≤ r.1 ∧ r.1 < base + spread ∧ r.2 ∈ nm := by
  obtain ⟨k, rfl⟩ := Int.eq_ofNat_of_zero_le h0
  obtain ⟨r, e, l, z⟩ := rows_ok cell nm k spread base hn (by omega) hs
  exact ⟨r, e, by omega, z⟩
theorem unlike_int (cell : Int) (nm : List Str) (n spread base : Int) (hn : n ≤ nm.length) (h0 : 0 ≤ n) (h1 : n ≤ 1000) (hs : 1 ≤ spread ∧ spread < 1000000) :
    ∃ rows : List (Int × Str), m_law_unlike_rows (cell, nm, n, spread, base, ()) = .ok rows ∧ (rows.length : Int) = n ∧ ∀ r ∈ rows, base ≤ r.1 ∧ r.1 < base + spread ∧ r.2 ∈ nm := by
  obtain ⟨k, rfl⟩ := Int.eq_ofNat_of_zero_le h0
  obtain ⟨r, e, l, z, -⟩ := unlike_ok cell nm k spread base (by omega) (by omega) hs
  exact ⟨r, e, by omega, z⟩

theorem Sg.any {t : Str} (h : Sg t) : (chars t).any (misses LET) = false := by
  rw [List.any_eq_false]
  intro x hx
  unfold chars at hx
  obtain ⟨c, hc, rfl⟩ := List.mem_map.mp hx
  show ¬ (!decide (c ∈ LET.cps.toList)) = true
  rw [decide_eq_true (h c hc)]
  decide
theorem valid_ok {t : Str} (h : IsRec t) : m_valid_record (t, ()) = .ok true := by
  unfold m_valid_record
  simp only [Rs.bo]
  have hf := foldR_test (f := fun (γ : Ctx.T [.fz 0 Str]) x => m_valid_record_l1 (x, γ)) (xs := chars t) (g := (t, ())) (misses LET) (r := false) (by
    intro x hx
    unfold m_valid_record_l1
    simp only [Rs.bo]
    rw [misses_chars hx]
    simp only [Rs.bo]
    exact ok_if)
  rw [hf, Sg.any h.sg, left_if]
  have h1 := h.lo
  have h2 := h.hi
  rw [decide_eq_false (show ¬ (t.length : Int) < 1 by omega)]
  simp only [Bool.false_eq_true, if_false]
  rw [decide_eq_false (show ¬ (8 : Int) < (t.length : Int) by omega)]
  simp only [Rs.bo, Bool.false_eq_true, if_false]
  rfl

/-- valid_record, of any text -/
def validB (t : Str) : Bool := decide (1 ≤ t.length) && decide (t.length ≤ 8) && !((chars t).any (misses LET))
theorem valid_any (t : Str) : m_valid_record (t, ()) = .ok (validB t) := by
  unfold m_valid_record validB
  simp only [Rs.bo]
  have hf := foldR_test (f := fun (γ : Ctx.T [.fz 0 Str]) x => m_valid_record_l1 (x, γ)) (xs := chars t) (g := (t, ())) (misses LET) (r := false) (by
    intro x hx
    unfold m_valid_record_l1
    simp only [Rs.bo]
    rw [misses_chars hx]
    simp only [Rs.bo]
    exact ok_if)
  rw [hf, left_if]
  by_cases h1 : (t.length : Int) < 1
  · rw [decide_eq_true h1, decide_eq_false (show ¬ 1 ≤ t.length by omega)]
    rfl
  · rw [decide_eq_false h1, decide_eq_true (show 1 ≤ t.length by omega)]
    simp only [Bool.false_eq_true, if_false]
    by_cases h2 : (8 : Int) < (t.length : Int)
    · rw [decide_eq_true h2, decide_eq_false (show ¬ t.length ≤ 8 by omega)]
      rfl
    · rw [decide_eq_false h2, decide_eq_true (show t.length ≤ 8 by omega)]
      simp only [Rs.bo, Bool.false_eq_true, if_false]
      cases (chars t).any (misses LET) <;> rfl
theorem IsRec.validB {t : Str} (h : IsRec t) : validB t = true := by
  have := (valid_any t).symm.trans (valid_ok h)
  cases e : Wk.validB t with
  | true => rfl
  | false => rw [e] at this; cases this

/-- rows as a sheaf takes them -/
structure IsRows (rs : List (Int × Str)) : Prop where
  ne : 1 ≤ rs.length
  le : rs.length ≤ 16777216
  rec' : ∀ r ∈ rs, IsRec r.2
theorem enum_get {xs : List (Int × Str)} {i : Nat} {p : Int × (Int × Str)} (h : (enumI xs)[i]? = some p) : p.1 = (i : Int) ∧ xs[i]? = some p.2 := by
  unfold enumI at h
  simp only [List.getElem?_map, List.getElem?_zipIdx, Option.map_eq_some_iff] at h
  obtain ⟨q, ⟨r, hr, rfl⟩, rfl⟩ := h
  exact ⟨by simp, hr⟩
theorem init_ok {rs : List (Int × Str)} (h : IsRows rs) : mi_Sheaf_init (rs, ()) = .ok ⟨⟨rs⟩⟩ := by
  unfold mi_Sheaf_init m_Sheaf_init
  have h1 := h.ne
  simp only [Rs.bo]
  rw [decide_eq_false (show ¬ (rs.length : Int) = 0 by omega)]
  simp only [Bool.false_eq_true, if_false, Rs.bo]
  obtain ⟨g, e, hg⟩ := fold_inv (f := fun (γ : Ctx.T [.ow 0 (Ini "Sheaf"), .bo 1 (List (Int × Str))]) x => m_Sheaf_init_l1 (x.2, x.1, γ)) (xs := enumI rs) (g := ((⟨⟩ : Ini "Sheaf"), rs, ())) (fun _ g => g = ((⟨⟩ : Ini "Sheaf"), rs, ())) rfl (by
    intro i x g hx hg
    rw [hg]
    refine ⟨_, ?_, rfl⟩
    obtain ⟨-, hx2⟩ := enum_get hx
    show m_Sheaf_init_l1 (x.2, x.1, (⟨⟩ : Ini "Sheaf"), rs, ()) = _
    unfold m_Sheaf_init_l1
    simp only [Rs.bo]
    rw [valid_ok (h.rec' _ (List.mem_of_getElem? hx2))]
    simp only [Rs.bo, Bool.not_true, Bool.false_eq_true, if_false])
  rw [e, hg]
  rfl
theorem sheaf_rows (s : Sheaf) : m_Sheaf_rows (s, ()) = .ok s.rows.items := rfl

theorem fold_exat {γ α : Type} {f : γ → α → Rs γ} {g : γ} {e : Exc} : ∀ {xs : List α} (k : Nat) {a : α}, xs[k]? = some a → f g a = .ex e → (∀ i b, i < k → xs[i]? = some b → f g b = .ok g) → Rs.fold f g xs = .ex e
  | [], k, a, h, _, _ => by simp at h
  | x :: xs, 0, a, h, h1, _ => by
    have : x = a := by simpa using h
    subst this
    show (f g x).bind _ = _
    rw [h1]
    rfl
  | x :: xs, k + 1, a, h, h1, h2 => by
    show (f g x).bind _ = _
    rw [h2 0 x (by omega) rfl]
    exact fold_exat (xs := xs) k (by simpa using h) h1 fun i b hi hb => h2 (i + 1) b (by omega) (by simpa using hb)
theorem fold_same {γ α : Type} {f : γ → α → Rs γ} {g : γ} : ∀ {xs : List α}, (∀ x ∈ xs, f g x = .ok g) → Rs.fold f g xs = .ok g
  | [], _ => rfl
  | x :: xs, h => by
    show (f g x).bind _ = _
    rw [h x List.mem_cons_self]
    exact fold_same fun y hy => h y (List.mem_cons_of_mem _ hy)
def exInt (n : String) (f : Str) (j : Int) : Exc := ⟨n, [(f, .int j)]⟩
theorem rai_int {β : Type} (n : String) (f : Str) (j : Int) (h : j.natAbs < 1000000000000) : (Rs.rai n f (.ok j) : Rs β) = .ex (exInt n f j) := by
  unfold Rs.rai
  simp only [Rs.bo]
  rw [if_pos (show XV.fit j = true from decide_eq_true h)]
  rfl
theorem at_int (n : String) (f : Str) (j : Int) : (Exc.at (exInt n f j) f : Rs Int) = .ok j := by
  unfold Exc.at exInt
  dsimp only
  rw [List.lookup_cons, beq_self_eq_true]
  rfl
theorem Rs.bx {α β : Type} (e : Exc) (f : α → Rs β) : (Rs.ex e).bind f = .ex e := rfl
theorem try_ok {α : Type} (n : String) (oth : List String) (a : α) (h : Exc → Rs α) : Rs.try n oth (.ok a) h = .ok a := rfl
theorem try_ex {α : Type} (n : String) (oth : List String) (f : Str) (j : Int) (h : Exc → Rs α) : Rs.try n oth (.ex (exInt n f j)) h = h (exInt n f j) := by
  unfold Rs.try
  exact if_pos rfl

/-- j is the first row whose record is not valid -/
def BadAt (rs : List (Int × Str)) (j : Nat) : Prop := (∃ r, rs[j]? = some r ∧ validB r.2 = false) ∧ ∀ i r, i < j → rs[i]? = some r → validB r.2 = true
theorem bad_or (rs : List (Int × Str)) : (∃ j, BadAt rs j) ∨ ∀ r ∈ rs, validB r.2 = true := by
  by_cases h : ∃ (j : Nat) (r : Int × Str), rs[j]? = some r ∧ validB r.2 = false
  · obtain ⟨j, h1, h2⟩ := least_ex h
    exact .inl ⟨j, h1, fun i r hi hr => by
      cases e : validB r.2 with
      | true => rfl
      | false => exact (h2 i hi ⟨r, hr, e⟩).elim⟩
  · refine .inr fun r hr => ?_
    obtain ⟨i, hi⟩ := List.mem_iff_getElem?.mp hr
    cases e : validB r.2 with
    | true => rfl
    | false => exact (h ⟨i, r, hi, e⟩).elim
theorem BadAt.lt {rs : List (Int × Str)} {j : Nat} (h : BadAt rs j) : j < rs.length := by
  obtain ⟨⟨r, hr, _⟩, _⟩ := h
  exact (List.getElem?_eq_some_iff.mp hr).1
theorem enum_at {xs : List (Int × Str)} {i : Nat} {r : Int × Str} (h : xs[i]? = some r) : (enumI xs)[i]? = some ((i : Int), r) := by
  unfold enumI
  simp only [List.getElem?_map, List.getElem?_zipIdx, h, Option.map_some, Nat.zero_add]
theorem init_l1 (r : Int × Str) (k : Nat) (hk : k < 1000000) (rs : List (Int × Str)) : m_Sheaf_init_l1 (r, (k : Int), (⟨⟩ : Ini "Sheaf"), rs, ()) = if validB r.2 = true then .ok ((⟨⟩ : Ini "Sheaf"), rs, ()) else .ex (exInt "InvalidSheaf" "index" k) := by
  unfold m_Sheaf_init_l1
  simp only [Rs.bo]
  rw [valid_any]
  simp only [Rs.bo]
  cases validB r.2 with
  | true => rfl
  | false =>
    simp only [Bool.not_false, if_true, Bool.false_eq_true, if_false]
    rw [rai_int _ _ _ (by omega)]
    rfl
theorem init_bad {rs : List (Int × Str)} {j : Nat} (h : BadAt rs j) (hl : rs.length ≤ 1000) : mi_Sheaf_init (rs, ()) = .ex (exInt "InvalidSheaf" "index" j) := by
  have hj := h.lt
  unfold mi_Sheaf_init m_Sheaf_init
  simp only [Rs.bo]
  rw [decide_eq_false (show ¬ (rs.length : Int) = 0 by omega)]
  simp only [Bool.false_eq_true, if_false, Rs.bo]
  obtain ⟨⟨r, hr, hb⟩, hi⟩ := h
  rw [fold_exat (f := fun (γ : Ctx.T [.ow 0 (Ini "Sheaf"), .bo 1 (List (Int × Str))]) x => m_Sheaf_init_l1 (x.2, x.1, γ)) (e := exInt "InvalidSheaf" "index" j) j (enum_at hr) (by
    show m_Sheaf_init_l1 (r, (j : Int), (⟨⟩ : Ini "Sheaf"), rs, ()) = _
    rw [init_l1 r j (by omega), if_neg (by rw [hb]; decide)]) (fun i b hij hb2 => by
    obtain ⟨e1, e2⟩ := enum_get hb2
    show m_Sheaf_init_l1 (b.2, b.1, (⟨⟩ : Ini "Sheaf"), rs, ()) = _
    rw [e1, init_l1 b.2 i (by omega), if_pos (hi i _ hij e2)])]
  rfl
theorem init_empty : mi_Sheaf_init ([], ()) = .ex (exInt "InvalidSheaf" "index" 0) := by
  unfold mi_Sheaf_init m_Sheaf_init
  simp only [Rs.bo]
  rw [decide_eq_true (show (([] : List (Int × Str)).length : Int) = 0 from rfl)]
  simp only [if_true]
  rw [rai_int _ _ _ (by decide)]
  rfl
theorem init_good {rs : List (Int × Str)} (h : ∀ r ∈ rs, validB r.2 = true) (h1 : 1 ≤ rs.length) (hl : rs.length ≤ 1000) : mi_Sheaf_init (rs, ()) = .ok ⟨⟨rs⟩⟩ := by
  unfold mi_Sheaf_init m_Sheaf_init
  simp only [Rs.bo]
  rw [decide_eq_false (show ¬ (rs.length : Int) = 0 by omega)]
  simp only [Bool.false_eq_true, if_false, Rs.bo]
  rw [fold_same (f := fun (γ : Ctx.T [.ow 0 (Ini "Sheaf"), .bo 1 (List (Int × Str))]) x => m_Sheaf_init_l1 (x.2, x.1, γ)) (g := ((⟨⟩ : Ini "Sheaf"), rs, ())) (xs := enumI rs) (fun x hx => by
    obtain ⟨i, hi⟩ := List.mem_iff_getElem?.mp hx
    obtain ⟨e1, e2⟩ := enum_get hi
    have hlt := (List.getElem?_eq_some_iff.mp e2).1
    show m_Sheaf_init_l1 (x.2, x.1, (⟨⟩ : Ini "Sheaf"), rs, ()) = _
    rw [e1, init_l1 x.2 i (by omega), if_pos (h _ (List.mem_of_getElem? e2))])]
  rfl

theorem shaped_ok {rows : List (Int × Str)} {shape base gap : Int} (hs : 0 ≤ shape ∧ shape ≤ 4) (h1 : 1 ≤ rows.length) (h2 : rows.length ≤ 40) (hg : 0 ≤ gap ∧ gap ≤ 40) (hr : ∀ r ∈ rows, IsRec r.2) : ∃ p, m_law_shaped (rows, shape, base, gap, ()) = .ok p ∧ p.length = rows.length ∧ (∀ r ∈ p, IsRec r.2) ∧ ∀ r ∈ p, r ∈ rows ∨ base ≤ r.1 ∧ r.1 ≤ base + 40 := by
  unfold m_law_shaped
  simp only [Rs.bo]
  refine Rs.exi (fun _ => ?_) fun _ => Rs.exi (fun _ => ?_) fun _ => Rs.exi (fun _ => ?_) fun _ => ?_
  · simp (disch := first | omega | (simp only [List.length_map]; omega)) only [Rs.bo, Rs.okl, comp_okk, comp_oki, comp_okt, comp_okid, filter_tt, if_pos, decide_eq_true_eq, decide_true, decide_false, if_true, Bool.false_eq_true, if_false, left_okl, left_okr, nox_ok, catI_ok, appI_ok, Rng_ok, RngL_ok, CMul_l, CDiv_of, theI_some, Bool.not_true, Bool.not_false, getI_0, getI_1, List.length_map, m_law_shaped_e1]
    refine ⟨_, rfl, by rw [List.length_map], fun r h => ?_, fun r h => ?_⟩
    all_goals obtain ⟨x, hx, rfl⟩ := List.mem_map.mp h
    · exact hr x hx
    · exact .inr ⟨by show base ≤ base; omega, by show base ≤ base + 40; omega⟩
  · simp (disch := first | omega | (simp only [List.length_map]; omega)) only [Rs.bo, Rs.okl, comp_okk, comp_oki, comp_okt, comp_okid, filter_tt, if_pos, decide_eq_true_eq, decide_true, decide_false, if_true, Bool.false_eq_true, if_false, left_okl, left_okr, nox_ok, catI_ok, appI_ok, Rng_ok, RngL_ok, CMul_l, CDiv_of, theI_some, Bool.not_true, Bool.not_false, getI_0, getI_1, List.length_map]
    rw [if_pos (by rw [rng0_len]; omega)]
    obtain ⟨rs, e1, e2, e3⟩ := comp_ex (t := fun (_ : Int) => Rs.ok true) (f := fun x => m_law_shaped_e2 (x, rows, base, gap, ())) (fun _ (r : Int × Str) => IsRec r.2 ∧ (base ≤ r.1 ∧ r.1 ≤ base + 40)) (xs := rng 0 rows.length) (fun _ _ => rfl) (by
      intro i x hx
      obtain ⟨hi, rfl⟩ := rng_get hx
      obtain ⟨z, hz⟩ : ∃ z, rows[i]? = some z := ⟨_, List.getElem?_eq_getElem (by omega)⟩
      show ∃ y, m_law_shaped_e2 ((0 : Int) + (i : Int), rows, base, gap, ()) = .ok y ∧ _
      unfold m_law_shaped_e2
      simp only [Rs.bo, getI_at (i := i) (show (0 : Int) + (i : Int) = (i : Int) by omega) hz, if_pos (show (0 : Int) < 2 by decide), if_pos (CMul_l (j := (z.1 - base + (0 + (i : Int))) % 2) (show -1000000000000 ≤ gap by omega) (show gap ≤ 1000000000000 by omega))]
      refine ⟨_, rfl, hr z (List.mem_of_getElem? hz), ?_, ?_⟩
      · show base ≤ base + gap * _
        have q : 0 ≤ gap * ((z.1 - base + (0 + (i : Int))) % 2) := Int.mul_nonneg (by omega) (by omega)
        omega
      · show base + gap * _ ≤ base + 40
        rcases Int.emod_two_eq (z.1 - base + (0 + (i : Int))) with e | e <;> rw [e] <;> omega)
    rw [show Rs.comp (fun x => Rs.ok true) (fun x => m_law_shaped_e2 (x, rows, base, gap, ())) (rng 0 rows.length) = _ from e1]
    rw [rng0_len] at e2
    exact ⟨rs, rfl, e2, fun r h => by obtain ⟨i, hi⟩ := List.mem_iff_getElem?.mp h; exact (e3 i r hi).1, fun r h => by obtain ⟨i, hi⟩ := List.mem_iff_getElem?.mp h; exact .inr (e3 i r hi).2⟩
  · simp (disch := first | omega | (simp only [List.length_map]; omega)) only [Rs.bo, Rs.okl, comp_okk, comp_oki, comp_okt, comp_okid, filter_tt, if_pos, decide_eq_true_eq, decide_true, decide_false, if_true, Bool.false_eq_true, if_false, left_okl, left_okr, nox_ok, catI_ok, appI_ok, Rng_ok, RngL_ok, CMul_l, CDiv_of, theI_some, Bool.not_true, Bool.not_false, getI_0, getI_1, List.length_map]
    rw [if_pos (by rw [rng0_len]; omega)]
    obtain ⟨rs, e1, e2, e3⟩ := comp_ex (t := fun (_ : Int) => Rs.ok true) (f := fun x => m_law_shaped_e3 (x, rows, base, ())) (fun _ (r : Int × Str) => IsRec r.2 ∧ (base ≤ r.1 ∧ r.1 ≤ base + 40)) (xs := rng 0 rows.length) (fun _ _ => rfl) (by
      intro i x hx
      obtain ⟨hi, rfl⟩ := rng_get hx
      obtain ⟨z, hz⟩ : ∃ z, rows[i]? = some z := ⟨_, List.getElem?_eq_getElem (by omega)⟩
      show ∃ y, m_law_shaped_e3 ((0 : Int) + (i : Int), rows, base, ()) = .ok y ∧ _
      unfold m_law_shaped_e3
      simp only [Rs.bo, getI_at (i := i) (show (0 : Int) + (i : Int) = (i : Int) by omega) hz]
      exact ⟨_, rfl, hr z (List.mem_of_getElem? hz), by show base ≤ base + (0 + (i : Int)); omega, by show base + (0 + (i : Int)) ≤ base + 40; omega⟩)
    rw [show Rs.comp (fun x => Rs.ok true) (fun x => m_law_shaped_e3 (x, rows, base, ())) (rng 0 rows.length) = _ from e1]
    rw [rng0_len] at e2
    exact ⟨rs, rfl, e2, fun r h => by obtain ⟨i, hi⟩ := List.mem_iff_getElem?.mp h; exact (e3 i r hi).1, fun r h => by obtain ⟨i, hi⟩ := List.mem_iff_getElem?.mp h; exact .inr (e3 i r hi).2⟩
  · exact ⟨rows, rfl, rfl, hr, fun r h => .inl h⟩

theorem wide_at (ns : List Int) (at' : Int) (ha : 0 ≤ at') : ∃ p, m_law_wide_rows (⟨ns⟩, at', ()) = .ok p ∧ 1 ≤ p.length ∧ p.length ≤ 40 ∧ ∀ r ∈ p, IsRec r.2 := by
  unfold m_law_wide_rows
  obtain ⟨c0, hc0⟩ := cell_ex ⟨ns⟩ at' ha
  obtain ⟨c1, hc1⟩ := cell_ex ⟨ns⟩ (at' + 1) (by omega)
  obtain ⟨c2, hc2⟩ := cell_ex ⟨ns⟩ (at' + 2) (by omega)
  obtain ⟨ds, hds, hdD⟩ := draws_ok c0 [8, 6, 5, 40, 12, 13, 32, 8, 4, 40, 2, 40] (by intro s hs; simp only [List.mem_cons, List.not_mem_nil, or_false] at hs; omega) (by simp)
  obtain ⟨d0, gd0, ld0, ud0⟩ := Drawn.g hdD 0 (by decide) rfl
  obtain ⟨d1, gd1, ld1, ud1⟩ := Drawn.g hdD 1 (by decide) rfl
  obtain ⟨d2, gd2, ld2, ud2⟩ := Drawn.g hdD 2 (by decide) rfl
  obtain ⟨d3, gd3, ld3, ud3⟩ := Drawn.g hdD 3 (by decide) rfl
  obtain ⟨d4, gd4, ld4, ud4⟩ := Drawn.g hdD 4 (by decide) rfl
  obtain ⟨d5, gd5, ld5, ud5⟩ := Drawn.g hdD 5 (by decide) rfl
  obtain ⟨d6, gd6, ld6, ud6⟩ := Drawn.g hdD 6 (by decide) rfl
  obtain ⟨d7, gd7, ld7, ud7⟩ := Drawn.g hdD 7 (by decide) rfl
  obtain ⟨d8, gd8, ld8, ud8⟩ := Drawn.g hdD 8 (by decide) rfl
  obtain ⟨d9, gd9, ld9, ud9⟩ := Drawn.g hdD 9 (by decide) rfl
  obtain ⟨d10, gd10, ld10, ud10⟩ := Drawn.g hdD 10 (by decide) rfl
  obtain ⟨d11, gd11, ld11, ud11⟩ := Drawn.g hdD 11 (by decide) rfl
  simp only [Rs.bo, hc0, hds, gd0, gd1, gd2, gd3, gd4]
  refine Rs.exb (fun γ => ∃ s c : Int, γ = (s, c, ds, ⟨ns⟩, at', ()) ∧ 1 ≤ s ∧ s ≤ 12 ∧ 1 ≤ c ∧ c ≤ 40) ?_ ?_
  · exact Rs.exi (fun _ => ⟨_, rfl, _, _, rfl, by omega, by omega, by omega, by omega⟩) fun _ => ⟨_, rfl, _, _, rfl, by omega, by omega, by omega, by omega⟩
  rintro _ ⟨s, c, rfl, s0, s1, c0', c1'⟩
  simp only [Rs.bo, gd5, gd6]
  rw [if_pos (CMul_l (by decide) (by decide))]
  simp only [Rs.bo]
  refine Rs.exb (fun γ => ∃ b : Int, γ = (b, s, c, ds, ⟨ns⟩, at', ()) ∧ -900 ≤ b ∧ b ≤ 900) ?_ ?_
  · exact Rs.exi (fun h => ⟨_, rfl, _, rfl, by have := of_decide_eq_true h; omega, by have := of_decide_eq_true h; omega⟩) fun _ => ⟨_, rfl, _, rfl, by omega, by omega⟩
  rintro _ ⟨b, rfl, b0, b1⟩
  simp only [Rs.bo, gd7, gd8]
  refine Rs.exb (fun γ => ∃ sh : Int, γ = (sh, b, s, c, ds, ⟨ns⟩, at', ()) ∧ 0 ≤ sh ∧ sh ≤ 4) ?_ ?_
  · exact Rs.exi (fun _ => ⟨_, rfl, _, rfl, by omega, by omega⟩) fun _ => ⟨_, rfl, _, rfl, by omega, by omega⟩
  rintro _ ⟨sh, rfl, h0, h1⟩
  simp only [Rs.bo]
  refine Rs.exb (fun γ => ∃ c : Int, γ = (sh, b, s, c, ds, ⟨ns⟩, at', ()) ∧ 1 ≤ c ∧ c ≤ 40) ?_ ?_
  · exact Rs.exi (fun _ => ⟨_, rfl, _, rfl, by omega, by omega⟩) fun _ => ⟨_, rfl, _, rfl, by omega, by omega⟩
  clear c0' c1' c
  rintro _ ⟨c, rfl, c0', c1'⟩
  simp only [Rs.bo, gd9, if_pos (show (0 : Int) < 12 by decide)]
  refine Rs.exb (fun γ => ∃ c : Int, γ = (sh, b, s, c, ds, ⟨ns⟩, at', ()) ∧ 1 ≤ c ∧ c ≤ 40) ?_ ?_
  · exact Rs.exi (fun _ => ⟨_, rfl, _, rfl, by omega, by omega⟩) fun _ => ⟨_, rfl, _, rfl, by omega, by omega⟩
  clear c0' c1' c
  rintro _ ⟨c, rfl, c0', c1'⟩
  obtain ⟨nm, e1, e2, e3⟩ := names_int c2 c (by omega) (by omega)
  simp only [Rs.bo, hc2, e1, gd10]
  refine Rs.exb (fun γ => ∃ (rows : List (Int × Str)), γ = (rows, sh, b, ds, ()) ∧ (rows.length : Int) = c ∧ ∀ r ∈ rows, IsRec r.2) ?_ ?_
  · refine Rs.exi (fun _ => ?_) fun _ => ?_
    · obtain ⟨rowsA, f1, f2, f3⟩ := unlike_int c1 nm c s b (by omega) (by omega) (by omega) (by omega)
      simp only [Rs.bo, hc1, f1]
      exact ⟨_, rfl, rowsA, rfl, f2, fun r hr => e3 _ (f3 r hr).2.2⟩
    · have q1 := Int.emod_nonneg d11 (show c ≠ 0 by omega)
      have q2 := Int.emod_lt_of_pos d11 (show 0 < c by omega)
      obtain ⟨rowsB, k1, k2, k3⟩ := rows_int c1 (nm.take (1 + d11 % c).toNat) c s b (by rw [List.length_take]; omega) (by omega) (by omega) (by omega)
      have hcut : cutI nm none (some (1 + d11 % c)) = nm.take (1 + d11 % c).toNat := cutI_take (by omega)
      simp only [Rs.bo, hc1, gd11, if_pos (show 0 < c by omega), hcut, k1]
      exact ⟨_, rfl, rowsB, rfl, k2, fun r hr => e3 _ (List.mem_of_mem_take (k3 r hr).2.2)⟩
  rintro _ ⟨rows, rfl, r0, r1⟩
  unfold m_law_wide_rows_b1
  simp only [Rs.bo, gd9]
  obtain ⟨p, k1, k2, k3, -⟩ := shaped_ok (rows := rows) (shape := sh) (base := b) (gap := 1 + d9) (by omega) (by omega) (by omega) (by omega) r1
  exact ⟨p, k1, by omega, by omega, k3⟩

theorem same_rows_ok (rs : List (Int × Str)) (h : rs.length ≤ 16777216) : m_law_same_rows (rs, rs, ()) = .ok true := by
  unfold m_law_same_rows
  simp only [Rs.bo, Bool.not_true, Bool.false_eq_true, if_false, decide_true]
  rw [Rng_nat h]
  simp only [Rs.bo]
  rw [foldR_all (f := fun (γ : Ctx.T [.bo 0 (List (Int × Str)), .bo 1 (List (Int × Str))]) x => m_law_same_rows_l1 (x, γ)) (g := (rs, rs, ())) (xs := rng 0 (rs.length : Int)) (fun x hx => by
    have hx := mem_rng.mp hx
    obtain ⟨r, e, -, -⟩ := getI_mem (xs := rs) (k := x) hx.1 hx.2
    show m_law_same_rows_l1 (x, rs, rs, ()) = _
    unfold m_law_same_rows_l1
    simp only [Rs.bo, e]
    simp only [Rs.bo, e, Bool.not_true, Bool.not_false, Bool.false_eq_true, if_false, if_true, decide_true])]
  rfl
theorem holds_ok {rows : List (Int × Str)} (h : rows.length ≤ 1000) : m_law_holds (⟨⟨rows⟩⟩, rows, ()) = .ok true := by
  unfold m_law_holds m_Sheaf_len m_Sheaf_rows m_Sheaf_iter
  simp only [Rs.bo, nox_ok]
  rw [if_pos (by omega)]
  simp only [Rs.bo, decide_true, if_true]
  rw [same_rows_ok rows (by omega)]
  simp only [Rs.bo, if_true]
theorem add_ok {a b : List (Int × Str)} (ha : ∀ r ∈ a, validB r.2 = true) (hb : ∀ r ∈ b, validB r.2 = true) (h1 : 1 ≤ a.length) (h2 : a.length + b.length ≤ 1000) : m_Sheaf_add (⟨⟨a⟩⟩, ⟨⟨b⟩⟩, ()) = .ok ⟨⟨a ++ b⟩⟩ := by
  have lj : (a ++ b).length = a.length + b.length := List.length_append
  unfold m_Sheaf_add
  simp only [Rs.bo, m_Sheaf_rows]
  rw [catI_ok (by omega)]
  simp only [Rs.bo]
  exact init_good (fun r h => by
    rcases List.mem_append.mp h with z | z
    · exact ha r z
    · exact hb r z) (by omega) (by omega)
theorem eq_is (a b : List (Int × Str)) : m_Sheaf_eq (⟨⟨a⟩⟩, ⟨⟨b⟩⟩, ()) = .ok (decide (a = b)) := by
  unfold m_Sheaf_eq
  simp only [Rs.bo, if_true]
  by_cases h : a = b
  · rw [decide_eq_true h, decide_eq_true (show (Tup.mk a) = Tup.mk b by rw [h])]
  · rw [decide_eq_false h, decide_eq_false (show ¬ (Tup.mk a) = Tup.mk b from fun z => h (Tup.mk.inj z))]
theorem cut_from {a : Str} {k : Int} (h0 : 0 ≤ k) : (cutS a (some k) none).length ≤ a.length - k.toNat := by
  have la := Str.len_toList a
  rw [Str.len_toList (cutS a (some k) none)]
  unfold cutS
  show (List.toArray _).toList.length ≤ _
  have : k = ((k.toNat : Nat) : Int) := by omega
  rw [List.toList_toArray, List.length_take, this, HT.sIx_nat, HT.sIx_none, List.length_drop, Int.toNat_natCast]
  omega
/-- what the variants keep -/
def Pv (rows ys : List (Int × Str)) : Prop := ys.length = rows.length ∧ ∀ r ∈ ys, IsRec r.2
theorem Pv.set {rows ys : List (Int × Str)} (h : Pv rows ys) {k : Nat} {r : Int × Str} (hr : IsRec r.2) : Pv rows (ys.set k r) := by
  refine ⟨by rw [List.length_set]; exact h.1, fun x hx => ?_⟩
  rcases List.mem_or_eq_of_mem_set hx with z | z
  · exact h.2 x z
  · rw [z]; exact hr
theorem variant_ok {rows : List (Int × Str)} {cell kind : Int} (h1 : 1 ≤ rows.length) (hr : ∀ r ∈ rows, IsRec r.2) (h2 : rows.length ≤ 40) : ∃ ch, m_law_variant (rows, cell, kind, ()) = .ok ch ∧ 1 ≤ ch.length ∧ ch.length ≤ 41 ∧ ∀ r ∈ ch, IsRec r.2 := by
  unfold m_law_variant
  obtain ⟨ds, hds, hdD⟩ := draws_ok cell [40, 40, 2, 8, 35] (by intro s hs; simp only [List.mem_cons, List.not_mem_nil, or_false] at hs; omega) (by simp)
  obtain ⟨d0, gd0, ld0, ud0⟩ := Drawn.g hdD 0 (by decide) rfl
  obtain ⟨d1, gd1, ld1, ud1⟩ := Drawn.g hdD 1 (by decide) rfl
  obtain ⟨d2, gd2, ld2, ud2⟩ := Drawn.g hdD 2 (by decide) rfl
  obtain ⟨d3, gd3, ld3, ud3⟩ := Drawn.g hdD 3 (by decide) rfl
  obtain ⟨d4, gd4, ld4, ud4⟩ := Drawn.g hdD 4 (by decide) rfl
  simp only [Rs.bo, Rs.okl, hds, gd0, gd1, gd2, gd3, gd4]
  rw [if_pos (by omega)]
  simp only [Rs.bo, Rs.okl, hds, gd0, gd1, gd2, gd3, gd4]
  rw [if_pos (by omega)]
  simp only [Rs.bo, Rs.okl, hds, gd0, gd1, gd2, gd3, gd4]
  have q1 := Int.emod_nonneg d0 (show (rows.length : Int) ≠ 0 by omega)
  have q2 := Int.emod_lt_of_pos d0 (show (0 : Int) < rows.length by omega)
  have q3 := Int.emod_nonneg d1 (show (rows.length : Int) ≠ 0 by omega)
  have q4 := Int.emod_lt_of_pos d1 (show (0 : Int) < rows.length by omega)
  obtain ⟨r, er, mr, -⟩ := getI_mem (xs := rows) (k := d0 % (rows.length : Int)) q1 q2
  obtain ⟨s, es, ms, -⟩ := getI_mem (xs := rows) (k := d1 % (rows.length : Int)) q3 q4
  rw [er]
  generalize d0 % (rows.length : Int) = place at q1 q2 er ⊢
  generalize d1 % (rows.length : Int) = other at q3 q4 es ⊢
  have hrec := hr r mr
  have l0 := hrec.lo
  have l1 := hrec.hi
  simp only [Rs.bo]
  refine Rs.exb (fun γ => ∃ ys, γ = (ys, r.2, other, place, ds, ("abcdefghijklmnopqrstuvwxyz0123456789" : Str), rows, kind, ()) ∧ Pv rows ys) ?_ ?_
  · refine Rs.exi (fun _ => ?_) fun _ => ⟨_, rfl, _, rfl, rfl, hr⟩
    simp only [Rs.bo, er, gd2]
    rw [if_pos (CMul_l (by decide) (by decide))]
    simp only [Rs.bo]
    rw [setI_in q1 q2]
    simp only [Rs.bo]
    exact ⟨_, rfl, _, rfl, Pv.set ⟨rfl, hr⟩ hrec⟩
  rintro _ ⟨ys, rfl, hp⟩
  refine Rs.exb (fun γ => ∃ ys, γ = (ys, other, place, rows, kind, ()) ∧ Pv rows ys) ?_ ?_
  · refine Rs.exi (fun _ => ?_) fun _ => ⟨_, rfl, _, rfl, hp⟩
    simp only [Rs.bo, gd3]
    rw [if_pos (by omega)]
    have p1 := Int.emod_nonneg d3 (show (r.2.length : Int) ≠ 0 by omega)
    have p2 := Int.emod_lt_of_pos d3 (show (0 : Int) < r.2.length by omega)
    generalize d3 % (r.2.length : Int) = at' at p1 p2 ⊢
    obtain ⟨y, ey, -, -⟩ := getI_mem (xs := chars r.2) (k := at') p1 (by rw [chars_len]; exact p2)
    simp only [Rs.bo]
    rw [ey]
    simp only [Rs.bo, gd4]
    rw [if_pos (by decide)]
    simp only [Rs.bo]
    have w1 := Int.emod_nonneg (Txt.find ("abcdefghijklmnopqrstuvwxyz0123456789" : Str) y + 1 + d4) (show (36 : Int) ≠ 0 by decide)
    have w2 := Int.emod_lt_of_pos (Txt.find ("abcdefghijklmnopqrstuvwxyz0123456789" : Str) y + 1 + d4) (show (0 : Int) < 36 by decide)
    generalize (Txt.find ("abcdefghijklmnopqrstuvwxyz0123456789" : Str) y + 1 + d4) % 36 = code at w1 w2 ⊢
    obtain ⟨z, ez, lz, sz⟩ := let_get w1 w2
    rw [er, show getI (chars ("abcdefghijklmnopqrstuvwxyz0123456789" : Str)) code = .ok z from ez]
    have c1 := cut_to (a := r.2) p1
    have c2 := cut_from (a := r.2) (show 0 ≤ at' + 1 by omega)
    simp only [Rs.bo]
    rw [catS_ok (by omega)]
    simp only [Rs.bo]
    rw [catS_ok (by rw [app_len]; omega)]
    simp only [Rs.bo]
    rw [setI_in q1 (by have := hp.1; omega)]
    simp only [Rs.bo]
    exact ⟨_, rfl, _, rfl, Pv.set hp ⟨((hrec.sg.cut _ _).app sz).app (hrec.sg.cut _ _), by rw [app_len, app_len]; omega, by rw [app_len, app_len]; omega⟩⟩
  rintro _ ⟨ys, rfl, hp⟩
  refine Rs.exb (fun γ => ∃ ys, γ = (ys, place, rows, kind, ()) ∧ Pv rows ys) ?_ ?_
  · refine Rs.exi (fun _ => ?_) fun _ => ⟨_, rfl, _, rfl, hp⟩
    simp only [Rs.bo]
    rw [es]
    simp only [Rs.bo]
    rw [setI_in q1 (by have := hp.1; omega)]
    simp only [Rs.bo]
    rw [er]
    simp only [Rs.bo]
    rw [setI_in q3 (by have := hp.1; rw [List.length_set]; omega)]
    simp only [Rs.bo]
    exact ⟨_, rfl, _, rfl, Pv.set (Pv.set hp (hr s ms)) hrec⟩
  rintro _ ⟨ys, rfl, hp⟩
  refine Rs.exb (fun γ => ∃ ys, γ = (ys, place, rows, kind, ()) ∧ 1 ≤ ys.length ∧ ys.length ≤ 40 ∧ ∀ r ∈ ys, IsRec r.2) ?_ ?_
  · have hl := hp.1
    have keep : ∃ ys', (ys, place, rows, kind, ()) = (ys', place, rows, kind, ()) ∧ 1 ≤ ys'.length ∧ ys'.length ≤ 40 ∧ ∀ r ∈ ys', IsRec r.2 := ⟨_, rfl, by omega, by omega, hp.2⟩
    by_cases k4 : kind = 4
    · rw [decide_eq_true k4]
      simp only [Rs.bo, if_true]
      by_cases k5 : 1 < rows.length
      · rw [decide_eq_true (show (1 : Int) < rows.length by omega)]
        simp only [Rs.bo, if_true]
        unfold popI
        rw [if_neg (by omega)]
        simp only [Rs.bo]
        exact ⟨_, rfl, _, rfl, by rw [List.length_dropLast]; omega, by rw [List.length_dropLast]; omega, fun r h => hp.2 r ((List.dropLast_sublist _).subset h)⟩
      · rw [decide_eq_false (show ¬ (1 : Int) < rows.length by omega)]
        exact ⟨_, rfl, keep⟩
    · rw [decide_eq_false k4]
      exact ⟨_, rfl, keep⟩
  rintro _ ⟨ys, rfl, y1, y2, y3⟩
  by_cases k5 : kind = 5
  · rw [decide_eq_true k5]
    simp only [Rs.bo, if_true]
    by_cases k6 : rows.length < 40
    · rw [decide_eq_true (show (rows.length : Int) < 40 by omega)]
      simp only [Rs.bo, if_true]
      rw [er]
      simp only [Rs.bo]
      rw [appI_ok (by omega)]
      refine ⟨_, rfl, ?_, ?_, fun x hx => ?_⟩
      · show 1 ≤ (ys ++ [r]).length
        rw [List.length_append]; omega
      · show (ys ++ [r]).length ≤ 41
        rw [List.length_append, List.length_singleton]; omega
      · rcases List.mem_append.mp hx with z | z
        · exact y3 x z
        · rw [List.mem_singleton.mp z]; exact hrec
    · rw [decide_eq_false (show ¬ (rows.length : Int) < 40 by omega)]
      exact ⟨_, rfl, y1, by show ys.length ≤ 41; omega, y3⟩
  · rw [decide_eq_false k5]
    exact ⟨_, rfl, y1, by show ys.length ≤ 41; omega, y3⟩
theorem equals_ok {rows : List (Int × Str)} {cell : Int} (h1 : 1 ≤ rows.length) (h2 : rows.length ≤ 40) (hr : ∀ r ∈ rows, IsRec r.2) : m_law_equals (⟨⟨rows⟩⟩, rows, cell, ()) = .ok true := by
  unfold m_law_equals
  simp only [Rs.bo]
  rw [Rng_ok (by decide) (by decide) (by decide) (by decide)]
  simp only [Rs.bo]
  rw [foldR_all (f := fun (γ : Ctx.T [.bo 0 Sheaf, .bo 1 (List (Int × Str)), .fz 2 Int]) x => m_law_equals_l1 (x, γ)) (g := (⟨⟨rows⟩⟩, rows, cell, ())) (xs := rng 0 6) (fun x _ => by
    show m_law_equals_l1 (x, ⟨⟨rows⟩⟩, rows, cell, ()) = _
    obtain ⟨ch, ec, c1, c2, c3⟩ := variant_ok (cell := cell) (kind := x) h1 hr h2
    unfold m_law_equals_l1
    simp only [Rs.bo, ec]
    rw [init_good (fun r h => IsRec.validB (c3 r h)) c1 (by omega)]
    simp only [Rs.bo]
    rw [eq_is, eq_is]
    simp only [Rs.bo, nox_ok]
    have e1 : decide (rows = ch) = decide (ch = rows) := by
      by_cases h : ch = rows
      · rw [decide_eq_true h, decide_eq_true h.symm]
      · rw [decide_eq_false h, decide_eq_false fun z => h z.symm]
    rw [e1, decide_eq_true (rfl : decide (ch = rows) = decide (ch = rows))]
    rfl)]
  rfl
theorem sums_ok {one two three : List (Int × Str)} (h1 : 1 ≤ one.length ∧ one.length ≤ 40) (h2 : 1 ≤ two.length ∧ two.length ≤ 40) (h3 : 1 ≤ three.length ∧ three.length ≤ 40) (v1 : ∀ r ∈ one, validB r.2 = true) (v2 : ∀ r ∈ two, validB r.2 = true) (v3 : ∀ r ∈ three, validB r.2 = true) : m_law_sums (one, two, three, ()) = .ok true := by
  have a12 := add_ok v1 v2 h1.1 (by omega)
  have a21 := add_ok v2 v1 h2.1 (by omega)
  have a11 := add_ok v1 v1 h1.1 (by omega)
  have a23 := add_ok v2 v3 h2.1 (by omega)
  have l12 : (one ++ two).length = one.length + two.length := List.length_append
  have l21 : (two ++ one).length = two.length + one.length := List.length_append
  have l11 : (one ++ one).length = one.length + one.length := List.length_append
  have l23 : (two ++ three).length = two.length + three.length := List.length_append
  have l123 : (one ++ two ++ three).length = one.length + two.length + three.length := by rw [List.length_append, l12]
  have v12 : ∀ r ∈ one ++ two, validB r.2 = true := fun r h => by
    rcases List.mem_append.mp h with z | z
    · exact v1 r z
    · exact v2 r z
  have v23 : ∀ r ∈ two ++ three, validB r.2 = true := fun r h => by
    rcases List.mem_append.mp h with z | z
    · exact v2 r z
    · exact v3 r z
  have a123 := add_ok v12 v3 (by omega) (by omega)
  have a1_23 := add_ok v1 v23 h1.1 (by omega)
  rw [← List.append_assoc] at a1_23
  obtain ⟨r0, er0, -, -⟩ := getI_mem (xs := one) (k := 0) (by decide) (by omega)
  unfold m_law_sums
  simp only [Rs.bo]
  rw [init_good v1 h1.1 (by omega)]
  simp only [Rs.bo]
  rw [init_good v2 h2.1 (by omega)]
  simp only [Rs.bo]
  rw [init_good v3 h3.1 (by omega)]
  simp only [Rs.bo, a12, a21, a11, a23, a123, a1_23, nox_ok]
  rw [catI_ok (by omega)]
  simp only [Rs.bo]
  rw [holds_ok (by omega)]
  simp only [Rs.bo, Bool.not_true, Bool.false_eq_true, if_false, m_Sheaf_rows, er0]
  rw [setI_in (by decide) (by omega)]
  simp only [Rs.bo, er0]
  rw [appI_ok (by rw [List.length_set]; omega)]
  simp only [Rs.bo]
  rw [a21, a11, catI_ok (xs := two) (ys := one) (by omega), catI_ok (xs := one) (ys := one) (by omega)]
  simp only [Rs.bo, nox_ok]
  rw [holds_ok (by omega), holds_ok (by omega)]
  simp only [Rs.bo, Bool.not_true, Bool.false_eq_true, if_false]
  rw [a123]
  simp only [Rs.bo, nox_ok]
  rw [catI_ok (xs := one) (ys := two) (by omega), a23]
  simp only [Rs.bo, nox_ok]
  rw [a1_23, catI_ok (by omega)]
  simp only [Rs.bo, nox_ok]
  rw [holds_ok (by omega), eq_is, decide_eq_true (rfl : one ++ two ++ three = one ++ two ++ three)]
  simp only [Rs.bo, nox_ok, Bool.not_true, Bool.false_eq_true, if_false]
  rw [holds_ok (by omega), holds_ok (by omega), holds_ok (by omega)]
  simp only [Rs.bo, Bool.not_true, Bool.false_eq_true, if_false]
  exact holds_ok (by omega)
theorem law_true (ns : List Int) (h : ns.length ≤ 63) : m_law (⟨ns⟩, ()) = .ok true := by
  obtain ⟨rows, er, r1, r2, r3⟩ := wide_at ns 0 (by decide)
  obtain ⟨two, et, t1, t2, t3⟩ := wide_at ns 3 (by decide)
  obtain ⟨six, es, s1, s2, s3⟩ := wide_at ns 6 (by decide)
  obtain ⟨c9, hc9⟩ := cell_ex ⟨ns⟩ 9 (by decide)
  have v1 : ∀ r ∈ rows, validB r.2 = true := fun r h => IsRec.validB (r3 r h)
  have v2 : ∀ r ∈ two, validB r.2 = true := fun r h => IsRec.validB (t3 r h)
  have v3 : ∀ r ∈ six, validB r.2 = true := fun r h => IsRec.validB (s3 r h)
  obtain ⟨r0, er0, -, -⟩ := getI_mem (xs := rows) (k := 0) (by decide) (by omega)
  have k1 : cutI rows none (some 14) = rows.take 14 := cutI_take (by decide)
  have k2 : cutI two none (some 13) = two.take 13 := cutI_take (by decide)
  have k3 : cutI six none (some 13) = six.take 13 := cutI_take (by decide)
  unfold m_law
  simp only [Rs.bo, er, et, es, hc9]
  rw [init_good v1 r1 (by omega)]
  simp only [Rs.bo, decide_true, Bool.not_true, Bool.false_eq_true, if_false, er0]
  rw [setI_in (by decide) (by omega)]
  simp only [Rs.bo, er0]
  rw [appI_ok (by rw [List.length_set]; omega)]
  simp only [Rs.bo, er0]
  rw [holds_ok (by omega)]
  simp only [Rs.bo, Bool.not_true, Bool.false_eq_true, if_false, m_Sheaf_rows, er0]
  rw [setI_in (by decide) (by omega)]
  simp only [Rs.bo, er0]
  rw [appI_ok (by rw [List.length_set]; omega)]
  simp only [Rs.bo, er, et, es, hc9]
  rw [holds_ok (by omega), equals_ok r1 r2 r3]
  simp only [Rs.bo, Bool.not_true, Bool.false_eq_true, if_false, k1, k2, k3]
  exact sums_ok (by rw [List.length_take]; omega) (by rw [List.length_take]; omega) (by rw [List.length_take]; omega) (fun r h => v1 r (List.mem_of_mem_take h)) (fun r h => v2 r (List.mem_of_mem_take h)) fun r h => v3 r (List.mem_of_mem_take h)

end Wk
set_option Elab.async false
set_option linter.all false
set_option maxRecDepth 100000
set_option maxHeartbeats 4000000
namespace Wk
open PySem PySem.Spec PyProof.Rows L2 Wm
/-! ### the end -/
def spLaw [TabT] (K : PySem.W.Frag) : Sp := fun vs H Q _ => ∃ (a : Addr) (ns : List Int), vs = [.ref a] ∧ SqL K H a (ns.map V.int) ∧ ns.length ≤ 63 ∧ LamX.Tabs TabT.T H ∧ ∀ H', Q (.bl true) H'
theorem law_sp [TabT] {K : PySem.W.Frag} {mg : Str → Option Value} (T : Txt K mg) (vs : List V) (H : Hp) (Q : VK) (E : XK) (h : spLaw K vs H Q E) : spF (wdOf T) (kF : Kd (wdOf T) Bool) [.fz 0 Script] m_law vs H Q E := by
  obtain ⟨a, ns, e, hS, hl, tb, q⟩ := h
  subst e
  refine ⟨rfl, H, (⟨ns⟩, ()), SameL.refl H, tb, ⟨_, [], rfl, rfl, ⟨a, rfl, hS⟩, rfl⟩, ?_⟩
  rw [law_true ns hl]
  exact fun H' G' v f r => by rw [show v = V.bl true from r]; exact q H'
instance : TabT := ⟨[]⟩
theorem all_mk {l : PySem.W.OpenLaw} {w : World} {K : PySem.W.Frag} {h : Heap} {mg : Str → Option Value} {fa : Addr} (X : K.In h) (G : h.Ns mainGlobals mg) (hfa : mg "law" = some (.ref fa))
    {od0 an0 : Option Addr} {sl0 : Array (Option Value)} {oc0 kV0 dc0 pm0 cd0 ct0 : Value} {f0 : Addr}
    {od1 an1 : Option Addr} {sl1 : Array (Option Value)} {oc1 kV1 dc1 pm1 cd1 ct1 : Value} {f1 : Addr}
    {od2 an2 : Option Addr} {sl2 : Array (Option Value)} {oc2 kV2 dc2 pm2 cd2 ct2 : Value} {f2 : Addr}
    {od3 an3 : Option Addr} {sl3 : Array (Option Value)} {oc3 kV3 dc3 pm3 cd3 ct3 : Value} {f3 : Addr}
    {od4 an4 : Option Addr} {sl4 : Array (Option Value)} {oc4 kV4 dc4 pm4 cd4 ct4 : Value} {f4 : Addr}
    {od5 an5 : Option Addr} {sl5 : Array (Option Value)} {oc5 kV5 dc5 pm5 cd5 ct5 : Value} {f5 : Addr}
    {od6 an6 : Option Addr} {sl6 : Array (Option Value)} {oc6 kV6 dc6 pm6 cd6 ct6 : Value} {f6 : Addr}
    {od7 an7 : Option Addr} {sl7 : Array (Option Value)} {oc7 kV7 dc7 pm7 cd7 ct7 : Value} {f7 : Addr}
    {od8 an8 : Option Addr} {sl8 : Array (Option Value)} {oc8 kV8 dc8 pm8 cd8 ct8 : Value} {f8 : Addr}
    {od9 an9 : Option Addr} {sl9 : Array (Option Value)} {oc9 kV9 dc9 pm9 cd9 ct9 : Value} {f9 : Addr}
    {od10 an10 : Option Addr} {sl10 : Array (Option Value)} {oc10 kV10 dc10 pm10 cd10 ct10 : Value} {f10 : Addr}
    {od11 an11 : Option Addr} {sl11 : Array (Option Value)} {oc11 kV11 dc11 pm11 cd11 ct11 : Value} {f11 : Addr}
    {od12 an12 : Option Addr} {sl12 : Array (Option Value)} {oc12 kV12 dc12 pm12 cd12 ct12 : Value} {f12 : Addr}
    {od13 an13 : Option Addr} {sl13 : Array (Option Value)} {oc13 kV13 dc13 pm13 cd13 ct13 : Value} {f13 : Addr}
    {od14 an14 : Option Addr} {sl14 : Array (Option Value)} {oc14 kV14 dc14 pm14 cd14 ct14 : Value} {f14 : Addr}
    {od15 an15 : Option Addr} {sl15 : Array (Option Value)} {oc15 kV15 dc15 pm15 cd15 ct15 : Value} {f15 : Addr}
    {od16 an16 : Option Addr} {sl16 : Array (Option Value)} {oc16 kV16 dc16 pm16 cd16 ct16 : Value} {f16 : Addr}
    {od17 an17 : Option Addr} {sl17 : Array (Option Value)} {oc17 kV17 dc17 pm17 cd17 ct17 : Value} {f17 : Addr}
    {od18 an18 : Option Addr} {sl18 : Array (Option Value)} {oc18 kV18 dc18 pm18 cd18 ct18 : Value} {f18 : Addr}
    {od19 an19 : Option Addr} {sl19 : Array (Option Value)} {oc19 kV19 dc19 pm19 cd19 ct19 : Value} {f19 : Addr}
    {od20 an20 : Option Addr} {sl20 : Array (Option Value)} {oc20 kV20 dc20 pm20 cd20 ct20 : Value} {f20 : Addr}
    {c_Sheaf : Addr}
    {c_WornError : Addr}
    {c_InvalidSheaf : Addr}
    {nm_InvalidSheaf q_InvalidSheaf : Str} {N_InvalidSheaf : Addr} {bs_InvalidSheaf : List Value} {sn_InvalidSheaf : List Str} {sub_InvalidSheaf : List Value} {ab_InvalidSheaf : Bool} {col_InvalidSheaf : Option Bool} {dd_InvalidSheaf : Option Addr} {k0_InvalidSheaf k1_InvalidSheaf k2_InvalidSheaf k3_InvalidSheaf k5_InvalidSheaf : Option Value} {o_InvalidSheaf : Obj}
    {t_LONGEST : Tok}
    {t_SIGNS : Tok}
    (aC_Sheaf : PySem.W.nsIn K mainGlobals "Sheaf" = some (some (.ref c_Sheaf))) (pg_Sheaf : PySem.W.plainGet K c_Sheaf Str.empty = true) (hd_Sheaf : PySem.W.hasDictIn K c_Sheaf = true) (po_Sheaf : PySem.W.plainOver K c_Sheaf = true) (sa_Sheaf : PySem.W.findIn K (.ref c_Sheaf) "__setattr__" = some (some (.builtin "object.__setattr__"))) (mk_Sheaf : PySem.W.makesIn K c_Sheaf = true) (kc_Sheaf : PySem.W.keepIn K (.ref c_Sheaf) = true)
    (na_Sheaf__rows : PySem.W.findIn K (.ref c_Sheaf) "_rows" = some none)
    (ia_Sheaf : PySem.W.findIn K (.ref c_Sheaf) "__class__" = some (some (.builtin "object.__class__"))) (ib_Sheaf : PySem.W.specialIn K (.builtin "object.__class__") "__get__" = some (some (.builtin "getset_descriptor.__get__"))) (ic_Sheaf : PySem.W.takesIn K (.builtin "object.__class__") = some true) (id_Sheaf : PySem.W.mroIn K c_Sheaf (.type "object") = some true)
    (sf_Sheaf : PySem.W.selfFirst K c_Sheaf = true)
    (aC_WornError : PySem.W.nsIn K mainGlobals "WornError" = some (some (.ref c_WornError)))
    (xr_WornError : PySem.W.readsIn K c_WornError (.type "type") = true)
    (xg_WornError : PySem.W.specialIn K (.ref c_WornError) "__getattribute__" = some (some (.builtin "type.__getattribute__")))
    (xv_WornError : PySem.W.findCls K (.ref c_WornError) (.type "type") "__init__" = some (.val (.builtin "ValueError.__init__")))
    (aC_InvalidSheaf : PySem.W.nsIn K mainGlobals "InvalidSheaf" = some (some (.ref c_InvalidSheaf)))
    (xl_InvalidSheaf : K.lookup c_InvalidSheaf = some o_InvalidSheaf)
    (xo_InvalidSheaf : o_InvalidSheaf = excClassObj nm_InvalidSheaf q_InvalidSheaf c_InvalidSheaf N_InvalidSheaf bs_InvalidSheaf [.ref c_WornError, .type "ValueError", .type "Exception", .type "BaseException", .type "object"] true sn_InvalidSheaf sub_InvalidSheaf ab_InvalidSheaf col_InvalidSheaf dd_InvalidSheaf k0_InvalidSheaf k1_InvalidSheaf k2_InvalidSheaf k3_InvalidSheaf k5_InvalidSheaf "ValueError.__new__")
    (xs_InvalidSheaf : PySem.W.findIn K (.ref c_InvalidSheaf) "__setattr__" = some (some (.builtin "object.__setattr__")))
    (xk_InvalidSheaf : PySem.W.keepIn K (.ref c_InvalidSheaf) = true)
    (xe_InvalidSheaf : PySem.W.subIn K (.ref c_InvalidSheaf) (.type "BaseException") = some true)
    (xt_InvalidSheaf : PySem.W.typeIn K (.ref c_InvalidSheaf) = some (.type "type"))
    (nf_InvalidSheaf : PySem.W.findIn K (.ref c_InvalidSheaf) "index" = some none)
    (a0 : PySem.W.nsIn K mainGlobals "_law_cell" = some (some (.ref f0)))
    (l0 : K.lookup f0 = some ⟨oc0, od0, .func (PySem.W.fnOf "_law_cell" "_law_cell" (defArgs s_law_cell) (defBody s_law_cell) (defScope s_law_cell) .none kV0 dc0 pm0 an0 cd0 ct0), sl0⟩) (c0 : PySem.W.codeIn K cd0 "_law_cell" = true) (k0 : PySem.W.keepIn K (.ref f0) = true)
    (a1 : PySem.W.nsIn K mainGlobals "_law_draws" = some (some (.ref f1)))
    (l1 : K.lookup f1 = some ⟨oc1, od1, .func (PySem.W.fnOf "_law_draws" "_law_draws" (defArgs s_law_draws) (defBody s_law_draws) (defScope s_law_draws) .none kV1 dc1 pm1 an1 cd1 ct1), sl1⟩) (c1 : PySem.W.codeIn K cd1 "_law_draws" = true) (k1 : PySem.W.keepIn K (.ref f1) = true)
    (a2 : PySem.W.nsIn K mainGlobals "_law_names" = some (some (.ref f2)))
    (l2 : K.lookup f2 = some ⟨oc2, od2, .func (PySem.W.fnOf "_law_names" "_law_names" (defArgs s_law_names) (defBody s_law_names) (defScope s_law_names) .none kV2 dc2 pm2 an2 cd2 ct2), sl2⟩) (c2 : PySem.W.codeIn K cd2 "_law_names" = true) (k2 : PySem.W.keepIn K (.ref f2) = true)
    (a3 : PySem.W.nsIn K mainGlobals "_law_unlike_rows" = some (some (.ref f3)))
    (l3 : K.lookup f3 = some ⟨oc3, od3, .func (PySem.W.fnOf "_law_unlike_rows" "_law_unlike_rows" (defArgs s_law_unlike_rows) (defBody s_law_unlike_rows) (defScope s_law_unlike_rows) .none kV3 dc3 pm3 an3 cd3 ct3), sl3⟩) (c3 : PySem.W.codeIn K cd3 "_law_unlike_rows" = true) (k3 : PySem.W.keepIn K (.ref f3) = true)
    (a4 : PySem.W.nsIn K mainGlobals "_law_rows" = some (some (.ref f4)))
    (l4 : K.lookup f4 = some ⟨oc4, od4, .func (PySem.W.fnOf "_law_rows" "_law_rows" (defArgs s_law_rows) (defBody s_law_rows) (defScope s_law_rows) .none kV4 dc4 pm4 an4 cd4 ct4), sl4⟩) (c4 : PySem.W.codeIn K cd4 "_law_rows" = true) (k4 : PySem.W.keepIn K (.ref f4) = true)
    (a5 : PySem.W.nsIn K mainGlobals "_law_shaped" = some (some (.ref f5)))
    (l5 : K.lookup f5 = some ⟨oc5, od5, .func (PySem.W.fnOf "_law_shaped" "_law_shaped" (defArgs s_law_shaped) (defBody s_law_shaped) (defScope s_law_shaped) .none kV5 dc5 pm5 an5 cd5 ct5), sl5⟩) (c5 : PySem.W.codeIn K cd5 "_law_shaped" = true) (k5 : PySem.W.keepIn K (.ref f5) = true)
    (a6 : PySem.W.nsIn K mainGlobals "_law_wide_rows" = some (some (.ref f6)))
    (l6 : K.lookup f6 = some ⟨oc6, od6, .func (PySem.W.fnOf "_law_wide_rows" "_law_wide_rows" (defArgs s_law_wide_rows) (defBody s_law_wide_rows) (defScope s_law_wide_rows) .none kV6 dc6 pm6 an6 cd6 ct6), sl6⟩) (c6 : PySem.W.codeIn K cd6 "_law_wide_rows" = true) (k6 : PySem.W.keepIn K (.ref f6) = true)
    (a7 : PySem.W.findIn K (.ref c_InvalidSheaf) "__init__" = some (some (.ref f7))) (i7 : PySem.W.typeIn K (.ref f7) = some (.type "function"))
    (l7 : K.lookup f7 = some ⟨oc7, od7, .func (PySem.W.fnOf "__init__" "InvalidSheaf.__init__" (defArgs s_InvalidSheaf_init) (defBody s_InvalidSheaf_init) (defScope s_InvalidSheaf_init) .none kV7 dc7 pm7 an7 cd7 ct7), sl7⟩) (c7 : PySem.W.codeIn K cd7 "InvalidSheaf.__init__" = true) (k7 : PySem.W.keepIn K (.ref f7) = true)
    (a8 : PySem.W.nsIn K mainGlobals "valid_record" = some (some (.ref f8)))
    (l8 : K.lookup f8 = some ⟨oc8, od8, .func (PySem.W.fnOf "valid_record" "valid_record" (defArgs s_valid_record) (defBody s_valid_record) (defScope s_valid_record) .none kV8 dc8 pm8 an8 cd8 ct8), sl8⟩) (c8 : PySem.W.codeIn K cd8 "valid_record" = true) (k8 : PySem.W.keepIn K (.ref f8) = true)
    (a9 : PySem.W.findIn K (.ref c_Sheaf) "__init__" = some (some (.ref f9))) (i9 : PySem.W.isFn K (.ref f9) = true)
    (l9 : K.lookup f9 = some ⟨oc9, od9, .func (PySem.W.fnOf "__init__" "Sheaf.__init__" (defArgs s_Sheaf_init) (defBody s_Sheaf_init) (defScope s_Sheaf_init) .none kV9 dc9 pm9 an9 cd9 ct9), sl9⟩) (c9 : PySem.W.codeIn K cd9 "Sheaf.__init__" = true) (k9 : PySem.W.keepIn K (.ref f9) = true)
    (a10 : PySem.W.findIn K (.ref c_Sheaf) "__len__" = some (some (.ref f10))) (i10 : PySem.W.isFn K (.ref f10) = true)
    (l10 : K.lookup f10 = some ⟨oc10, od10, .func (PySem.W.fnOf "__len__" "Sheaf.__len__" (defArgs s_Sheaf_len) (defBody s_Sheaf_len) (defScope s_Sheaf_len) .none kV10 dc10 pm10 an10 cd10 ct10), sl10⟩) (c10 : PySem.W.codeIn K cd10 "Sheaf.__len__" = true) (k10 : PySem.W.keepIn K (.ref f10) = true)
    (a11 : PySem.W.findIn K (.ref c_Sheaf) "rows" = some (some (.ref f11))) (i11 : PySem.W.isFn K (.ref f11) = true)
    (l11 : K.lookup f11 = some ⟨oc11, od11, .func (PySem.W.fnOf "rows" "Sheaf.rows" (defArgs s_Sheaf_rows) (defBody s_Sheaf_rows) (defScope s_Sheaf_rows) .none kV11 dc11 pm11 an11 cd11 ct11), sl11⟩) (c11 : PySem.W.codeIn K cd11 "Sheaf.rows" = true) (k11 : PySem.W.keepIn K (.ref f11) = true)
    (a12 : PySem.W.nsIn K mainGlobals "_law_same_rows" = some (some (.ref f12)))
    (l12 : K.lookup f12 = some ⟨oc12, od12, .func (PySem.W.fnOf "_law_same_rows" "_law_same_rows" (defArgs s_law_same_rows) (defBody s_law_same_rows) (defScope s_law_same_rows) .none kV12 dc12 pm12 an12 cd12 ct12), sl12⟩) (c12 : PySem.W.codeIn K cd12 "_law_same_rows" = true) (k12 : PySem.W.keepIn K (.ref f12) = true)
    (a13 : PySem.W.findIn K (.ref c_Sheaf) "__iter__" = some (some (.ref f13))) (i13 : PySem.W.isFn K (.ref f13) = true)
    (l13 : K.lookup f13 = some ⟨oc13, od13, .func (PySem.W.fnOf "__iter__" "Sheaf.__iter__" (defArgs s_Sheaf_iter) (defBody s_Sheaf_iter) (defScope s_Sheaf_iter) .none kV13 dc13 pm13 an13 cd13 ct13), sl13⟩) (c13 : PySem.W.codeIn K cd13 "Sheaf.__iter__" = true) (k13 : PySem.W.keepIn K (.ref f13) = true)
    (a14 : PySem.W.nsIn K mainGlobals "_law_holds" = some (some (.ref f14)))
    (l14 : K.lookup f14 = some ⟨oc14, od14, .func (PySem.W.fnOf "_law_holds" "_law_holds" (defArgs s_law_holds) (defBody s_law_holds) (defScope s_law_holds) .none kV14 dc14 pm14 an14 cd14 ct14), sl14⟩) (c14 : PySem.W.codeIn K cd14 "_law_holds" = true) (k14 : PySem.W.keepIn K (.ref f14) = true)
    (a15 : PySem.W.nsIn K mainGlobals "_law_variant" = some (some (.ref f15)))
    (l15 : K.lookup f15 = some ⟨oc15, od15, .func (PySem.W.fnOf "_law_variant" "_law_variant" (defArgs s_law_variant) (defBody s_law_variant) (defScope s_law_variant) .none kV15 dc15 pm15 an15 cd15 ct15), sl15⟩) (c15 : PySem.W.codeIn K cd15 "_law_variant" = true) (k15 : PySem.W.keepIn K (.ref f15) = true)
    (a16 : PySem.W.findIn K (.ref c_Sheaf) "__eq__" = some (some (.ref f16))) (i16 : PySem.W.isFn K (.ref f16) = true)
    (l16 : K.lookup f16 = some ⟨oc16, od16, .func (PySem.W.fnOf "__eq__" "Sheaf.__eq__" (defArgs s_Sheaf_eq) (defBody s_Sheaf_eq) (defScope s_Sheaf_eq) .none kV16 dc16 pm16 an16 cd16 ct16), sl16⟩) (c16 : PySem.W.codeIn K cd16 "Sheaf.__eq__" = true) (k16 : PySem.W.keepIn K (.ref f16) = true)
    (a17 : PySem.W.nsIn K mainGlobals "_law_equals" = some (some (.ref f17)))
    (l17 : K.lookup f17 = some ⟨oc17, od17, .func (PySem.W.fnOf "_law_equals" "_law_equals" (defArgs s_law_equals) (defBody s_law_equals) (defScope s_law_equals) .none kV17 dc17 pm17 an17 cd17 ct17), sl17⟩) (c17 : PySem.W.codeIn K cd17 "_law_equals" = true) (k17 : PySem.W.keepIn K (.ref f17) = true)
    (a18 : PySem.W.findIn K (.ref c_Sheaf) "__add__" = some (some (.ref f18))) (i18 : PySem.W.isFn K (.ref f18) = true)
    (l18 : K.lookup f18 = some ⟨oc18, od18, .func (PySem.W.fnOf "__add__" "Sheaf.__add__" (defArgs s_Sheaf_add) (defBody s_Sheaf_add) (defScope s_Sheaf_add) .none kV18 dc18 pm18 an18 cd18 ct18), sl18⟩) (c18 : PySem.W.codeIn K cd18 "Sheaf.__add__" = true) (k18 : PySem.W.keepIn K (.ref f18) = true)
    (a19 : PySem.W.nsIn K mainGlobals "_law_sums" = some (some (.ref f19)))
    (l19 : K.lookup f19 = some ⟨oc19, od19, .func (PySem.W.fnOf "_law_sums" "_law_sums" (defArgs s_law_sums) (defBody s_law_sums) (defScope s_law_sums) .none kV19 dc19 pm19 an19 cd19 ct19), sl19⟩) (c19 : PySem.W.codeIn K cd19 "_law_sums" = true) (k19 : PySem.W.keepIn K (.ref f19) = true)
    (a20 : PySem.W.nsIn K mainGlobals "law" = some (some (.ref f20)))
    (l20 : K.lookup f20 = some ⟨oc20, od20, .func (PySem.W.fnOf "law" "law" (defArgs s_law) (defBody s_law) (defScope s_law) .none kV20 dc20 pm20 an20 cd20 ct20), sl20⟩) (c20 : PySem.W.codeIn K cd20 "law" = true) (k20 : PySem.W.keepIn K (.ref f20) = true)
    (z_bool : PySem.W.nsIn K mainGlobals "bool" = some none)
    (z_enumerate : PySem.W.nsIn K mainGlobals "enumerate" = some none)
    (z_int : PySem.W.nsIn K mainGlobals "int" = some none)
    (z_isinstance : PySem.W.nsIn K mainGlobals "isinstance" = some none)
    (z_iter : PySem.W.nsIn K mainGlobals "iter" = some none)
    (z_len : PySem.W.nsIn K mainGlobals "len" = some none)
    (z_list : PySem.W.nsIn K mainGlobals "list" = some none)
    (z_range : PySem.W.nsIn K mainGlobals "range" = some none)
    (z_str : PySem.W.nsIn K mainGlobals "str" = some none)
    (z_tuple : PySem.W.nsIn K mainGlobals "tuple" = some none)
    (v_LONGEST : PySem.W.nsIn K mainGlobals "LONGEST" = some (some (.int 8 t_LONGEST)))
    (v_SIGNS : PySem.W.nsIn K mainGlobals "SIGNS" = some (some (.str "abcdefghijklmnopqrstuvwxyz0123456789" t_SIGNS))) :
    ∃ fd : FuncData, (∀ (s : Shared) (v : Value), BindsTo s fd ⟨[v], []⟩ [("script", v)]) ∧ ∀ base : Heap, K.In base → base.Ns mainGlobals mg → FnOk l.prog w K mg base (L2N.CX l.prog w) 8 fa fd ["script"] (spLaw K) := by
  have e := hfa.symm.trans (PySem.W.mg_of X G a20)
  cases e
  let T : Txt K mg := {
    g_law_cell := PySem.W.mg_of X G a0,
    a_law_cell := _, d_law_cell := _, F_law_cell := fun_mk (st := s_law_cell) l0 c0 k0, b_law_cell := (fun_mk (st := s_law_cell) l0 c0 k0).binds (ps := ["script", "k"]) (fun _ _ _ _ _ _ us hl => match us, hl with | [_, _], _ => rfl),
    g_law_draws := PySem.W.mg_of X G a1,
    a_law_draws := _, d_law_draws := _, F_law_draws := fun_mk (st := s_law_draws) l1 c1 k1, b_law_draws := (fun_mk (st := s_law_draws) l1 c1 k1).binds (ps := ["cell", "sizes"]) (fun _ _ _ _ _ _ us hl => match us, hl with | [_, _], _ => rfl),
    g_law_names := PySem.W.mg_of X G a2,
    a_law_names := _, d_law_names := _, F_law_names := fun_mk (st := s_law_names) l2 c2 k2, b_law_names := (fun_mk (st := s_law_names) l2 c2 k2).binds (ps := ["cell", "count"]) (fun _ _ _ _ _ _ us hl => match us, hl with | [_, _], _ => rfl),
    g_law_unlike_rows := PySem.W.mg_of X G a3,
    a_law_unlike_rows := _, d_law_unlike_rows := _, F_law_unlike_rows := fun_mk (st := s_law_unlike_rows) l3 c3 k3, b_law_unlike_rows := (fun_mk (st := s_law_unlike_rows) l3 c3 k3).binds (ps := ["cell", "names", "count", "spread", "base"]) (fun _ _ _ _ _ _ us hl => match us, hl with | [_, _, _, _, _], _ => rfl),
    g_law_rows := PySem.W.mg_of X G a4,
    a_law_rows := _, d_law_rows := _, F_law_rows := fun_mk (st := s_law_rows) l4 c4 k4, b_law_rows := (fun_mk (st := s_law_rows) l4 c4 k4).binds (ps := ["cell", "names", "count", "spread", "base"]) (fun _ _ _ _ _ _ us hl => match us, hl with | [_, _, _, _, _], _ => rfl),
    g_law_shaped := PySem.W.mg_of X G a5,
    a_law_shaped := _, d_law_shaped := _, F_law_shaped := fun_mk (st := s_law_shaped) l5 c5 k5, b_law_shaped := (fun_mk (st := s_law_shaped) l5 c5 k5).binds (ps := ["rows", "shape", "base", "gap"]) (fun _ _ _ _ _ _ us hl => match us, hl with | [_, _, _, _], _ => rfl),
    g_law_wide_rows := PySem.W.mg_of X G a6,
    a_law_wide_rows := _, d_law_wide_rows := _, F_law_wide_rows := fun_mk (st := s_law_wide_rows) l6 c6 k6, b_law_wide_rows := (fun_mk (st := s_law_wide_rows) l6 c6 k6).binds (ps := ["script", "at"]) (fun _ _ _ _ _ _ us hl => match us, hl with | [_, _], _ => rfl),
    ox_InvalidSheaf := ⟨⟨⟨_, _, _, _, _, _, _, _, _, _, _, _, _, _, _, xl_InvalidSheaf.trans (congrArg some xo_InvalidSheaf), by rfl⟩, xs_InvalidSheaf, xe_InvalidSheaf, xt_InvalidSheaf, xk_InvalidSheaf⟩, a7, i7⟩,
    a_InvalidSheaf_init := _, d_InvalidSheaf_init := _, F_InvalidSheaf_init := fun_mk (st := s_InvalidSheaf_init) l7 c7 k7, b_InvalidSheaf_init := (fun_mk (st := s_InvalidSheaf_init) l7 c7 k7).binds (ps := ["self", "index"]) (fun _ _ _ _ _ _ us hl => match us, hl with | [_, _], _ => rfl),
    g_valid_record := PySem.W.mg_of X G a8,
    a_valid_record := _, d_valid_record := _, F_valid_record := fun_mk (st := s_valid_record) l8 c8 k8, b_valid_record := (fun_mk (st := s_valid_record) l8 c8 k8).binds (ps := ["text"]) (fun _ _ _ _ _ _ us hl => match us, hl with | [_], _ => rfl),
    mk_Sheaf := ⟨mk_Sheaf, a9, i9, kc_Sheaf⟩,
    a_Sheaf_init := _, d_Sheaf_init := _, F_Sheaf_init := fun_mk (st := s_Sheaf_init) l9 c9 k9, b_Sheaf_init := (fun_mk (st := s_Sheaf_init) l9 c9 k9).binds (ps := ["self", "rows"]) (fun _ _ _ _ _ _ us hl => match us, hl with | [_, _], _ => rfl),
    me_Sheaf_len := ⟨a10, i10, k10⟩,
    a_Sheaf_len := _, d_Sheaf_len := _, F_Sheaf_len := fun_mk (st := s_Sheaf_len) l10 c10 k10, b_Sheaf_len := (fun_mk (st := s_Sheaf_len) l10 c10 k10).binds (ps := ["self"]) (fun _ _ _ _ _ _ us hl => match us, hl with | [_], _ => rfl),
    me_Sheaf_rows := ⟨a11, i11, k11⟩,
    a_Sheaf_rows := _, d_Sheaf_rows := _, F_Sheaf_rows := fun_mk (st := s_Sheaf_rows) l11 c11 k11, b_Sheaf_rows := (fun_mk (st := s_Sheaf_rows) l11 c11 k11).binds (ps := ["self"]) (fun _ _ _ _ _ _ us hl => match us, hl with | [_], _ => rfl),
    g_law_same_rows := PySem.W.mg_of X G a12,
    a_law_same_rows := _, d_law_same_rows := _, F_law_same_rows := fun_mk (st := s_law_same_rows) l12 c12 k12, b_law_same_rows := (fun_mk (st := s_law_same_rows) l12 c12 k12).binds (ps := ["told", "rows"]) (fun _ _ _ _ _ _ us hl => match us, hl with | [_, _], _ => rfl),
    me_Sheaf_iter := ⟨a13, i13, k13⟩,
    a_Sheaf_iter := _, d_Sheaf_iter := _, F_Sheaf_iter := fun_mk (st := s_Sheaf_iter) l13 c13 k13, b_Sheaf_iter := (fun_mk (st := s_Sheaf_iter) l13 c13 k13).binds (ps := ["self"]) (fun _ _ _ _ _ _ us hl => match us, hl with | [_], _ => rfl),
    g_law_holds := PySem.W.mg_of X G a14,
    a_law_holds := _, d_law_holds := _, F_law_holds := fun_mk (st := s_law_holds) l14 c14 k14, b_law_holds := (fun_mk (st := s_law_holds) l14 c14 k14).binds (ps := ["sheaf", "rows"]) (fun _ _ _ _ _ _ us hl => match us, hl with | [_, _], _ => rfl),
    g_law_variant := PySem.W.mg_of X G a15,
    a_law_variant := _, d_law_variant := _, F_law_variant := fun_mk (st := s_law_variant) l15 c15 k15, b_law_variant := (fun_mk (st := s_law_variant) l15 c15 k15).binds (ps := ["rows", "cell", "kind"]) (fun _ _ _ _ _ _ us hl => match us, hl with | [_, _, _], _ => rfl),
    me_Sheaf_eq := ⟨a16, i16, k16⟩,
    a_Sheaf_eq := _, d_Sheaf_eq := _, F_Sheaf_eq := fun_mk (st := s_Sheaf_eq) l16 c16 k16, b_Sheaf_eq := (fun_mk (st := s_Sheaf_eq) l16 c16 k16).binds (ps := ["self", "other"]) (fun _ _ _ _ _ _ us hl => match us, hl with | [_, _], _ => rfl),
    g_law_equals := PySem.W.mg_of X G a17,
    a_law_equals := _, d_law_equals := _, F_law_equals := fun_mk (st := s_law_equals) l17 c17 k17, b_law_equals := (fun_mk (st := s_law_equals) l17 c17 k17).binds (ps := ["sheaf", "rows", "cell"]) (fun _ _ _ _ _ _ us hl => match us, hl with | [_, _, _], _ => rfl),
    me_Sheaf_add := ⟨a18, i18, k18⟩,
    a_Sheaf_add := _, d_Sheaf_add := _, F_Sheaf_add := fun_mk (st := s_Sheaf_add) l18 c18 k18, b_Sheaf_add := (fun_mk (st := s_Sheaf_add) l18 c18 k18).binds (ps := ["self", "other"]) (fun _ _ _ _ _ _ us hl => match us, hl with | [_, _], _ => rfl),
    g_law_sums := PySem.W.mg_of X G a19,
    a_law_sums := _, d_law_sums := _, F_law_sums := fun_mk (st := s_law_sums) l19 c19 k19, b_law_sums := (fun_mk (st := s_law_sums) l19 c19 k19).binds (ps := ["one", "two", "three"]) (fun _ _ _ _ _ _ us hl => match us, hl with | [_, _, _], _ => rfl),
    g_law := PySem.W.mg_of X G a20,
    a_law := _, d_law := _, F_law := fun_mk (st := s_law) l20 c20 k20, b_law := (fun_mk (st := s_law) l20 c20 k20).binds (ps := ["script"]) (fun _ _ _ _ _ _ us hl => match us, hl with | [_], _ => rfl),
    c_WornError := _, g_WornError := PySem.W.mg_of X G aC_WornError,
    bx_WornError := ⟨xr_WornError, xg_WornError, xv_WornError⟩,
    c_InvalidSheaf := _, g_InvalidSheaf := PySem.W.mg_of X G aC_InvalidSheaf,
    nf_InvalidSheaf := nf_InvalidSheaf,
    c_Sheaf := _, g_Sheaf := PySem.W.mg_of X G aC_Sheaf, cls_Sheaf := ⟨pg_Sheaf, hd_Sheaf, po_Sheaf, sa_Sheaf⟩,
    isi_Sheaf := ⟨⟨pg_Sheaf, hd_Sheaf, po_Sheaf, sa_Sheaf⟩, ia_Sheaf, ib_Sheaf, ic_Sheaf, id_Sheaf⟩,
    na_Sheaf__rows := na_Sheaf__rows,
    sf_Sheaf := sf_Sheaf,
    n_bool := PySem.W.mg_none_of X G z_bool,
    n_enumerate := PySem.W.mg_none_of X G z_enumerate,
    n_int := PySem.W.mg_none_of X G z_int,
    n_isinstance := PySem.W.mg_none_of X G z_isinstance,
    n_iter := PySem.W.mg_none_of X G z_iter,
    n_len := PySem.W.mg_none_of X G z_len,
    n_list := PySem.W.mg_none_of X G z_list,
    n_range := PySem.W.mg_none_of X G z_range,
    n_str := PySem.W.mg_none_of X G z_str,
    n_tuple := PySem.W.mg_none_of X G z_tuple,
    t_LONGEST := _, g_LONGEST := PySem.W.mg_of X G v_LONGEST,
    t_SIGNS := _, g_SIGNS := PySem.W.mg_of X G v_SIGNS }
  exact ⟨PySem.W.fnOf "law" "law" (defArgs s_law) (defBody s_law) (defScope s_law) .none kV20 dc20 pm20 an20 cd20 ct20, fun s v => .of_eq rfl, fun base _ _ => (ok_law T).imp fun vs H Q E h => law_sp T vs H Q E h⟩
theorem cx_none {P : Program} {w : World} {H : Hp} {s : Shared} {e : Value} {s' : Shared} (h : L2N.CX P w [] H s (fun _ _ _ => False) e s') : False := by
  obtain ⟨_, _, _, _, _, _, _, _, _, _, _, _, z⟩ := h
  exact z
end Wk
open PySem PySem.W PyProof.Rows
set_option maxHeartbeats 0 in
theorem PySem.Challenge.cw_wornsheaf_k02_sheaf_keeps_rows_holds : PySem.Challenge.rw_wornsheaf_k02_sheaf_keeps_rows.Holds := by
  w_on; o_law; k_head; (case hw => w_witness2)
  k_fill
  refine L2.walk_of (l := PySem.Challenge.rw_wornsheaf_k02_sheaf_keeps_rows) (n := 63) (k := 8) (x := "script") (CX := fun w => L2N.CX (PySem.Challenge.rw_wornsheaf_k02_sheaf_keeps_rows).prog w) (sp := fun w => Wk.spLaw _) rfl (by decide) rfl ⟨rfl, by decide, by decide⟩ (fun w h Y => PySem.W.kIn_of Y) ?F (fun _ _ a ns hl _ hS => ⟨a, ns, rfl, hS, hl, (fun _ z => nomatch z), fun _ => rfl⟩) (fun _ _ _ _ _ h => Wk.cx_none h)
  case F =>
    intro w mg fa h KX G hmg
    refine' Wk.all_mk KX G hmg ?aC_Sheaf ?pg_Sheaf ?hd_Sheaf ?po_Sheaf ?sa_Sheaf ?mk_Sheaf ?kc_Sheaf ?na_Sheaf__rows ?ia_Sheaf ?ib_Sheaf ?ic_Sheaf ?id_Sheaf ?sf_Sheaf ?aC_WornError ?xr_WornError ?xg_WornError ?xv_WornError ?aC_InvalidSheaf ?xl_InvalidSheaf ?xo_InvalidSheaf ?xs_InvalidSheaf ?xk_InvalidSheaf ?xe_InvalidSheaf ?xt_InvalidSheaf ?nf_InvalidSheaf ?a0 ?l0 ?c0 ?k0 ?a1 ?l1 ?c1 ?k1 ?a2 ?l2 ?c2 ?k2 ?a3 ?l3 ?c3 ?k3 ?a4 ?l4 ?c4 ?k4 ?a5 ?l5 ?c5 ?k5 ?a6 ?l6 ?c6 ?k6 ?a7 ?i7 ?l7 ?c7 ?k7 ?a8 ?l8 ?c8 ?k8 ?a9 ?i9 ?l9 ?c9 ?k9 ?a10 ?i10 ?l10 ?c10 ?k10 ?a11 ?i11 ?l11 ?c11 ?k11 ?a12 ?l12 ?c12 ?k12 ?a13 ?i13 ?l13 ?c13 ?k13 ?a14 ?l14 ?c14 ?k14 ?a15 ?l15 ?c15 ?k15 ?a16 ?i16 ?l16 ?c16 ?k16 ?a17 ?l17 ?c17 ?k17 ?a18 ?i18 ?l18 ?c18 ?k18 ?a19 ?l19 ?c19 ?k19 ?a20 ?l20 ?c20 ?k20 ?z_bool ?z_enumerate ?z_int ?z_isinstance ?z_iter ?z_len ?z_list ?z_range ?z_str ?z_tuple ?v_LONGEST ?v_SIGNS
    (case aC_Sheaf => k_is)
    (case pg_Sheaf => k_is)
    (case hd_Sheaf => k_is)
    (case po_Sheaf => k_is)
    (case sa_Sheaf => k_is)
    (case mk_Sheaf => k_is)
    (case kc_Sheaf => k_is)
    (case na_Sheaf__rows => k_is)
    (case ia_Sheaf => k_is)
    (case ib_Sheaf => k_is)
    (case ic_Sheaf => k_is)
    (case id_Sheaf => k_is)
    (case sf_Sheaf => k_is)
    (case aC_WornError => k_is)
    (case xr_WornError => k_is)
    (case xg_WornError => k_is)
    (case xv_WornError => k_is)
    (case aC_InvalidSheaf => k_is)
    (case xl_InvalidSheaf => k_is)
    (case xo_InvalidSheaf => rfl)
    (case xs_InvalidSheaf => k_is)
    (case xk_InvalidSheaf => k_is)
    (case xe_InvalidSheaf => k_is)
    (case xt_InvalidSheaf => k_is)
    (case nf_InvalidSheaf => k_is)
    (case a0 => k_is)
    (case l0 => k_is)
    (case c0 => k_is)
    (case k0 => k_is)
    (case a1 => k_is)
    (case l1 => k_is)
    (case c1 => k_is)
    (case k1 => k_is)
    (case a2 => k_is)
    (case l2 => k_is)
    (case c2 => k_is)
    (case k2 => k_is)
    (case a3 => k_is)
    (case l3 => k_is)
    (case c3 => k_is)
    (case k3 => k_is)
    (case a4 => k_is)
    (case l4 => k_is)
    (case c4 => k_is)
    (case k4 => k_is)
    (case a5 => k_is)
    (case l5 => k_is)
    (case c5 => k_is)
    (case k5 => k_is)
    (case a6 => k_is)
    (case l6 => k_is)
    (case c6 => k_is)
    (case k6 => k_is)
    (case a7 => k_is)
    (case i7 => k_is)
    (case l7 => k_is)
    (case c7 => k_is)
    (case k7 => k_is)
    (case a8 => k_is)
    (case l8 => k_is)
    (case c8 => k_is)
    (case k8 => k_is)
    (case a9 => k_is)
    (case i9 => k_is)
    (case l9 => k_is)
    (case c9 => k_is)
    (case k9 => k_is)
    (case a10 => k_is)
    (case i10 => k_is)
    (case l10 => k_is)
    (case c10 => k_is)
    (case k10 => k_is)
    (case a11 => k_is)
    (case i11 => k_is)
    (case l11 => k_is)
    (case c11 => k_is)
    (case k11 => k_is)
    (case a12 => k_is)
    (case l12 => k_is)
    (case c12 => k_is)
    (case k12 => k_is)
    (case a13 => k_is)
    (case i13 => k_is)
    (case l13 => k_is)
    (case c13 => k_is)
    (case k13 => k_is)
    (case a14 => k_is)
    (case l14 => k_is)
    (case c14 => k_is)
    (case k14 => k_is)
    (case a15 => k_is)
    (case l15 => k_is)
    (case c15 => k_is)
    (case k15 => k_is)
    (case a16 => k_is)
    (case i16 => k_is)
    (case l16 => k_is)
    (case c16 => k_is)
    (case k16 => k_is)
    (case a17 => k_is)
    (case l17 => k_is)
    (case c17 => k_is)
    (case k17 => k_is)
    (case a18 => k_is)
    (case i18 => k_is)
    (case l18 => k_is)
    (case c18 => k_is)
    (case k18 => k_is)
    (case a19 => k_is)
    (case l19 => k_is)
    (case c19 => k_is)
    (case k19 => k_is)
    (case a20 => k_is)
    (case l20 => k_is)
    (case c20 => k_is)
    (case k20 => k_is)
    (case z_bool => k_is)
    (case z_enumerate => k_is)
    (case z_int => k_is)
    (case z_isinstance => k_is)
    (case z_iter => k_is)
    (case z_len => k_is)
    (case z_list => k_is)
    (case z_range => k_is)
    (case z_str => k_is)
    (case z_tuple => k_is)
    (case v_LONGEST => k_is)
    (case v_SIGNS => k_is)
