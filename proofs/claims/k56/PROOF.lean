import PyProof.Rows.All
import Wide.All
import OpenK.AllK
import Wide.FinOn
import HandS.ForMost
import HandS.ForExc
import HandS.ExcCtx
import HandS.HotCalls
import HandS.Wide
import HandS.IsInst
import HandS.Lambda
import HandS.Zip
import HandS.Rev
import HandS.Conv
import HandS.Property
import HandS.CallSlots
import HandS.OwnEq
import HandS.Style
import HandS.SetFor
import HandS.SortInts
import HandS.Defaults
import HandS.ExcInit
import HandS.FStr
import HandS.ExcField
import HandS.ExcIs
import HandS.TryMany
import KE.KExcIs
import KE.KIsAll
import HandS.Deep
import HandS.More
import HandS.WordsDict
import HandS.RaiseOp
import KE.GoesMore
import HandS.Iter
import HandS.TupAny
import KE.SortData
import HandS.SortKw
import HandS.Flow
import KE.SortKeyHeap
import HandS.DictComp
import HandS.OwnIter
import HandS.IterVal
import HandS.FStrTup
import KE.KNestM
import KE.KLam
import HandS.EndTab
import PySem.Challenge.RW_wornsheaf_k56_whole_shares_met_again
set_option Elab.async false
set_option linter.all false
set_option maxRecDepth 100000
set_option maxHeartbeats 4000000
namespace Wm
open PySem PySem.Spec PyProof.Rows L2

/-! ### results -/
inductive PD where
  | non | bl (b : Bool) | int (i : Int) | str (s : Str) | tup (xs : List PD)
structure Exc where
  cls : String
  fld : List (Str × PD)
inductive Rs (α : Type) where
  | no | ok (a : α) | ex (x : Exc)
namespace Rs
variable {α β γ ρ : Type}
def bind : Rs α → (α → Rs β) → Rs β
  | .no, _ => .no
  | .ok a, f => f a
  | .ex x, _ => .ex x
def nox : Rs α → Rs α
  | .ok a => .ok a
  | _ => .no
/-- a loop over a list -/
def fold (f : γ → α → Rs γ) : γ → List α → Rs γ
  | g, [] => .ok g
  | g, x :: xs => (f g x).bind fun g' => fold f g' xs
/-- .. that may be left by a return -/
def foldR (f : γ → α → Rs (γ ⊕ ρ)) : γ → List α → Rs (γ ⊕ ρ)
  | g, [] => .ok (.inl g)
  | g, x :: xs => (f g x).bind fun r => match r with
    | .inl g' => foldR f g' xs
    | .inr z => .ok (.inr z)
/-- a comprehension -/
def comp (t : α → Rs Bool) (f : α → Rs β) : List α → Rs (List β)
  | [] => .ok []
  | x :: xs => (t x).nox.bind fun b => if b = true then (f x).nox.bind fun y => (comp t f xs).bind fun ys => .ok (y :: ys) else comp t f xs
/-- a while, n turns at most -/
def iter (t : γ → Rs Bool) (b : γ → Rs γ) : Nat → γ → Rs γ
  | 0, _ => .no
  | n + 1, g => (t g).bind fun c => if c = true then (b g).bind (iter t b n) else .ok g
open Classical in
noncomputable def whl (t : γ → Rs Bool) (b : γ → Rs γ) (g : γ) : Rs γ :=
  if h : ∃ n, iter t b n g ≠ .no then iter t b (Classical.choose h) g else .no
theorem whl_is {t : γ → Rs Bool} {b : γ → Rs γ} {g : γ} : whl t b g = .no ∨ ∃ n, whl t b g = iter t b n g := by
  unfold whl
  split
  · exact .inr ⟨_, rfl⟩
  · exact .inl rfl
theorem iter_more {t : γ → Rs Bool} {b : γ → Rs γ} : ∀ (n : Nat) (g : γ), iter t b n g ≠ .no → iter t b (n + 1) g = iter t b n g
  | 0, g, h => absurd rfl h
  | n + 1, g, h => by
    show (t g).bind _ = (t g).bind _
    have h' : (t g).bind (fun c => if c = true then (b g).bind (iter t b n) else .ok g) ≠ .no := h
    cases e : t g with
    | no => rfl
    | ex x => rfl
    | ok c =>
      rw [e] at h'
      cases c with
      | false => rfl
      | true =>
        show (b g).bind (iter t b (n + 1)) = (b g).bind (iter t b n)
        have h2 : (b g).bind (iter t b n) ≠ .no := h'
        cases e2 : b g with
        | no => rfl
        | ex x => rfl
        | ok g' =>
          rw [e2] at h2
          exact iter_more n g' h2
theorem iter_plus {t : γ → Rs Bool} {b : γ → Rs γ} {n : Nat} {g : γ} (h : iter t b n g ≠ .no) : ∀ k, iter t b (n + k) g = iter t b n g
  | 0 => rfl
  | k + 1 => by
    have e := iter_plus h k
    exact (iter_more (n + k) g (by rw [e]; exact h)).trans e
theorem whl_of {t : γ → Rs Bool} {b : γ → Rs γ} {n : Nat} {g : γ} (h : iter t b n g ≠ .no) : whl t b g = iter t b n g := by
  have hx : ∃ n, iter t b n g ≠ .no := ⟨n, h⟩
  unfold whl
  rw [dif_pos hx]
  have h1 := iter_plus (Classical.choose_spec hx) n
  have h2 := iter_plus h (Classical.choose hx)
  rw [Nat.add_comm] at h2
  exact h1.symm.trans h2
theorem whl_eq (t : γ → Rs Bool) (b : γ → Rs γ) (g : γ) : whl t b g = (t g).bind fun c => if c = true then (b g).bind (whl t b) else .ok g := by
  by_cases hx : ∃ n, iter t b n g ≠ .no
  · obtain ⟨n, h⟩ := hx
    rw [whl_of h]
    cases n with
    | zero => exact absurd rfl h
    | succ n =>
      have h' : (t g).bind (fun c => if c = true then (b g).bind (iter t b n) else .ok g) ≠ .no := h
      show (t g).bind (fun c => if c = true then (b g).bind (iter t b n) else .ok g) = _
      cases e : t g with
      | no => rfl
      | ex x => rfl
      | ok c =>
        cases c with
        | false => rfl
        | true =>
          rw [e] at h'
          show (b g).bind (iter t b n) = (b g).bind (whl t b)
          have h2 : (b g).bind (iter t b n) ≠ .no := h'
          cases e2 : b g with
          | no => rfl
          | ex x => rfl
          | ok g' =>
            rw [e2] at h2
            exact (whl_of (n := n) h2).symm
  · have e0 : whl t b g = .no := by
      unfold whl
      rw [dif_neg hx]
    rw [e0]
    have no1 : iter t b 1 g = .no := Classical.byContradiction fun h => hx ⟨1, h⟩
    have noN : ∀ n, iter t b (n + 1) g = .no := fun n => Classical.byContradiction fun h => hx ⟨n + 1, h⟩
    cases e : t g with
    | no => rfl
    | ex x =>
      have h1 : (t g).bind (fun c => if c = true then (b g).bind (iter t b 0) else .ok g) = .no := no1
      rw [e] at h1
      cases h1
    | ok c =>
      cases c with
      | false =>
        have h1 : (t g).bind (fun c => if c = true then (b g).bind (iter t b 0) else .ok g) = .no := no1
        rw [e] at h1
        cases h1
      | true =>
        show Rs.no = (b g).bind (whl t b)
        cases e2 : b g with
        | no => rfl
        | ex x =>
          have h1 : (t g).bind (fun c => if c = true then (b g).bind (iter t b 0) else .ok g) = .no := no1
          rw [e] at h1
          have h2 : (b g).bind (iter t b 0) = .no := h1
          rw [e2] at h2
          cases h2
        | ok g' =>
          show Rs.no = whl t b g'
          have all : ∀ n, iter t b n g' = .no := fun n => by
            have h1 : (t g).bind (fun c => if c = true then (b g).bind (iter t b n) else .ok g) = .no := noN n
            rw [e] at h1
            have h2 : (b g).bind (iter t b n) = .no := h1
            rw [e2] at h2
            exact h2
          unfold whl
          rw [dif_neg fun ⟨n, h⟩ => h (all n)]
end Rs

/-! ### heaps that grow: a table of code objects may grow, all else stays -/
def Same (H H' : Hp) : Prop := ∀ a o, H a = some o → H' a = some o ∨ ((∃ ps, o = .tbl ps) ∧ ∃ ps', H' a = some (.tbl ps'))
/-- neither a table nor a code object -/
def Pl (o : HO) : Prop := (∀ ps, o ≠ .tbl ps) ∧ ∀ f, o ≠ .ext f
theorem Pl.lst {vs : List V} : Pl (.lst vs) := ⟨(fun _ z => nomatch z), (fun _ z => nomatch z)⟩
theorem Pl.tup {vs : List V} : Pl (.tup vs) := ⟨(fun _ z => nomatch z), (fun _ z => nomatch z)⟩
theorem Pl.ins {c : Addr} {dx : Addr} {fs : List (Str × V)} : Pl (.ins c dx fs) := ⟨(fun _ z => nomatch z), (fun _ z => nomatch z)⟩
theorem Same.refl (H : Hp) : Same H H := fun _ _ h => .inl h
theorem Same.trans {H H1 H2 : Hp} (a : Same H H1) (b : Same H1 H2) : Same H H2 := fun c o h => by
  rcases a c o h with e | ⟨e, ps, e2⟩
  · exact b c o e
  · rcases b c _ e2 with k | ⟨_, ps', k⟩
    · exact .inr ⟨e, ps, k⟩
    · exact .inr ⟨e, ps', k⟩
theorem Same.free {H H' : Hp} (e : Same H H') {l : Addr} (h : H' l = none) : H l = none := by
  cases q : H l with
  | none => rfl
  | some o =>
    rcases e l o q with k | ⟨_, _, k⟩ <;> rw [h] at k <;> cases k
theorem Same.nt {H H' : Hp} (s : Same H H') {a : Addr} {o : HO} (h : H a = some o) (p : ∀ ps, o ≠ .tbl ps) : H' a = some o := by
  rcases s a o h with k | ⟨⟨ps, e⟩, _⟩
  · exact k
  · exact absurd e (p ps)
theorem Same.v {H H' : Hp} (s : Same H H') {a : Addr} {o : HO} (h : H a = some o) (p : ∀ ps, o ≠ .tbl ps := by intro _ z; cases z) : H' a = some o := s.nt h p
theorem Same.get {H H' : Hp} (s : Same H H') {a : Addr} {o : HO} (h : H a = some o) (p : Pl o) : H' a = some o := s.nt h p.1
/-- .. the same but for locks: of a dict there may stand the locked one -/
def SameL (G H : Hp) : Prop := ∀ a o, G a = some o → H a = some o ∨ ((∃ ps, o = .tbl ps) ∧ ∃ ps', H a = some (.tbl ps')) ∨ ∃ ob ps, o = .dK ps ∧ H a = some (.frz ob (.dK ps))
theorem Same.l {G H : Hp} (s : Same G H) : SameL G H := fun a o h => (s a o h).imp_right .inl
theorem SameL.refl (H : Hp) : SameL H H := fun _ _ h => .inl h
theorem SameL.free {H H' : Hp} (e : SameL H H') {l : Addr} (h : H' l = none) : H l = none := by
  cases q : H l with
  | none => rfl
  | some o =>
    rcases e l o q with k | ⟨_, _, k⟩ | ⟨_, _, _, k⟩ <;> rw [h] at k <;> cases k
theorem SameL.nt {H H' : Hp} (s : SameL H H') {a : Addr} {o : HO} (h : H a = some o) (p : (∀ ps, o ≠ .tbl ps) ∧ ∀ ps, o ≠ .dK ps) : H' a = some o := by
  rcases s a o h with k | ⟨⟨ps, e⟩, _⟩ | ⟨_, ps, e, _⟩
  · exact k
  · exact absurd e (p.1 ps)
  · exact absurd e (p.2 ps)
theorem SameL.v {H H' : Hp} (s : SameL H H') {a : Addr} {o : HO} (h : H a = some o) (p : (∀ ps, o ≠ .tbl ps) ∧ ∀ ps, o ≠ .dK ps := by exact ⟨(fun _ z => nomatch z), (fun _ z => nomatch z)⟩) : H' a = some o := s.nt h p
theorem SameL.trans {G H H' : Hp} (a : SameL G H) (b : Same H H') : SameL G H' := fun c o h => by
  rcases a c o h with e | ⟨e, ps, e2⟩ | ⟨ob, ps, e, e2⟩
  · exact b.l c o e
  · rcases b c _ e2 with k | ⟨_, ps', k⟩
    · exact .inr (.inl ⟨e, ps, k⟩)
    · exact .inr (.inl ⟨e, ps', k⟩)
  · exact .inr (.inr ⟨ob, ps, e, b.v e2⟩)
theorem Same.transL {G G' H : Hp} (a : Same G G') (b : SameL G' H) : SameL G H := fun c o h => by
  rcases a c o h with e | ⟨e, ps, e2⟩
  · exact b c o e
  · rcases b c _ e2 with k | ⟨_, ps', k⟩ | ⟨ob, ps, k, _⟩
    · exact .inr (.inl ⟨e, ps, k⟩)
    · exact .inr (.inl ⟨e, ps', k⟩)
    · cases k
theorem SameL.seq {K : PySem.W.Frag} {H H' : Hp} {a : Addr} {xs : List V} (e : SameL H H') (h : SqL K H a xs) : SqL K H' a xs := by
  rcases h with (h | ⟨o, h⟩) | h
  · exact .inl (.inl (e.v h))
  · exact .inl (.inr ⟨o, e.v h⟩)
  · exact .inr h
theorem Same.seq {K : PySem.W.Frag} {H H' : Hp} {a : Addr} {xs : List V} (e : Same H H') (h : SqL K H a xs) : SqL K H' a xs := by
  rcases h with (h | ⟨o, h⟩) | h
  · exact .inl (.inl (e.nt h fun _ z => by cases z))
  · exact .inl (.inr ⟨o, e.nt h fun _ z => by cases z⟩)
  · exact .inr h
/-- the tables that a law's lambdas are kept in -/
class TabT where
  T : List (Addr × Str)
theorem tabs_upd {T : List (Addr × Str)} {H : Hp} {p : Addr} {o u : HO} (t : LamX.Tabs T H) (h : H p = some u) (hp : Pl u) : LamX.Tabs T (upd H p o) := fun x hx => by
  obtain ⟨ps, h1, h2, h3⟩ := t x hx
  have n1 : x.1 ≠ p := fun e => hp.1 ps (by rw [e, h] at h1; exact Option.some.inj h1)
  refine ⟨ps, by rw [upd_ne n1]; exact h1, h2, fun pos cv hc => ?_⟩
  obtain ⟨c, e1, e2⟩ := h3 pos cv hc
  have n2 : c ≠ p := fun e => by
    rw [e, h] at e2
    exact hp.2 _ (Option.some.inj e2)
  exact ⟨c, e1, by rw [upd_ne n2]; exact e2⟩
theorem tabs_new {T : List (Addr × Str)} {H : Hp} {p : Addr} {o : HO} (t : LamX.Tabs T H) (h : H p = none) : LamX.Tabs T (upd H p o) := LamX.Tabs.ext t fun b u e => by rw [upd_ne (ne_of_none e h)]; exact e

/-! ### representation -/
structure Wd where
  K : PySem.W.Frag
  cm : String → Addr
class Own (β : Type) where
  own : Wd → Hp → HO → β → Prop
  pl : ∀ {wd G o b}, own wd G o b → Pl o
  mono : ∀ {wd G G' o b}, Same G G' → own wd G o b → own wd G' o b
class Rep (α : Type) where
  rep : Wd → Hp → V → α → Prop
  mono : ∀ {wd G G' v a}, Same G G' → rep wd G v a → rep wd G' v a
open Rep (rep)
open Own (own)
/-- the locked object serves for the object -/
class LkO (β : Type) [Own β] : Prop where
  lk : ∀ {wd : Wd} {G : Hp} {o : HO} {b : β} {ob : Obj} {ps : List (Key × V)}, own wd G o b → o = .dK ps → own wd G (.frz ob (.dK ps)) b
theorem SameL.own {β : Type} [Own β] [LkO β] {wd : Wd} {G H K : Hp} {p : Addr} {o : HO} {b : β} (s : SameL G H) (h : G p = some o) (w : own wd K o b) : ∃ o', H p = some o' ∧ own wd K o' b := by
  rcases s p o h with k | ⟨⟨ps, e⟩, _⟩ | ⟨ob, ps, e, k⟩
  · exact ⟨o, k, w⟩
  · exact absurd e ((Own.pl w).1 ps)
  · exact ⟨_, k, LkO.lk w e⟩
instance (priority := 100) repOwn {β : Type} [Own β] : Rep β where
  rep := fun wd G v b => ∃ p o, v = .ref p ∧ G p = some o ∧ own wd G o b
  mono := fun s ⟨p, o, e, g, w⟩ => ⟨p, o, e, s.get g (Own.pl w), Own.mono s w⟩
instance : Rep Int := ⟨fun _ _ v a => v = .int a, fun _ h => h⟩
instance : Rep Bool := ⟨fun _ _ v a => v = .bl a, fun _ h => h⟩
/-- a text within the line, of signs below 1114112 -/
def SOk (a : Str) : Prop := a.cps.toList.length ≤ 16777216 ∧ ∀ c ∈ a.cps.toList, c < 1114112
instance (a : Str) : Decidable (SOk a) := inferInstanceAs (Decidable (_ ∧ _))
instance : Rep Str := ⟨fun _ _ v a => v = .str a ∧ SOk a, fun _ h => h⟩
instance : Rep Unit := ⟨fun _ _ v _ => v = .non, fun _ h => h⟩
instance {α : Type} [Rep α] : Rep (Option α) where
  rep := fun wd G v a => match a with
    | none => v = .non
    | some a => rep wd G v a
  mono := fun {wd G G' v a} s h => by
    cases a with
    | none => exact h
    | some a => exact Rep.mono (α := α) s h
def reps {α : Type} [Rep α] (wd : Wd) (G : Hp) : List V → List α → Prop
  | [], [] => True
  | v :: vs, a :: as => rep wd G v a ∧ reps wd G vs as
  | _, _ => False
section
variable {α : Type} [Rep α] {wd : Wd} {G G' : Hp}
theorem reps.mono (s : Same G G') : ∀ {vs : List V} {as : List α}, reps wd G vs as → reps wd G' vs as
  | [], [], _ => trivial
  | _ :: _, _ :: _, ⟨h, t⟩ => ⟨Rep.mono s h, reps.mono s t⟩
  | [], _ :: _, h => h.elim
  | _ :: _, [], h => h.elim
theorem reps.len : ∀ {vs : List V} {as : List α}, reps wd G vs as → vs.length = as.length
  | [], [], _ => rfl
  | _ :: _, _ :: _, ⟨_, t⟩ => congrArg (· + 1) (reps.len t)
  | [], _ :: _, h => h.elim
  | _ :: _, [], h => h.elim
theorem reps.get : ∀ {vs : List V} {as : List α} {i : Nat} {a : α}, reps wd G vs as → as[i]? = some a → ∃ v, vs[i]? = some v ∧ rep wd G v a
  | [], [], i, a, _, h => by simp at h
  | v :: vs, b :: as, 0, a, ⟨h, t⟩, e => ⟨v, rfl, by
      have : b = a := Option.some.inj e
      exact this ▸ h⟩
  | v :: vs, b :: as, i + 1, a, ⟨h, t⟩, e => reps.get (i := i) t e
  | [], _ :: _, _, _, h, _ => h.elim
  | _ :: _, [], _, _, h, _ => h.elim
theorem reps.snoc : ∀ {vs : List V} {as : List α} {v : V} {a : α}, reps wd G vs as → rep wd G v a → reps wd G (vs ++ [v]) (as ++ [a])
  | [], [], _, _, _, h => ⟨h, trivial⟩
  | _ :: _, _ :: _, _, _, ⟨h, t⟩, q => ⟨h, reps.snoc t q⟩
  | [], _ :: _, _, _, h, _ => h.elim
  | _ :: _, [], _, _, h, _ => h.elim
theorem reps.app : ∀ {vs ws : List V} {as bs : List α}, reps wd G vs as → reps wd G ws bs → reps wd G (vs ++ ws) (as ++ bs)
  | [], _, [], _, _, h => h
  | _ :: _, _, _ :: _, _, ⟨h, t⟩, q => ⟨h, reps.app t q⟩
  | [], _, _ :: _, _, h, _ => h.elim
  | _ :: _, _, [], _, h, _ => h.elim
theorem reps.set : ∀ {vs : List V} {as : List α} {v : V} {a : α} (i : Nat), reps wd G vs as → rep wd G v a → reps wd G (vs.set i v) (as.set i a)
  | [], [], _, _, _, _, _ => trivial
  | _ :: _, _ :: _, _, _, 0, ⟨h, t⟩, q => ⟨q, t⟩
  | _ :: _, _ :: _, _, _, i + 1, ⟨h, t⟩, q => ⟨h, reps.set i t q⟩
  | [], _ :: _, _, _, _, h, _ => h.elim
  | _ :: _, [], _, _, _, h, _ => h.elim
theorem reps.take : ∀ {vs : List V} {as : List α} (n : Nat), reps wd G vs as → reps wd G (vs.take n) (as.take n)
  | _, _, 0, _ => trivial
  | [], [], _ + 1, _ => trivial
  | _ :: _, _ :: _, n + 1, ⟨h, t⟩ => ⟨h, reps.take n t⟩
  | [], _ :: _, _ + 1, h => h.elim
  | _ :: _, [], _ + 1, h => h.elim
theorem reps.drop : ∀ {vs : List V} {as : List α} (n : Nat), reps wd G vs as → reps wd G (vs.drop n) (as.drop n)
  | _, _, 0, h => h
  | [], [], _ + 1, _ => trivial
  | _ :: _, _ :: _, n + 1, ⟨h, t⟩ => reps.drop n t
  | [], _ :: _, _ + 1, h => h.elim
  | _ :: _, [], _ + 1, h => h.elim
theorem reps.ints : ∀ {vs : List V} {as : List Int}, reps wd G vs as → vs = as.map V.int
  | [], [], _ => rfl
  | _ :: _, _ :: _, ⟨h, t⟩ => by rw [show _ = V.int _ from h, reps.ints t]; rfl
  | [], _ :: _, h => h.elim
  | _ :: _, [], h => h.elim
theorem reps.strs : ∀ {vs : List V} {as : List Str}, reps wd G vs as → vs = as.map V.str
  | [], [], _ => rfl
  | _ :: _, _ :: _, ⟨h, t⟩ => by rw [show _ = V.str _ from h.1, reps.strs t]; rfl
  | [], _ :: _, h => h.elim
  | _ :: _, [], h => h.elim
theorem reps.of_ints : ∀ {as : List Int}, reps wd G (as.map V.int) as
  | [] => trivial
  | _ :: _ => ⟨rfl, reps.of_ints⟩
end
instance {α : Type} [Rep α] : Own (List α) where
  own := fun wd G o xs => ∃ vs, o = .lst vs ∧ vs.length ≤ sizeLine ∧ reps wd G vs xs
  pl := fun ⟨_, e, _⟩ => by subst e; exact Pl.lst
  mono := fun s ⟨vs, e, l, h⟩ => ⟨vs, e, l, h.mono s⟩
instance {α : Type} [Rep α] : LkO (List α) := ⟨fun ⟨_, e, _⟩ z => by rw [e] at z; cases z⟩
/-- a tuple of any length, of one kind -/
structure Tup (α : Type) where
  items : List α
instance {α : Type} [Rep α] : Own (Tup α) where
  own := fun wd G o xs => ∃ vs, o = .tup vs ∧ vs.length ≤ sizeLine ∧ reps wd G vs xs.items
  pl := fun ⟨_, e, _⟩ => by subst e; exact Pl.tup
  mono := fun s ⟨vs, e, l, h⟩ => ⟨vs, e, l, h.mono s⟩
instance {α : Type} [Rep α] : LkO (Tup α) := ⟨fun ⟨_, e, _⟩ z => by rw [e] at z; cases z⟩
instance {α β : Type} [Rep α] [Rep β] : Own (α × β) where
  own := fun wd G o x => ∃ v w, o = .tup [v, w] ∧ rep wd G v x.1 ∧ rep wd G w x.2
  pl := fun ⟨_, _, e, _⟩ => by subst e; exact Pl.tup
  mono := fun s ⟨v, w, e, h, h2⟩ => ⟨v, w, e, Rep.mono s h, Rep.mono s h2⟩
instance {α β : Type} [Rep α] [Rep β] : LkO (α × β) := ⟨fun ⟨_, _, e, _⟩ z => by rw [e] at z; cases z⟩
structure T3 (α β γ : Type) where
  a : α
  b : β
  c : γ
instance {α β γ : Type} [Rep α] [Rep β] [Rep γ] : Own (T3 α β γ) where
  own := fun wd G o x => ∃ v w u, o = .tup [v, w, u] ∧ rep wd G v x.a ∧ rep wd G w x.b ∧ rep wd G u x.c
  pl := fun ⟨_, _, _, e, _⟩ => by subst e; exact Pl.tup
  mono := fun s ⟨v, w, u, e, h, h2, h3⟩ => ⟨v, w, u, e, Rep.mono s h, Rep.mono s h2, Rep.mono s h3⟩
instance {α β γ : Type} [Rep α] [Rep β] [Rep γ] : LkO (T3 α β γ) := ⟨fun ⟨_, _, _, e, _⟩ z => by rw [e] at z; cases z⟩
structure Sheaf where
  rows : Tup (Int × Str)
instance : Own Sheaf where
  own := fun wd G o x => ∃ dx v, o = .ins (wd.cm "Sheaf") dx [(("_rows" : Str), v)] ∧ rep wd G v x.rows
  pl := fun ⟨_, _, e, _⟩ => by subst e; exact Pl.ins
  mono := fun s ⟨dx, v, e, h⟩ => ⟨dx, v, e, Rep.mono s h⟩
instance : LkO Sheaf := ⟨fun ⟨_, _, e, _⟩ z => by rw [e] at z; cases z⟩
/-- the law's script -/
structure Script where
  ns : List Int
instance : Rep Script where
  rep := fun wd G v x => ∃ p, v = .ref p ∧ SqL wd.K G p (x.ns.map V.int)
  mono := fun s ⟨p, e, h⟩ => ⟨p, e, s.seq h⟩

/-- an exception's fields -/
def RepPD (H : Hp) : V → PD → Prop
  | v, .non => v = .non
  | v, .bl b => v = .bl b
  | v, .int i => v = .int i
  | v, .str s => v = .str s
  | v, .tup xs => ∃ p vs, v = .ref p ∧ H p = some (.tup vs) ∧ go H vs xs
where go (H : Hp) : List V → List PD → Prop
  | [], [] => True
  | v :: vs, x :: xs => RepPD H v x ∧ go H vs xs
  | _, _ => False
def RepX (H : Hp) (d : Option Addr) (x : Exc) : Prop :=
  if x.fld = [] then d = none else ∃ a fs, d = some a ∧ H a = some (.xd fs) ∧ fs.length = x.fld.length ∧ ∀ f v, x.fld.lookup f = some v → ∃ u, fs.lookup f = some u ∧ RepPD H u v

/-! ### trees of owned objects: wd, the frozen heap, the heap, the value, what it is, the addresses that it owns -/
structure OT (β : Type) where
  rel : Wd → Hp → Hp → V → β → List Addr → Prop
  there : ∀ {wd G H v b as}, rel wd G H v b as → ∀ q ∈ as, ∃ o, H q = some o ∧ Pl o
  mono : ∀ {wd G G' H H' v b as}, Same G G' → (∀ q ∈ as, H' q = H q) → rel wd G H v b as → rel wd G' H' v b as
open Classical in
/-- the objects at as are laid into the frozen heap -/
noncomputable def addAll (G H : Hp) (as : List Addr) : Hp := fun a => if a ∈ as then H a else G a
/-- a tree that may be frozen -/
class FzT {β : Type} [Rep β] (t : OT β) : Prop where
  fz : ∀ {wd G H v b as}, as.Nodup → (∀ q ∈ as, G q = none) → t.rel wd G H v b as → rep wd (addAll G H as) v b
/-! ### contexts -/
inductive Ent : Type 1 where
  | fz (i : Nat) (α : Type) [r : Rep α]
  | ow (i : Nat) (β : Type) [r : Own β]
  | bo (i : Nat) (β : Type) [r : Own β]
  | oo (i : Nat) (β : Type) [r : Own β]
  | sf (i : Nat) (β : Type) [r : Own β] (x : Addr)
  | ot (i : Nat) (β : Type) (t : OT β)
@[reducible] def Ent.T : Ent → Type
  | @Ent.fz _ α _ => α
  | @Ent.ow _ β _ => β
  | @Ent.bo _ β _ => β
  | @Ent.oo _ β _ => Option β
  | @Ent.sf _ β _ _ => β
  | @Ent.ot _ β _ => β
@[reducible] def Ent.slot : Ent → Nat
  | @Ent.fz i _ _ => i
  | @Ent.ow i _ _ => i
  | @Ent.bo i _ _ => i
  | @Ent.oo i _ _ => i
  | @Ent.sf i _ _ _ => i
  | @Ent.ot i _ _ => i
abbrev Ctx := List Ent
@[reducible] def Ctx.T : Ctx → Type
  | [] => Unit
  | e :: c => e.T × Ctx.T c
def Ctx.not (j : Nat) : Ctx → Bool
  | [] => true
  | e :: c => (e.slot != j) && Ctx.not j c
/-- the names and what they hold; os: the owned objects, from the left -/
def R (wd : Wd) (H0 : Hp) (σ : L2.St) (H G : Hp) : (c : Ctx) → Ctx.T c → List Addr → Prop
  | [], _, os => os = []
  | @Ent.fz i α r :: c, γ, os => (∃ v, σ[i]? = some (some v) ∧ r.rep wd G v γ.1) ∧ R wd H0 σ H G c γ.2 os
  | @Ent.ow i β r :: c, γ, os => ∃ p o os', os = p :: os' ∧ σ[i]? = some (some (.ref p)) ∧ H p = some o ∧ r.own wd G o γ.1 ∧ R wd H0 σ H G c γ.2 os'
  | @Ent.bo i β r :: c, γ, os => (∃ p o, σ[i]? = some (some (.ref p)) ∧ H0 p = some o ∧ r.own wd G o γ.1) ∧ R wd H0 σ H G c γ.2 os
  | @Ent.oo i β r :: c, γ, os => (γ.1 = none ∧ σ[i]? = some (some .non) ∧ R wd H0 σ H G c γ.2 os) ∨ ∃ b p o os', γ.1 = some b ∧ os = p :: os' ∧ σ[i]? = some (some (.ref p)) ∧ H p = some o ∧ r.own wd G o b ∧ R wd H0 σ H G c γ.2 os'
  | @Ent.sf i β r x :: c, γ, os => ∃ o os', os = x :: os' ∧ σ[i]? = some (some (.ref x)) ∧ H x = some o ∧ r.own wd G o γ.1 ∧ R wd H0 σ H G c γ.2 os'
  | @Ent.ot i β t :: c, γ, os => ∃ v as os', os = as ++ os' ∧ σ[i]? = some (some v) ∧ t.rel wd G H v γ.1 as ∧ R wd H0 σ H G c γ.2 os'
structure Fr [TabT] (H G H' G' : Hp) : Prop where
  h : Same H H'
  g : Same G G'
  gh : SameL G' H'
  new : ∀ a o, G' a = some o → G a = some o ∨ H a = none
  tb : LamX.Tabs TabT.T H → LamX.Tabs TabT.T H'
section
variable [TabT]
theorem Fr.refl {H G : Hp} (h : SameL G H) : Fr H G H G := ⟨Same.refl H, Same.refl G, h, fun _ _ e => .inl e, fun t => t⟩
theorem Fr.trans {H G H1 G1 H2 G2 : Hp} (a : Fr H G H1 G1) (b : Fr H1 G1 H2 G2) : Fr H G H2 G2 :=
  ⟨a.h.trans b.h, a.g.trans b.g, b.gh, fun x o e => by
    rcases b.new x o e with q | q
    · exact a.new x o q
    · exact .inr (a.h.free q), fun t => b.tb (a.tb t)⟩
theorem Fr.out {H G H' G' : Hp} (f : Fr H G H' G') {p : Addr} {o : HO} (h : H p = some o) (g : G p = none) : G' p = none := by
  cases e : G' p with
  | none => rfl
  | some u =>
    rcases f.new p u e with q | q
    · rw [g] at q; cases q
    · rw [h] at q; cases q
omit [TabT] in
omit [TabT] in
/-- a new object on the heap, not frozen -/
theorem Same.upd' {H H' : Hp} {p : Addr} {o : HO} (e : Same H H') (h : H p = none) : Same H (upd H' p o) := fun a u ha => by
  rw [upd_ne (ne_of_none ha h)]
  exact e a u ha
omit [TabT] in
theorem SameL.upd' {H H' : Hp} {p : Addr} {o : HO} (e : SameL H H') (h : H' p = none) : SameL H (upd H' p o) := fun a u ha => by
  rw [upd_ne (ne_of_none ha (e.free h))]
  exact e a u ha
theorem Fr.alloc {H G : Hp} {p : Addr} {o : HO} (gh : SameL G H) (n : H p = none) : Fr H G (upd H p o) G :=
  ⟨Same.upd' (Same.refl H) n, Same.refl G, SameL.upd' gh n, fun _ _ e => .inl e, fun t => tabs_new t n⟩
/-- a fresh object is frozen -/
theorem Fr.freeze {H G H' G' : Hp} {p : Addr} {o : HO} (f : Fr H G H' G') (n : H p = none) (g : G' p = none) (e : H' p = some o) : Fr H G H' (upd G' p o) :=
  ⟨f.h, Same.upd' f.g (f.g.free g), fun a u q => by
    by_cases ha : a = p
    · subst ha
      rw [upd_same] at q
      cases q
      exact .inl e
    · rw [upd_ne ha] at q
      exact f.gh a u q, fun a u q => by
    by_cases ha : a = p
    · subst ha
      exact .inr n
    · rw [upd_ne ha] at q
      exact f.new a u q, f.tb⟩
end
/-- the slots: how many, which may be set, what is kept of the others -/
structure Sl where
  n : Nat
  ok : Nat → Prop
  keep : L2.St → Prop
  put : ∀ σ j x, ok j → keep σ → keep (σ.set j x)
def Sl.all (n : Nat) : Sl := ⟨n, fun _ => True, fun _ => True, fun _ _ _ _ _ => trivial⟩
def Sl.P (n : Sl) (σ : L2.St) : Prop := σ.length = n.n ∧ n.keep σ
def Sl.lt (n : Sl) (j : Nat) : Prop := j < n.n ∧ n.ok j
theorem Sl.P.set {n : Sl} {σ : L2.St} {j : Nat} {x : Option V} (h : n.P σ) (hj : n.lt j) : n.P (σ.set j x) := ⟨by rw [List.length_set]; exact h.1, n.put σ j x hj.2 h.2⟩
structure Stt [TabT] (wd : Wd) (n : Sl) (H0 G0 : Hp) (σ : L2.St) (H G : Hp) (os : List Addr) (c : Ctx) (γ : Ctx.T c) : Prop where
  len : n.P σ
  f : Fr H0 G0 H G
  nd : os.Nodup
  fr : ∀ p ∈ os, G p = none ∧ H0 p = none
  r : R wd H0 σ H G c γ os
  t : LamX.Tabs TabT.T H0
section
variable [TabT] {wd : Wd} {H0 G0 : Hp} {σ : L2.St} {H G H' G' : Hp}
omit [TabT] in
theorem R.there : ∀ {c : Ctx} {γ : Ctx.T c} {os : List Addr}, R wd H0 σ H G c γ os → ∀ p ∈ os, ∃ o, H p = some o ∧ Pl o
  | [], _, os, h, p, hp => by
    have e : os = [] := h
    rw [e] at hp
    cases hp
  | @Ent.fz i α _ :: c, γ, os, h, p, hp => R.there h.2 p hp
  | @Ent.bo i α _ :: c, γ, os, h, p, hp => R.there h.2 p hp
  | @Ent.ow i α _ :: c, γ, os, h, p, hp => by
    obtain ⟨q, o, os', rfl, h1, h2, h3, h4⟩ := h
    rcases List.mem_cons.mp hp with e | e
    · exact ⟨o, by rw [e]; exact h2, Own.pl h3⟩
    · exact R.there h4 p e
  | @Ent.oo i α _ :: c, γ, os, h, p, hp => by
    rcases h with ⟨_, _, h⟩ | ⟨b, q, o, os', _, rfl, h1, h2, h3, h4⟩
    · exact R.there h p hp
    · rcases List.mem_cons.mp hp with e | e
      · exact ⟨o, by rw [e]; exact h2, Own.pl h3⟩
      · exact R.there h4 p e
  | @Ent.sf i α _ x :: c, γ, os, h, p, hp => by
    obtain ⟨o, os', rfl, h1, h2, h3, h4⟩ := h
    rcases List.mem_cons.mp hp with e | e
    · exact ⟨o, by rw [e]; exact h2, Own.pl h3⟩
    · exact R.there h4 p e
  | @Ent.ot i α t :: c, γ, os, h, p, hp => by
    obtain ⟨v, as, os', rfl, h1, h2, h3⟩ := h
    rcases List.mem_append.mp hp with e | e
    · exact t.there h2 p e
    · exact R.there h3 p e
omit [TabT] in
theorem R.mono (g : Same G G') : ∀ {c : Ctx} {γ : Ctx.T c} {os : List Addr}, (∀ p ∈ os, H' p = H p) → R wd H0 σ H G c γ os → R wd H0 σ H' G' c γ os
  | [], _, os, _, h => h
  | @Ent.fz i α _ :: c, γ, os, k, ⟨⟨v, h1, h2⟩, h⟩ => ⟨⟨v, h1, Rep.mono g h2⟩, R.mono g k h⟩
  | @Ent.bo i α _ :: c, γ, os, k, ⟨⟨p, o, h1, h2, h3⟩, h⟩ => ⟨⟨p, o, h1, h2, Own.mono g h3⟩, R.mono g k h⟩
  | @Ent.ow i α _ :: c, γ, os, k, h => by
    obtain ⟨q, o, os', rfl, h1, h2, h3, h4⟩ := h
    exact ⟨q, o, os', rfl, h1, (k q List.mem_cons_self).trans h2, Own.mono g h3, R.mono g (fun p hp => k p (List.mem_cons_of_mem _ hp)) h4⟩
  | @Ent.oo i α _ :: c, γ, os, k, h => by
    rcases h with ⟨e, h1, h⟩ | ⟨b, q, o, os', e, rfl, h1, h2, h3, h4⟩
    · exact .inl ⟨e, h1, R.mono g k h⟩
    · exact .inr ⟨b, q, o, os', e, rfl, h1, (k q List.mem_cons_self).trans h2, Own.mono g h3, R.mono g (fun p hp => k p (List.mem_cons_of_mem _ hp)) h4⟩
  | @Ent.sf i α _ x :: c, γ, os, k, h => by
    obtain ⟨o, os', rfl, h1, h2, h3, h4⟩ := h
    exact ⟨o, os', rfl, h1, (k x List.mem_cons_self).trans h2, Own.mono g h3, R.mono g (fun p hp => k p (List.mem_cons_of_mem _ hp)) h4⟩
  | @Ent.ot i α t :: c, γ, os, k, h => by
    obtain ⟨v, as, os', rfl, h1, h2, h3⟩ := h
    exact ⟨v, as, os', rfl, h1, t.mono g (fun p hp => k p (List.mem_append_left _ hp)) h2, R.mono g (fun p hp => k p (List.mem_append_right _ hp)) h3⟩
theorem Stt.ext {n : Sl} {os : List Addr} {c : Ctx} {γ : Ctx.T c} (s : Stt wd n H0 G0 σ H G os c γ) (f : Fr H G H' G') : Stt wd n H0 G0 σ H' G' os c γ :=
  ⟨s.len, s.f.trans f, s.nd, fun p hp => by
    obtain ⟨o, ho, _⟩ := s.r.there p hp
    exact ⟨f.out ho (s.fr p hp).1, (s.fr p hp).2⟩, s.r.mono f.g fun p hp => by
    obtain ⟨o, ho, pl⟩ := s.r.there p hp
    rw [ho]
    exact f.h.get ho pl, s.t⟩
omit [TabT] in
omit [TabT] in
/-- slots -/
theorem R.slots : ∀ {c : Ctx} {γ : Ctx.T c} {os : List Addr} {σ' : L2.St}, (∀ e ∈ c, σ'[e.slot]? = σ[e.slot]?) → R wd H0 σ H G c γ os → R wd H0 σ' H G c γ os
  | [], _, os, _, _, h => h
  | @Ent.fz i α _ :: c, γ, os, σ', k, ⟨⟨v, h1, h2⟩, h⟩ => ⟨⟨v, (k _ List.mem_cons_self).trans h1, h2⟩, R.slots (fun e he => k e (List.mem_cons_of_mem _ he)) h⟩
  | @Ent.bo i α _ :: c, γ, os, σ', k, ⟨⟨p, o, h1, h2⟩, h⟩ => ⟨⟨p, o, (k _ List.mem_cons_self).trans h1, h2⟩, R.slots (fun e he => k e (List.mem_cons_of_mem _ he)) h⟩
  | @Ent.ow i α _ :: c, γ, os, σ', k, h => by
    obtain ⟨q, o, os', rfl, h1, h2, h3, h4⟩ := h
    exact ⟨q, o, os', rfl, (k _ List.mem_cons_self).trans h1, h2, h3, R.slots (fun e he => k e (List.mem_cons_of_mem _ he)) h4⟩
  | @Ent.oo i α _ :: c, γ, os, σ', k, h => by
    rcases h with ⟨e, h1, h⟩ | ⟨b, q, o, os', e, rfl, h1, h2, h3, h4⟩
    · exact .inl ⟨e, (k _ List.mem_cons_self).trans h1, R.slots (fun e he => k e (List.mem_cons_of_mem _ he)) h⟩
    · exact .inr ⟨b, q, o, os', e, rfl, (k _ List.mem_cons_self).trans h1, h2, h3, R.slots (fun e he => k e (List.mem_cons_of_mem _ he)) h4⟩
  | @Ent.sf i α _ x :: c, γ, os, σ', k, h => by
    obtain ⟨o, os', rfl, h1, h2, h3, h4⟩ := h
    exact ⟨o, os', rfl, (k _ List.mem_cons_self).trans h1, h2, h3, R.slots (fun e he => k e (List.mem_cons_of_mem _ he)) h4⟩
  | @Ent.ot i α t :: c, γ, os, σ', k, h => by
    obtain ⟨v, as, os', rfl, h1, h2, h3⟩ := h
    exact ⟨v, as, os', rfl, (k _ List.mem_cons_self).trans h1, h2, R.slots (fun e he => k e (List.mem_cons_of_mem _ he)) h3⟩
omit [TabT] in
theorem Ctx.not_mem {j : Nat} : ∀ {c : Ctx}, Ctx.not j c = true → ∀ e ∈ c, e.slot ≠ j
  | [], _, e, he => by cases he
  | a :: c, h, e, he => by
    have h' : ((a.slot != j) && Ctx.not j c) = true := h
    rw [Bool.and_eq_true] at h'
    rcases List.mem_cons.mp he with q | q
    · rw [q]
      simpa using h'.1
    · exact Ctx.not_mem h'.2 e q
omit [TabT] in
theorem R.set {c : Ctx} {γ : Ctx.T c} {os : List Addr} {j : Nat} {x : Option V} (n : Ctx.not j c = true) (h : R wd H0 σ H G c γ os) : R wd H0 (σ.set j x) H G c γ os :=
  h.slots fun e he => List.getElem?_set_ne (Ne.symm (Ctx.not_mem n e he))
end

/-! ### names -/
inductive Var : Ctx → Ent → Type 1 where
  | z {e : Ent} {c : Ctx} : Var (e :: c) e
  | s {e e' : Ent} {c : Ctx} (v : Var c e) : Var (e' :: c) e
@[reducible] def Var.get : {c : Ctx} → {e : Ent} → Var c e → Ctx.T c → e.T
  | _, _, .z, γ => γ.1
  | _, _, .s v, γ => v.get γ.2
@[reducible] def Var.put : {c : Ctx} → {e : Ent} → Var c e → Ctx.T c → e.T → Ctx.T c
  | _, _, .z, γ, a => (a, γ.2)
  | _, _, .s v, γ, a => (γ.1, v.put γ.2 a)
/-- a part of the context -/
inductive Sub : Ctx → Ctx → Type 1 where
  | nil : Sub [] []
  | keep {e : Ent} {c c' : Ctx} (s : Sub c c') : Sub (e :: c) (e :: c')
  | skip {e : Ent} {c c' : Ctx} (s : Sub c c') : Sub (e :: c) c'
@[reducible] def Sub.proj : {c c' : Ctx} → Sub c c' → Ctx.T c → Ctx.T c'
  | _, _, .nil, _ => ()
  | _, _, .keep s, γ => (γ.1, s.proj γ.2)
  | _, _, .skip s, γ => s.proj γ.2
/-- owned objects are frozen -/
inductive Frz : Ctx → Ctx → Type 1 where
  | nil : Frz [] []
  | keep {e : Ent} {c c' : Ctx} (s : Frz c c') : Frz (e :: c) (e :: c')
  | frz {i : Nat} {β : Type} {r : Own β} {c c' : Ctx} (s : Frz c c') : Frz (@Ent.ow i β r :: c) (@Ent.fz i β (@repOwn β r) :: c')
  | frzT {i : Nat} {β : Type} {r : Rep β} {t : OT β} (z : FzT t) {c c' : Ctx} (s : Frz c c') : Frz (.ot i β t :: c) (@Ent.fz i β r :: c')
@[reducible] def Frz.proj : {c c' : Ctx} → Frz c c' → Ctx.T c → Ctx.T c'
  | _, _, .nil, _ => ()
  | _, _, .keep s, γ => (γ.1, s.proj γ.2)
  | _, _, .frz s, γ => (γ.1, s.proj γ.2)
  | _, _, .frzT _ s, γ => (γ.1, s.proj γ.2)
section
variable [TabT] {wd : Wd} {H0 G0 : Hp} {σ : L2.St} {H G H' G' : Hp}
omit [TabT] in
theorem Var.fz {i : Nat} {α : Type} [Rep α] : ∀ {c : Ctx} (v : Var c (.fz i α)) {γ : Ctx.T c} {os : List Addr}, R wd H0 σ H G c γ os → ∃ x, σ[i]? = some (some x) ∧ rep wd G x (v.get γ)
  | _, .z, γ, os, h => h.1
  | _, .s (e' := @Ent.fz j δ _) v, γ, os, h => Var.fz v h.2
  | _, .s (e' := @Ent.bo j δ _) v, γ, os, h => Var.fz v h.2
  | _, .s (e' := @Ent.ow j δ _) v, γ, os, h => by
    obtain ⟨q, o, os', rfl, h1, h2, h3, h4⟩ := h
    exact Var.fz v h4
  | _, .s (e' := @Ent.oo j δ _) v, γ, os, h => by
    rcases h with ⟨e, h1, h⟩ | ⟨b, q, o, os', e, rfl, h1, h2, h3, h4⟩
    · exact Var.fz v h
    · exact Var.fz v h4
  | _, .s (e' := @Ent.sf j δ _ x) v, γ, os, h => by
    obtain ⟨o, os', rfl, h1, h2, h3, h4⟩ := h
    exact Var.fz v h4
  | _, .s (e' := @Ent.ot j δ t) v, γ, os, h => by
    obtain ⟨w, as, os', rfl, h1, h2, h3⟩ := h
    exact Var.fz v h3
omit [TabT] in
theorem Var.bo {i : Nat} {α : Type} [Own α] : ∀ {c : Ctx} (v : Var c (.bo i α)) {γ : Ctx.T c} {os : List Addr}, R wd H0 σ H G c γ os → ∃ p o, σ[i]? = some (some (.ref p)) ∧ H0 p = some o ∧ own wd G o (v.get γ)
  | _, .z, γ, os, h => h.1
  | _, .s (e' := @Ent.fz j δ _) v, γ, os, h => Var.bo v h.2
  | _, .s (e' := @Ent.bo j δ _) v, γ, os, h => Var.bo v h.2
  | _, .s (e' := @Ent.ow j δ _) v, γ, os, h => by
    obtain ⟨q, o, os', rfl, h1, h2, h3, h4⟩ := h
    exact Var.bo v h4
  | _, .s (e' := @Ent.oo j δ _) v, γ, os, h => by
    rcases h with ⟨e, h1, h⟩ | ⟨b, q, o, os', e, rfl, h1, h2, h3, h4⟩
    · exact Var.bo v h
    · exact Var.bo v h4
  | _, .s (e' := @Ent.sf j δ _ x) v, γ, os, h => by
    obtain ⟨o, os', rfl, h1, h2, h3, h4⟩ := h
    exact Var.bo v h4
  | _, .s (e' := @Ent.ot j δ t) v, γ, os, h => by
    obtain ⟨w, as, os', rfl, h1, h2, h3⟩ := h
    exact Var.bo v h3
omit [TabT] in
theorem Var.ow {i : Nat} {α : Type} [Own α] : ∀ {c : Ctx} (v : Var c (.ow i α)) {γ : Ctx.T c} {os : List Addr}, R wd H0 σ H G c γ os → ∃ p o, p ∈ os ∧ σ[i]? = some (some (.ref p)) ∧ H p = some o ∧ own wd G o (v.get γ)
  | _, .z, γ, os, h => by
    obtain ⟨q, o, os', rfl, h1, h2, h3, h4⟩ := h
    exact ⟨q, o, List.mem_cons_self, h1, h2, h3⟩
  | _, .s (e' := @Ent.fz j δ _) v, γ, os, h => Var.ow v h.2
  | _, .s (e' := @Ent.bo j δ _) v, γ, os, h => Var.ow v h.2
  | _, .s (e' := @Ent.ow j δ _) v, γ, os, h => by
    obtain ⟨q, o, os', rfl, h1, h2, h3, h4⟩ := h
    obtain ⟨p, o2, k1, k2⟩ := Var.ow v h4
    exact ⟨p, o2, List.mem_cons_of_mem _ k1, k2⟩
  | _, .s (e' := @Ent.oo j δ _) v, γ, os, h => by
    rcases h with ⟨e, h1, h⟩ | ⟨b, q, o, os', e, rfl, h1, h2, h3, h4⟩
    · exact Var.ow v h
    · obtain ⟨p, o2, k1, k2⟩ := Var.ow v h4
      exact ⟨p, o2, List.mem_cons_of_mem _ k1, k2⟩
  | _, .s (e' := @Ent.sf j δ _ x) v, γ, os, h => by
    obtain ⟨o, os', rfl, h1, h2, h3, h4⟩ := h
    obtain ⟨p, o2, k1, k2⟩ := Var.ow v h4
    exact ⟨p, o2, List.mem_cons_of_mem _ k1, k2⟩
  | _, .s (e' := @Ent.ot j δ t) v, γ, os, h => by
    obtain ⟨w, as, os', rfl, h1, h2, h3⟩ := h
    obtain ⟨p, o2, k1, k2⟩ := Var.ow v h3
    exact ⟨p, o2, List.mem_append_right _ k1, k2⟩
omit [TabT] in
omit [TabT] in
/-- the object of an owned name is changed -/
theorem Var.write {i : Nat} {α : Type} [Own α] : ∀ {c : Ctx} (v : Var c (.ow i α)) {γ : Ctx.T c} {os : List Addr}, os.Nodup → R wd H0 σ H G c γ os → ∃ p o, p ∈ os ∧ σ[i]? = some (some (.ref p)) ∧ H p = some o ∧ own wd G o (v.get γ) ∧
    ∀ o' b, own wd G o' b → R wd H0 σ (upd H p o') G c (v.put γ b) os
  | _, .z, γ, os, nd, h => by
    obtain ⟨q, o, os', rfl, h1, h2, h3, h4⟩ := h
    refine ⟨q, o, List.mem_cons_self, h1, h2, h3, fun o' b w => ⟨q, o', os', rfl, h1, upd_same, w, h4.mono (Same.refl G) fun p hp => ?_⟩⟩
    exact upd_ne fun e => (List.nodup_cons.mp nd).1 (e ▸ hp)
  | _, .s (e' := @Ent.fz j δ _) v, γ, os, nd, h => by
    obtain ⟨p, o, k1, k2, k3, k4, k5⟩ := Var.write v nd h.2
    exact ⟨p, o, k1, k2, k3, k4, fun o' b w => ⟨h.1, k5 o' b w⟩⟩
  | _, .s (e' := @Ent.bo j δ _) v, γ, os, nd, h => by
    obtain ⟨p, o, k1, k2, k3, k4, k5⟩ := Var.write v nd h.2
    exact ⟨p, o, k1, k2, k3, k4, fun o' b w => ⟨h.1, k5 o' b w⟩⟩
  | _, .s (e' := @Ent.ow j δ _) v, γ, os, nd, h => by
    obtain ⟨q, o, os', rfl, h1, h2, h3, h4⟩ := h
    obtain ⟨p, o2, k1, k2, k3, k4, k5⟩ := Var.write v (List.nodup_cons.mp nd).2 h4
    refine ⟨p, o2, List.mem_cons_of_mem _ k1, k2, k3, k4, fun o' b w => ⟨q, o, os', rfl, h1, ?_, h3, k5 o' b w⟩⟩
    rw [upd_ne fun e => (List.nodup_cons.mp nd).1 (by rw [e]; exact k1)]
    exact h2
  | _, .s (e' := @Ent.oo j δ _) v, γ, os, nd, h => by
    rcases h with ⟨e, h1, h⟩ | ⟨b, q, o, os', e, rfl, h1, h2, h3, h4⟩
    · obtain ⟨p, o2, k1, k2, k3, k4, k5⟩ := Var.write v nd h
      exact ⟨p, o2, k1, k2, k3, k4, fun o' b' w => .inl ⟨e, h1, k5 o' b' w⟩⟩
    · obtain ⟨p, o2, k1, k2, k3, k4, k5⟩ := Var.write v (List.nodup_cons.mp nd).2 h4
      refine ⟨p, o2, List.mem_cons_of_mem _ k1, k2, k3, k4, fun o' b' w => .inr ⟨b, q, o, os', e, rfl, h1, ?_, h3, k5 o' b' w⟩⟩
      rw [upd_ne fun e => (List.nodup_cons.mp nd).1 (by rw [e]; exact k1)]
      exact h2
  | _, .s (e' := @Ent.sf j δ _ x) v, γ, os, nd, h => by
    obtain ⟨o, os', rfl, h1, h2, h3, h4⟩ := h
    obtain ⟨p, o2, k1, k2, k3, k4, k5⟩ := Var.write v (List.nodup_cons.mp nd).2 h4
    refine ⟨p, o2, List.mem_cons_of_mem _ k1, k2, k3, k4, fun o' b w => ⟨o, os', rfl, h1, ?_, h3, k5 o' b w⟩⟩
    rw [upd_ne fun e => (List.nodup_cons.mp nd).1 (by rw [e]; exact k1)]
    exact h2
  | _, .s (e' := @Ent.ot j δ t) v, γ, os, nd, h => by
    obtain ⟨w, as, os', rfl, h1, h2, h3⟩ := h
    obtain ⟨n1, n2, n3⟩ := List.nodup_append.mp nd
    obtain ⟨p, o2, k1, k2, k3, k4, k5⟩ := Var.write v n2 h3
    exact ⟨p, o2, List.mem_append_right _ k1, k2, k3, k4, fun o' b w' => ⟨w, as, os', rfl, h1, t.mono (Same.refl G) (fun q hq => upd_ne fun e => n3 q hq p k1 e) h2, k5 o' b w'⟩⟩
omit [TabT] in
omit [TabT] in
/-- the object at x is changed, to one of another kind maybe; it stands first -/
theorem R.remake {i : Nat} {α β : Type} [Own α] [Own β] {x : Addr} {c : Ctx} {γ : Ctx.T (.sf i α x :: c)} {os : List Addr} {o' : HO} {b : β} (nd : os.Nodup) (h : R wd H0 σ H G (.sf i α x :: c) γ os) (w : own wd G o' b) : R wd H0 σ (upd H x o') G (.sf i β x :: c) (b, γ.2) os := by
  obtain ⟨o, os', rfl, h1, h2, h3, h4⟩ := h
  exact ⟨o', os', rfl, h1, upd_same, w, h4.mono (Same.refl G) fun p hp => upd_ne fun e => (List.nodup_cons.mp nd).1 (by rw [← e]; exact hp)⟩
omit [TabT] in
theorem Var.inSlots : ∀ {c : Ctx} {e : Ent} (v : Var c e), e.slot ∈ c.map Ent.slot
  | _, _, .z => List.mem_cons_self
  | _, _, .s v => List.mem_cons_of_mem _ (Var.inSlots v)
omit [TabT] in
omit [TabT] in
/-- a name is stored anew -/
theorem Var.restore {i : Nat} {α : Type} [Rep α] {x : V} {a : α} : ∀ {c : Ctx} (v : Var c (Ent.fz i α)) {γ : Ctx.T c} {os : List Addr}, (c.map Ent.slot).Nodup → rep wd G x a → i < σ.length → R wd H0 σ H G c γ os → R wd H0 (σ.set i (some x)) H G c (v.put γ a) os
  | @Ent.fz _ _ _ :: c, .z, γ, os, nd, w, l, h => ⟨⟨x, by rw [List.getElem?_set_self l], w⟩, h.2.slots fun e he => List.getElem?_set_ne fun q => (List.nodup_cons.mp nd).1 (by rw [show Ent.slot _ = i from rfl, q]; exact List.mem_map_of_mem he)⟩
  | @Ent.fz j δ _ :: c, .s v, γ, os, nd, w, l, h => by
    refine ⟨?_, Var.restore v (List.nodup_cons.mp nd).2 w l h.2⟩
    obtain ⟨y, e1, e2⟩ := h.1
    refine ⟨y, ?_, e2⟩
    rw [List.getElem?_set_ne fun q => ?_]
    · exact e1
    · exact (List.nodup_cons.mp nd).1 (q ▸ v.inSlots)
  | @Ent.bo j δ _ :: c, .s v, γ, os, nd, w, l, h => by
    refine ⟨?_, Var.restore v (List.nodup_cons.mp nd).2 w l h.2⟩
    obtain ⟨p, o, e1, e2⟩ := h.1
    refine ⟨p, o, ?_, e2⟩
    rw [List.getElem?_set_ne fun q => ?_]
    · exact e1
    · exact (List.nodup_cons.mp nd).1 (q ▸ v.inSlots)
  | @Ent.ow j δ _ :: c, .s v, γ, os, nd, w, l, h => by
    obtain ⟨q, o, os', rfl, h1, h2, h3, h4⟩ := h
    refine ⟨q, o, os', rfl, ?_, h2, h3, Var.restore v (List.nodup_cons.mp nd).2 w l h4⟩
    rw [List.getElem?_set_ne fun q => ?_]
    · exact h1
    · exact (List.nodup_cons.mp nd).1 (q ▸ v.inSlots)
  | @Ent.oo j δ _ :: c, .s v, γ, os, nd, w, l, h => by
    have ne : i ≠ j := fun q => (List.nodup_cons.mp nd).1 (by show j ∈ c.map Ent.slot; rw [← q]; exact v.inSlots)
    rcases h with ⟨e, h1, h⟩ | ⟨b, q, o, os', e, rfl, h1, h2, h3, h4⟩
    · exact .inl ⟨e, by rw [List.getElem?_set_ne ne]; exact h1, Var.restore v (List.nodup_cons.mp nd).2 w l h⟩
    · exact .inr ⟨b, q, o, os', e, rfl, by rw [List.getElem?_set_ne ne]; exact h1, h2, h3, Var.restore v (List.nodup_cons.mp nd).2 w l h4⟩
  | @Ent.sf j δ _ y :: c, .s v, γ, os, nd, w, l, h => by
    have ne : i ≠ j := fun q => (List.nodup_cons.mp nd).1 (by show j ∈ c.map Ent.slot; rw [← q]; exact v.inSlots)
    obtain ⟨o, os', rfl, h1, h2, h3, h4⟩ := h
    exact ⟨o, os', rfl, by rw [List.getElem?_set_ne ne]; exact h1, h2, h3, Var.restore v (List.nodup_cons.mp nd).2 w l h4⟩
  | @Ent.ot j δ t :: c, .s v, γ, os, nd, w, l, h => by
    have ne : i ≠ j := fun q => (List.nodup_cons.mp nd).1 (by show j ∈ c.map Ent.slot; rw [← q]; exact v.inSlots)
    obtain ⟨u, as, os', rfl, h1, h2, h3⟩ := h
    exact ⟨u, as, os', rfl, by rw [List.getElem?_set_ne ne]; exact h1, h2, Var.restore v (List.nodup_cons.mp nd).2 w l h3⟩
omit [TabT] in
theorem Sub.r : ∀ {c c' : Ctx} (s : Sub c c') {γ : Ctx.T c} {os : List Addr}, R wd H0 σ H G c γ os → ∃ os', R wd H0 σ H G c' (s.proj γ) os' ∧ os'.Sublist os
  | _, _, .nil, γ, os, h => ⟨[], rfl, List.nil_sublist _⟩
  | _, _, .keep (e := @Ent.fz i α _) s, γ, os, h => by
    obtain ⟨os', h1, h2⟩ := s.r h.2
    exact ⟨os', ⟨h.1, h1⟩, h2⟩
  | _, _, .keep (e := @Ent.bo i α _) s, γ, os, h => by
    obtain ⟨os', h1, h2⟩ := s.r h.2
    exact ⟨os', ⟨h.1, h1⟩, h2⟩
  | _, _, .keep (e := @Ent.ow i α _) s, γ, os, h => by
    obtain ⟨q, o, os1, rfl, k1, k2, k3, k4⟩ := h
    obtain ⟨os', h1, h2⟩ := s.r k4
    exact ⟨q :: os', ⟨q, o, os', rfl, k1, k2, k3, h1⟩, h2.cons₂ q⟩
  | _, _, .keep (e := @Ent.oo i α _) s, γ, os, h => by
    rcases h with ⟨e, k1, h⟩ | ⟨b, q, o, os1, e, rfl, k1, k2, k3, k4⟩
    · obtain ⟨os', h1, h2⟩ := s.r h
      exact ⟨os', .inl ⟨e, k1, h1⟩, h2⟩
    · obtain ⟨os', h1, h2⟩ := s.r k4
      exact ⟨q :: os', .inr ⟨b, q, o, os', e, rfl, k1, k2, k3, h1⟩, h2.cons₂ q⟩
  | _, _, .keep (e := @Ent.sf i α _ x) s, γ, os, h => by
    obtain ⟨o, os1, rfl, k1, k2, k3, k4⟩ := h
    obtain ⟨os', h1, h2⟩ := s.r k4
    exact ⟨x :: os', ⟨o, os', rfl, k1, k2, k3, h1⟩, h2.cons₂ x⟩
  | _, _, .keep (e := @Ent.ot i α t) s, γ, os, h => by
    obtain ⟨v, as, os1, rfl, k1, k2, k3⟩ := h
    obtain ⟨os', h1, h2⟩ := s.r k3
    exact ⟨as ++ os', ⟨v, as, os', rfl, k1, k2, h1⟩, (List.append_sublist_append_left as).mpr h2⟩
  | _, _, .skip (e := @Ent.fz i α _) s, γ, os, h => s.r h.2
  | _, _, .skip (e := @Ent.bo i α _) s, γ, os, h => s.r h.2
  | _, _, .skip (e := @Ent.ow i α _) s, γ, os, h => by
    obtain ⟨q, o, os1, rfl, k1, k2, k3, k4⟩ := h
    obtain ⟨os', h1, h2⟩ := s.r k4
    exact ⟨os', h1, h2.cons q⟩
  | _, _, .skip (e := @Ent.oo i α _) s, γ, os, h => by
    rcases h with ⟨e, k1, h⟩ | ⟨b, q, o, os1, e, rfl, k1, k2, k3, k4⟩
    · exact s.r h
    · obtain ⟨os', h1, h2⟩ := s.r k4
      exact ⟨os', h1, h2.cons q⟩
  | _, _, .skip (e := @Ent.sf i α _ x) s, γ, os, h => by
    obtain ⟨o, os1, rfl, k1, k2, k3, k4⟩ := h
    obtain ⟨os', h1, h2⟩ := s.r k4
    exact ⟨os', h1, h2.cons x⟩
  | _, _, .skip (e := @Ent.ot i α t) s, γ, os, h => by
    obtain ⟨v, as, os1, rfl, k1, k2, k3⟩ := h
    obtain ⟨os', h1, h2⟩ := s.r k3
    exact ⟨os', h1, h2.trans (List.sublist_append_right as os1)⟩
theorem Stt.sub {n : Sl} {c c' : Ctx} (s : Sub c c') {γ : Ctx.T c} {os : List Addr} (h : Stt wd n H0 G0 σ H G os c γ) : ∃ os', os'.Sublist os ∧ Stt wd n H0 G0 σ H G os' c' (s.proj γ) := by
  obtain ⟨os', h1, h2⟩ := s.r h.r
  exact ⟨os', h2, h.len, h.f, h.nd.sublist h2, fun p hp => h.fr p (h2.subset hp), h1, h.t⟩
/-- one object is frozen -/
theorem Fr.frz1 {p : Addr} {o : HO} (f : Fr H0 G0 H G) (g : G p = none) (h0 : H0 p = none) (e : H p = some o) : Fr H0 G0 H (upd G p o) :=
  ⟨f.h, Same.upd' f.g (f.g.free g), fun a u q => by
    by_cases ha : a = p
    · subst ha
      rw [upd_same] at q
      cases q
      exact .inl e
    · rw [upd_ne ha] at q
      exact f.gh a u q, fun a u q => by
    by_cases ha : a = p
    · subst ha
      exact .inr h0
    · rw [upd_ne ha] at q
      exact f.new a u q, f.tb⟩
/-- a tree is frozen -/
theorem Fr.frzAll {as : List Addr} (f : Fr H0 G0 H G) (g : ∀ p ∈ as, G p = none ∧ H0 p = none) (e : ∀ p ∈ as, ∃ o, H p = some o) : Fr H0 G0 H (addAll G H as) ∧ Same G (addAll G H as) := by
  have sg : Same G (addAll G H as) := fun a o h => .inl (by
    unfold addAll
    rw [if_neg fun z => by rw [(g a z).1] at h; cases h]
    exact h)
  refine ⟨⟨f.h, f.g.trans sg, fun a u q => ?_, fun a u q => ?_, f.tb⟩, sg⟩
  · unfold addAll at q
    by_cases ha : a ∈ as
    · rw [if_pos ha] at q; exact .inl q
    · rw [if_neg ha] at q; exact f.gh a u q
  · unfold addAll at q
    by_cases ha : a ∈ as
    · exact .inr (g a ha).2
    · rw [if_neg ha] at q; exact f.new a u q
theorem Frz.r : ∀ {c c' : Ctx} (s : Frz c c') {γ : Ctx.T c} {os : List Addr} {G : Hp}, R wd H0 σ H G c γ os → os.Nodup → (∀ p ∈ os, G p = none ∧ H0 p = none) → Fr H0 G0 H G →
    ∃ os' G', R wd H0 σ H G' c' (s.proj γ) os' ∧ os'.Sublist os ∧ Fr H0 G0 H G' ∧ Same G G' ∧ (∀ p, p ∉ os → G p = none → G' p = none) ∧ ∀ p ∈ os', G' p = none
  | _, _, .nil, γ, os, G, h, nd, fr, f => ⟨[], G, rfl, List.nil_sublist _, f, Same.refl G, fun _ _ h => h, fun _ h => by cases h⟩
  | _, _, .keep (e := @Ent.fz i α _) s, γ, os, G, h, nd, fr, f => by
    obtain ⟨os', G', h1, h2, h3, h4, h5, h6⟩ := s.r h.2 nd fr f
    obtain ⟨v, k1, k2⟩ := h.1
    exact ⟨os', G', ⟨⟨v, k1, Rep.mono h4 k2⟩, h1⟩, h2, h3, h4, h5, h6⟩
  | _, _, .keep (e := @Ent.bo i α _) s, γ, os, G, h, nd, fr, f => by
    obtain ⟨os', G', h1, h2, h3, h4, h5, h6⟩ := s.r h.2 nd fr f
    obtain ⟨v, o, k1, k2, k3⟩ := h.1
    exact ⟨os', G', ⟨⟨v, o, k1, k2, Own.mono h4 k3⟩, h1⟩, h2, h3, h4, h5, h6⟩
  | _, _, .keep (e := @Ent.ow i α _) s, γ, os, G, h, nd, fr, f => by
    obtain ⟨q, o, os1, rfl, k1, k2, k3, k4⟩ := h
    have nd' := List.nodup_cons.mp nd
    obtain ⟨os', G', h1, h2, h3, h4, h5, h6⟩ := s.r k4 nd'.2 (fun p hp => fr p (List.mem_cons_of_mem _ hp)) f
    have gq := h5 q nd'.1 (fr q List.mem_cons_self).1
    refine ⟨q :: os', G', ⟨q, o, os', rfl, k1, k2, Own.mono h4 k3, h1⟩, h2.cons₂ q, h3, h4, fun p hp => h5 p fun z => hp (List.mem_cons_of_mem _ z), fun p hp => ?_⟩
    rcases List.mem_cons.mp hp with e | e
    · rw [e]; exact gq
    · exact h6 p e
  | _, _, .keep (e := @Ent.oo i α _) s, γ, os, G, h, nd, fr, f => by
    rcases h with ⟨e, k1, h⟩ | ⟨b, q, o, os1, e, rfl, k1, k2, k3, k4⟩
    · obtain ⟨os', G', h1, h2, h3, h4, h5, h6⟩ := s.r h nd fr f
      exact ⟨os', G', .inl ⟨e, k1, h1⟩, h2, h3, h4, h5, h6⟩
    · have nd' := List.nodup_cons.mp nd
      obtain ⟨os', G', h1, h2, h3, h4, h5, h6⟩ := s.r k4 nd'.2 (fun p hp => fr p (List.mem_cons_of_mem _ hp)) f
      have gq := h5 q nd'.1 (fr q List.mem_cons_self).1
      refine ⟨q :: os', G', .inr ⟨b, q, o, os', e, rfl, k1, k2, Own.mono h4 k3, h1⟩, h2.cons₂ q, h3, h4, fun p hp => h5 p fun z => hp (List.mem_cons_of_mem _ z), fun p hp => ?_⟩
      rcases List.mem_cons.mp hp with e | e
      · rw [e]; exact gq
      · exact h6 p e
  | _, _, .keep (e := @Ent.sf i α _ x) s, γ, os, G, h, nd, fr, f => by
    obtain ⟨o, os1, rfl, k1, k2, k3, k4⟩ := h
    have nd' := List.nodup_cons.mp nd
    obtain ⟨os', G', h1, h2, h3, h4, h5, h6⟩ := s.r k4 nd'.2 (fun p hp => fr p (List.mem_cons_of_mem _ hp)) f
    have gq := h5 x nd'.1 (fr x List.mem_cons_self).1
    refine ⟨x :: os', G', ⟨o, os', rfl, k1, k2, Own.mono h4 k3, h1⟩, h2.cons₂ x, h3, h4, fun p hp => h5 p fun z => hp (List.mem_cons_of_mem _ z), fun p hp => ?_⟩
    rcases List.mem_cons.mp hp with e | e
    · rw [e]; exact gq
    · exact h6 p e
  | _, _, .keep (e := @Ent.ot i α t) s, γ, os, G, h, nd, fr, f => by
    obtain ⟨v, as, os1, rfl, k1, k2, k3⟩ := h
    obtain ⟨n1, n2, n3⟩ := List.nodup_append.mp nd
    obtain ⟨os', G', h1, h2, h3, h4, h5, h6⟩ := s.r k3 n2 (fun p hp => fr p (List.mem_append_right _ hp)) f
    have gq : ∀ q ∈ as, G' q = none := fun q hq => h5 q (fun z => n3 q hq q z rfl) (fr q (List.mem_append_left _ hq)).1
    refine ⟨as ++ os', G', ⟨v, as, os', rfl, k1, t.mono h4 (fun _ _ => rfl) k2, h1⟩, (List.append_sublist_append_left as).mpr h2, h3, h4, fun p hp => h5 p fun z => hp (List.mem_append_right _ z), fun p hp => ?_⟩
    rcases List.mem_append.mp hp with e | e
    · exact gq p e
    · exact h6 p e
  | _, _, @Frz.frzT i β r t z c c' s, γ, os, G, h, nd, fr, f => by
    obtain ⟨v, as, os1, rfl, k1, k2, k3⟩ := h
    obtain ⟨n1, n2, n3⟩ := List.nodup_append.mp nd
    obtain ⟨os', G', h1, h2, h3, h4, h5, h6⟩ := s.r k3 n2 (fun p hp => fr p (List.mem_append_right _ hp)) f
    have gq : ∀ q ∈ as, G' q = none ∧ H0 q = none := fun q hq => ⟨h5 q (fun z => n3 q hq q z rfl) (fr q (List.mem_append_left _ hq)).1, (fr q (List.mem_append_left _ hq)).2⟩
    obtain ⟨f2, sg⟩ := h3.frzAll gq fun q hq => (t.there k2 q hq).imp fun o h => h.1
    refine ⟨os', addAll G' H as, ⟨⟨v, k1, z.fz n1 (fun q hq => (gq q hq).1) (t.mono h4 (fun _ _ => rfl) k2)⟩, h1.mono sg fun _ _ => rfl⟩, h2.trans (List.sublist_append_right as os1), f2, h4.trans sg, fun p hp g => ?_, fun p hp => ?_⟩
    · unfold addAll
      rw [if_neg fun z => hp (List.mem_append_left _ z)]
      exact h5 p (fun z => hp (List.mem_append_right _ z)) g
    · unfold addAll
      rw [if_neg fun z => n3 p z p (h2.subset hp) rfl]
      exact h6 p hp
  | _, _, @Frz.frz i α r c c' s, γ, os, G, h, nd, fr, f => by
    obtain ⟨q, o, os1, rfl, k1, k2, k3, k4⟩ := h
    have nd' := List.nodup_cons.mp nd
    obtain ⟨os', G', h1, h2, h3, h4, h5, h6⟩ := s.r k4 nd'.2 (fun p hp => fr p (List.mem_cons_of_mem _ hp)) f
    have gq := h5 q nd'.1 (fr q List.mem_cons_self).1
    have sg : Same G' (upd G' q o) := Same.upd' (Same.refl G') gq
    refine ⟨os', upd G' q o, ⟨⟨.ref q, k1, q, o, rfl, upd_same, Own.mono (h4.trans sg) k3⟩, h1.mono sg fun _ _ => rfl⟩, h2.cons q, h3.frz1 gq (fr q List.mem_cons_self).2 k2, h4.trans sg, fun p hp g => ?_, fun p hp => ?_⟩
    · rw [upd_ne fun e => hp (by rw [e]; exact List.mem_cons_self)]
      exact h5 p (fun z => hp (List.mem_cons_of_mem _ z)) g
    · rw [upd_ne fun e => nd'.1 (by rw [← e]; exact h2.subset hp)]
      exact h6 p hp
theorem Stt.frz {n : Sl} {c c' : Ctx} (s : Frz c c') {γ : Ctx.T c} {os : List Addr} (h : Stt wd n H0 G0 σ H G os c γ) : ∃ os' G', Stt wd n H0 G0 σ H G' os' c' (s.proj γ) := by
  obtain ⟨os', G', h1, h2, h3, h4, h5, h6⟩ := s.r h.r h.nd h.fr h.f
  exact ⟨os', G', h.len, h3, h.nd.sublist h2, fun p hp => ⟨h6 p hp, (h.fr p (h2.subset hp)).2⟩, h1, h.t⟩
/-- an owned object that may be none is told to be there -/
inductive Nar : Ctx → Ctx → Type 1 where
  | z {i : Nat} {β : Type} {r : Own β} {c : Ctx} : Nar (@Ent.oo i β r :: c) (@Ent.ow i β r :: c)
  | s {e : Ent} {c c' : Ctx} (n : Nar c c') : Nar (e :: c) (e :: c')
omit [TabT] in
@[reducible] def Nar.go : {c c' : Ctx} → Nar c c' → Ctx.T c → Rs (Ctx.T c')
  | _, _, .z, γ => match γ.1 with
    | some b => .ok (b, γ.2)
    | none => .no
  | _, _, .s n, γ => (n.go γ.2).bind fun g => .ok (γ.1, g)
end
theorem okN {P : Program} {w : World} {K : PySem.W.Frag} {mg : Str → Option Value} {base : Heap} {x qual : Str} {st : Stmt} {f : Addr} {fd : FuncData} {N ps : List Str} {k : Nat} {sp : Sp} (F : Fun K x qual st f fd) (S : FnScope N ps (defScope st)) (len : ∀ vs H Q E, sp vs H Q E → vs.length = ps.length)
    (hbody : ∀ (cdv : Value) (A : Around) (outer : List Env) (s : Shared) (H : Hp) (vs : List V) (Q : VK) (E : XK), Room k (A.deeper (envOfC qual (defScope st) s.heap.objs.size f cdv)) → sp vs H Q E →
      ∃ t, PSs (cxOf (L2N.CX P w) P w K mg base N qual (defScope st) f cdv A outer s H E) (defBody st) t ∧ t { nx := fun _ H' => Q .non H', rt := Q } (start N vs) H) : FnOk P w K mg base (L2N.CX P w) (k + 1) f fd ps sp := by
  obtain ⟨oc, od, kV, doc, pm, an, cdv, ct, osl, rfl, lk, hcd⟩ := F.ex
  exact fn_of lk hcd S len fun A outer s H vs Q E hr hsp => hbody cdv A outer s H vs Q E hr hsp
end Wm
set_option Elab.async false
set_option linter.all false
set_option maxRecDepth 100000
set_option maxHeartbeats 4000000
namespace Wm
open PySem PySem.Spec PyProof.Rows L2
open Rep (rep)
open Own (own)
variable [TabT]
/-! ### kinds of results -/
structure Kd (wd : Wd) (α : Type) where
  rel : Hp → Hp → Hp → V → α → Prop
  stay : ∀ {B H G H' G' : Hp} {v : V} {a : α}, rel B H G v a → Fr H G H' G' → rel B H' G' v a
  back : ∀ {B B' H G : Hp} {v : V} {a : α}, Same B B' → rel B' H G v a → rel B H G v a
def kF {wd : Wd} {α : Type} [Rep α] : Kd wd α := ⟨fun _ _ G v a => rep wd G v a, fun h f => Rep.mono f.g h, fun _ h => h⟩
def kO {wd : Wd} {β : Type} [Own β] : Kd wd β :=
  ⟨fun B H G v b => ∃ p o, v = .ref p ∧ B p = none ∧ G p = none ∧ H p = some o ∧ own wd G o b,
   fun ⟨p, o, e, n, g, h, w⟩ f => ⟨p, o, e, n, f.out h g, f.h.get h (Own.pl w), Own.mono f.g w⟩,
   fun s ⟨p, o, e, n, g, h, w⟩ => ⟨p, o, e, s.free n, g, h, w⟩⟩
def kB {wd : Wd} {β : Type} [Own β] : Kd wd β :=
  ⟨fun _ H G v b => ∃ p o, v = .ref p ∧ H p = some o ∧ own wd G o b, fun ⟨p, o, e, h, w⟩ f => ⟨p, o, e, f.h.get h (Own.pl w), Own.mono f.g w⟩, fun _ h => h⟩
structure Fx where
  wd : Wd
  n : Sl
  W : WX
omit [TabT] in
abbrev Fx.blk (F : Fx) : Fx := { F with n := Sl.all F.n.n, W := fun _ _ _ _ => False }
def Post {wd : Wd} {α : Type} (W : WX) (k : Kd wd α) (σ : L2.St) (H G : Hp) (Q : VK) : Rs α → Prop
  | .ok a => ∀ H' G' v, Fr H G H' G' → k.rel H H' G' v a → Q v H'
  | .ex x => ∀ d H' G', Fr H G H' G' → RepX G' d x → W (.ref (wd.cm x.cls)) d σ H'
  | .no => False
section
variable {wd : Wd} {α β δ : Type} {W : WX} {k : Kd wd α} {k2 : Kd wd β} {σ : L2.St} {H G H' G' : Hp} {Q Q' : VK} {r : Rs α}
theorem Post.ext (h : Post W k σ H G Q r) (f : Fr H G H' G') : Post W k σ H' G' Q r := by
  cases r with
  | no => exact h
  | ex x => exact fun d H2 G2 s q => h d H2 G2 (f.trans s) q
  | ok a => exact fun H2 G2 v f2 q => h H2 G2 v (f.trans f2) (k.back f.h q)
theorem Post.step {f : α → Rs β} (h : Post W k2 σ H G Q (r.bind f)) (k : Kd wd α) (i : ∀ v H1 G1 a, Fr H G H1 G1 → k.rel H H1 G1 v a → Post W k2 σ H1 G1 Q (f a) → Q' v H1) : Post W k σ H G Q' r := by
  cases r with
  | no => exact h
  | ex x => exact h
  | ok a => exact fun H2 G2 v f2 q => i v H2 G2 a f2 q (Post.ext h f2)
end
def tX (F : Fx) {α : Type} (k : Kd F.wd α) (c : Ctx) (m : Ctx.T c → Rs α) : TE := fun σ H Q => ∃ H0 G0 G os γ, Stt F.wd F.n H0 G0 σ H G os c γ ∧ Post F.W k σ H G Q (m γ)
section
variable {X : Cx} {t t' : TE}
omit [TabT] in
theorem pe_mono {e : Expr} (h : PE X e t) (i : ∀ σ H Q, t' σ H Q → t σ H Q) : PE X e t' := ⟨fun pins s σ H Q I q => h.run pins s σ H Q I (i σ H Q q)⟩
omit [TabT] in
theorem pt_mono {e : Expr} {t t' : TT} (h : PT X e t) (i : ∀ σ H Q, t' σ H Q → t σ H Q) : PT X e t' := ⟨fun pins s σ H Q I q => h.run pins s σ H Q I (i σ H Q q)⟩
omit [TabT] in
theorem pw_mono {e : Expr} {t t' : TT} (h : PW X e t) (i : ∀ σ H Q, t' σ H Q → t σ H Q) : PW X e t' := ⟨fun wh pins s σ H Q I q => h.run wh pins s σ H Q I (i σ H Q q)⟩
omit [TabT] in
theorem pa_mono {es : List Expr} {t t' : TA} (h : PA X es t) (i : ∀ σ H Q, t' σ H Q → t σ H Q) : PA X es t' := ⟨fun pos pins s σ H Q I q => h.run pos pins s σ H Q I (i σ H Q q)⟩
omit [TabT] in
theorem ps_mono {st : Stmt} {t t' : TS} (h : PS X st t) (i : ∀ D σ H, t' D σ H → t D σ H) : PS X st t' := ⟨fun pins s σ H D I q => h.run pins s σ H D I (i D σ H q)⟩
omit [TabT] in
theorem pss_mono {st : List Stmt} {t t' : TS} (h : PSs X st t) (i : ∀ D σ H, t' D σ H → t D σ H) : PSs X st t' := ⟨fun pins s σ H D I q => h.run pins s σ H D I (i D σ H q)⟩
end
/-! ### operations on values -/
def Sem1 {wd : Wd} {α δ : Type} (k1 : Kd wd α) (k3 : Kd wd δ) (r : V → Hp → VK → Prop) (f : α → Rs δ) : Prop :=
  ∀ {W : WX} {σ : L2.St} {B H G : Hp} {x : V} {a : α} {Q : VK}, SameL G H → k1.rel B H G x a → Post W k3 σ H G Q (f a) → r x H Q
def Sem2 {wd : Wd} {α β δ : Type} (k1 : Kd wd α) (k2 : Kd wd β) (k3 : Kd wd δ) (r : R2) (f : α → β → Rs δ) : Prop :=
  ∀ {W : WX} {σ : L2.St} {B1 B2 H G : Hp} {x y : V} {a : α} {b : β} {Q : VK}, SameL G H → k1.rel B1 H G x a → k2.rel B2 H G y b → Post W k3 σ H G Q (f a b) → r x y H Q
/-- .. that ask for the tables, too (calls of own defs) -/
def Sem1T {wd : Wd} {α δ : Type} (k1 : Kd wd α) (k3 : Kd wd δ) (r : V → Hp → VK → Prop) (f : α → Rs δ) : Prop :=
  ∀ {W : WX} {σ : L2.St} {B H G : Hp} {x : V} {a : α} {Q : VK}, LamX.Tabs TabT.T H → SameL G H → k1.rel B H G x a → Post W k3 σ H G Q (f a) → r x H Q
def Sem2T {wd : Wd} {α β δ : Type} (k1 : Kd wd α) (k2 : Kd wd β) (k3 : Kd wd δ) (r : R2) (f : α → β → Rs δ) : Prop :=
  ∀ {W : WX} {σ : L2.St} {B1 B2 H G : Hp} {x y : V} {a : α} {b : β} {Q : VK}, LamX.Tabs TabT.T H → SameL G H → k1.rel B1 H G x a → k2.rel B2 H G y b → Post W k3 σ H G Q (f a b) → r x y H Q
section
variable {X : Cx} {F : Fx} {c : Ctx} {α β δ : Type} {k1 : Kd F.wd α} {k2 : Kd F.wd β} {k3 : Kd F.wd δ} {a b : Expr} {ma : Ctx.T c → Rs α} {mb : Ctx.T c → Rs β} {pos p : Pos} {r : R2} {f : α → β → Rs δ}
theorem tX1 {r : V → Hp → VK → Prop} {f : α → Rs δ} (hr : Sem1 k1 k3 r f) {σ : L2.St} {H : Hp} {Q : VK} (h : tX F k3 c (fun γ => (ma γ).bind f) σ H Q) : tX F k1 c ma σ H fun x H1 => r x H1 Q := by
  obtain ⟨H0, G0, G, os, γ, st, p⟩ := h
  exact ⟨H0, G0, G, os, γ, st, p.step k1 fun x H1 G1 a fr ra p1 => hr fr.gh ra p1⟩
theorem tX2 (hr : Sem2 k1 k2 k3 r f) {σ : L2.St} {H : Hp} {Q : VK} (h : tX F k3 c (fun γ => (ma γ).bind fun x => (mb γ).bind fun y => f x y) σ H Q) : tOp r (tX F k1 c ma) (tX F k2 c mb) σ H Q := by
  obtain ⟨H0, G0, G, os, γ, st, p⟩ := h
  exact ⟨H0, G0, G, os, γ, st, p.step k1 fun x H1 G1 a fr ra p1 => ⟨H0, G0, G1, os, γ, st.ext fr, p1.step k2 fun y H2 G2 b fr2 rb p2 => hr fr2.gh (k1.stay ra fr2) rb p2⟩⟩
theorem e_op {op : Operator} (ho : OpR X (binaryOp op) r) (hr : Sem2 k1 k2 k3 r f) (ha : PE X a (tX F k1 c ma)) (hb : PE X b (tX F k2 c mb)) : PE X (.BinOp a op b pos) (tX F k3 c fun γ => (ma γ).bind fun x => (mb γ).bind fun y => f x y) :=
  pe_mono (pe_op ho ha hb) fun σ H Q h => tX2 hr h
theorem e_ix (hr : IxR X r) (hs : Sem2 k1 k2 k3 r f) (ha : PE X a (tX F k1 c ma)) (hb : PE X b (tX F k2 c mb)) (hp : PlainIx b := by exact fun _ _ => rfl) : PE X (.Subscript a b pos) (tX F k3 c fun γ => (ma γ).bind fun x => (mb γ).bind fun y => f x y) :=
  pe_mono (pe_ix hr ha hb hp) fun σ H Q h => tX2 hs h
theorem e_cmp {op : CmpOp} (ho : OpR X (compareOp op) r) (hr : Sem2 k1 k2 k3 r f) (ha : PE X a (tX F k1 c ma)) (hb : PE X b (tX F k2 c mb)) (hm : behindInMarks op b = false := by first | exact nomark _ | rfl) : PE X (.Compare a [op] [b] pos) (tX F k3 c fun γ => (ma γ).bind fun x => (mb γ).bind fun y => f x y) :=
  pe_mono (pe_cmpR ho ha hb hm) fun σ H Q h => tX2 hr h
theorem e_b1 {x : Str} {id : String} {r : List V → Hp → VK → Prop} {f : α → Rs δ} (hc : CallR X (.builtin id) r) (hs : Sem1 k1 k3 (fun x => r [x]) f) (hg : Gl X x) (hm : X.mg x = none) (hv : bootBuiltins x = some (.builtin id)) (ha : PE X a (tX F k1 c ma)) (hn : x ≠ "__name__" := by decide)
    (hdb : (x == ("__debug__" : Str)) = false := by decide) (he : starEach (a :: []) X.env = (false, eval a X.env) :: starEach [] X.env := by rfl) (hpl : (backTo pos (starEach [] X.env)).any (·.1) = false := by rfl) : PE X (.Call (.Name x p) [a] [] pos) (tX F k3 c fun γ => (ma γ).bind f) :=
  pe_mono (pe_callB hc hg hm hv (pa_cons ha pa_nil he) hn hdb he hpl) fun σ H Q h => tX1 hs h
theorem tX1T {r : V → Hp → VK → Prop} {f : α → Rs δ} (hr : Sem1T k1 k3 r f) {σ : L2.St} {H : Hp} {Q : VK} (h : tX F k3 c (fun γ => (ma γ).bind f) σ H Q) : tX F k1 c ma σ H fun x H1 => r x H1 Q := by
  obtain ⟨H0, G0, G, os, γ, st, p⟩ := h
  exact ⟨H0, G0, G, os, γ, st, p.step k1 fun x H1 G1 a fr ra p1 => hr (fr.tb (st.f.tb st.t)) fr.gh ra p1⟩
theorem tX2T (hr : Sem2T k1 k2 k3 r f) {σ : L2.St} {H : Hp} {Q : VK} (h : tX F k3 c (fun γ => (ma γ).bind fun x => (mb γ).bind fun y => f x y) σ H Q) : tOp r (tX F k1 c ma) (tX F k2 c mb) σ H Q := by
  obtain ⟨H0, G0, G, os, γ, st, p⟩ := h
  exact ⟨H0, G0, G, os, γ, st, p.step k1 fun x H1 G1 a fr ra p1 => ⟨H0, G0, G1, os, γ, st.ext fr, p1.step k2 fun y H2 G2 b fr2 rb p2 => hr (fr2.tb (fr.tb (st.f.tb st.t))) fr2.gh (k1.stay ra fr2) rb p2⟩⟩
theorem e_b1T {x : Str} {id : String} {r : List V → Hp → VK → Prop} {f : α → Rs δ} (hc : CallR X (.builtin id) r) (hs : Sem1T k1 k3 (fun x => r [x]) f) (hg : Gl X x) (hm : X.mg x = none) (hv : bootBuiltins x = some (.builtin id)) (ha : PE X a (tX F k1 c ma)) (hn : x ≠ "__name__" := by decide)
    (hdb : (x == ("__debug__" : Str)) = false := by decide) (he : starEach (a :: []) X.env = (false, eval a X.env) :: starEach [] X.env := by rfl) (hpl : (backTo pos (starEach [] X.env)).any (·.1) = false := by rfl) : PE X (.Call (.Name x p) [a] [] pos) (tX F k3 c fun γ => (ma γ).bind f) :=
  pe_mono (pe_callB hc hg hm hv (pa_cons ha pa_nil he) hn hdb he hpl) fun σ H Q h => tX1T hs h
theorem e_t1 {x : Str} {T : String} {r : List V → Hp → VK → Prop} {f : α → Rs δ} (hc : CallR X (.type T) r) (hs : Sem1 k1 k3 (fun x => r [x]) f) (hg : Gl X x) (hm : X.mg x = none) (hv : bootBuiltins x = some (.type T)) (ha : PE X a (tX F k1 c ma)) (hn : x ≠ "__name__" := by decide)
    (hdb : (x == ("__debug__" : Str)) = false := by decide) (he : starEach (a :: []) X.env = (false, eval a X.env) :: starEach [] X.env := by rfl) (hpl : (backTo pos (starEach [] X.env)).any (·.1) = false := by rfl) : PE X (.Call (.Name x p) [a] [] pos) (tX F k3 c fun γ => (ma γ).bind f) :=
  pe_mono (pe_callTy hc hg hm hv (pa_cons ha pa_nil he) hn hdb he hpl) fun σ H Q h => tX1 hs h
/-! ### constants and names -/
theorem e_c {α : Type} [Rep α] {e : Expr} {v : V} (h : PE X e (tC v)) (z : α) (r : ∀ G, rep F.wd G v z) : PE X e (tX F kF c fun _ => .ok z) :=
  pe_mono h fun σ H Q ⟨H0, G0, G, os, γ, st, p⟩ => p H G v (Fr.refl st.f.gh) (r G)
theorem e_int {i : Int} {j pos} : PE X (.Constant (.int i) j pos) (tX F kF c fun _ => .ok i) := e_c pe_int i fun _ => rfl
theorem e_bl {b : Bool} {j pos} : PE X (.Constant (.bool b) j pos) (tX F kF c fun _ => .ok b) := e_c pe_bl b fun _ => rfl
theorem e_str {x : Str} {j pos} (h : SOk x := by decide +kernel) : PE X (.Constant (.str x) j pos) (tX F kF c fun _ => .ok x) := e_c pe_str x fun _ => ⟨rfl, h⟩
theorem e_non {j pos} : PE X (.Constant .none j pos) (tX F kF c fun _ => .ok ()) := e_c pe_non () fun _ => rfl
theorem e_nonO {α : Type} [Rep α] {j pos} : PE X (.Constant .none j pos) (tX F kF c fun _ => .ok (none : Option α)) := e_c pe_non none fun _ => rfl
theorem e_gi {x : Str} {i : Int} {t : Tok} (hg : Gl X x) (hm : X.mg x = some (.int i t)) (hd : (x == ("__debug__" : Str)) = false := by decide) : PE X (.Name x pos) (tX F kF c fun _ => .ok i) := e_c (pe_glob hg hm (v := .int i) ⟨t, rfl⟩ hd) i fun _ => rfl
theorem e_gs {x z : Str} {t : Tok} (hg : Gl X x) (hm : X.mg x = some (.str z t)) (h : SOk z := by decide +kernel) (hd : (x == ("__debug__" : Str)) = false := by decide) : PE X (.Name x pos) (tX F kF c fun _ => .ok z) := e_c (pe_glob hg hm (v := .str z) ⟨t, rfl⟩ hd) z fun _ => ⟨rfl, h⟩
theorem e_var {α : Type} [Rep α] {i : Nat} (v : Var c (.fz i α)) {x : Str} (hN : X.N[i]? = some x := by rfl) (hv : Vis X.env.scope x := by first | exact Or.inl rfl | exact Or.inr (Or.inl rfl) | exact Or.inr (Or.inr rfl))
    (hd : (x == ("__debug__" : Str)) = false := by decide) (hcd : (x == ("__classdict__" : Str)) = false := by decide) : PE X (.Name x pos) (tX F kF c fun γ => .ok (v.get γ)) :=
  pe_mono (pe_var hN hv hd hcd) fun σ H Q ⟨H0, G0, G, os, γ, st, p⟩ => by
    obtain ⟨x, h1, h2⟩ := v.fz st.r
    exact ⟨x, h1, p H G x (Fr.refl st.f.gh) h2⟩
theorem e_varW {β : Type} [Own β] {i : Nat} (v : Var c (.ow i β)) {x : Str} (hN : X.N[i]? = some x := by rfl) (hv : Vis X.env.scope x := by first | exact Or.inl rfl | exact Or.inr (Or.inl rfl) | exact Or.inr (Or.inr rfl))
    (hd : (x == ("__debug__" : Str)) = false := by decide) (hcd : (x == ("__classdict__" : Str)) = false := by decide) : PE X (.Name x pos) (tX F kB c fun γ => .ok (v.get γ)) :=
  pe_mono (pe_var hN hv hd hcd) fun σ H Q ⟨H0, G0, G, os, γ, st, p⟩ => by
    obtain ⟨q, o, _, h1, h2, h3⟩ := v.ow st.r
    exact ⟨.ref q, h1, p H G _ (Fr.refl st.f.gh) ⟨q, o, rfl, h2, h3⟩⟩
theorem e_varB {β : Type} [Own β] {i : Nat} (v : Var c (.bo i β)) {x : Str} (hN : X.N[i]? = some x := by rfl) (hv : Vis X.env.scope x := by first | exact Or.inl rfl | exact Or.inr (Or.inl rfl) | exact Or.inr (Or.inr rfl))
    (hd : (x == ("__debug__" : Str)) = false := by decide) (hcd : (x == ("__classdict__" : Str)) = false := by decide) : PE X (.Name x pos) (tX F kB c fun γ => .ok (v.get γ)) :=
  pe_mono (pe_var hN hv hd hcd) fun σ H Q ⟨H0, G0, G, os, γ, st, p⟩ => by
    obtain ⟨q, o, h1, h2, h3⟩ := v.bo st.r
    exact ⟨.ref q, h1, p H G _ (Fr.refl st.f.gh) ⟨q, o, rfl, st.f.h.get h2 (Own.pl h3), h3⟩⟩
/-! ### from one kind to another -/
theorem e_fb {β : Type} [Own β] [LkO β] {e : Expr} {m : Ctx.T c → Rs β} (h : PE X e (tX F kF c m)) : PE X e (tX F kB c m) :=
  pe_mono h fun σ H Q ⟨H0, G0, G, os, γ, st, p⟩ => ⟨H0, G0, G, os, γ, st, by
    cases e : m γ with
    | no => rw [e] at p; exact p
    | ex x => rw [e] at p; exact p
    | ok b =>
      rw [e] at p
      exact fun H' G' v f ⟨q, o, e1, e2, e3⟩ => p H' G' v f (let ⟨o', k1, k2⟩ := f.gh.own e2 e3; ⟨q, o', e1, k1, k2⟩)⟩
theorem e_ob {β : Type} [Own β] {e : Expr} {m : Ctx.T c → Rs β} (h : PE X e (tX F kO c m)) : PE X e (tX F kB c m) :=
  pe_mono h fun σ H Q ⟨H0, G0, G, os, γ, st, p⟩ => ⟨H0, G0, G, os, γ, st, by
    cases e : m γ with
    | no => rw [e] at p; exact p
    | ex x => rw [e] at p; exact p
    | ok b =>
      rw [e] at p
      exact fun H' G' v f ⟨q, o, e1, e2, e3, e4, e5⟩ => p H' G' v f ⟨q, o, e1, e4, e5⟩⟩
theorem e_of {β : Type} [Own β] {e : Expr} {m : Ctx.T c → Rs β} (h : PE X e (tX F kO c m)) : PE X e (tX F kF c m) :=
  pe_mono h fun σ H Q ⟨H0, G0, G, os, γ, st, p⟩ => ⟨H0, G0, G, os, γ, st, by
    cases e : m γ with
    | no => rw [e] at p; exact p
    | ex x => rw [e] at p; exact p
    | ok b =>
      rw [e] at p
      exact fun H' G' v f ⟨q, o, e1, e2, e3, e4, e5⟩ => p H' (upd G' q o) v (f.freeze e2 e3 e4) ⟨q, o, e1, upd_same, Own.mono (Same.upd' (Same.refl G') e3) e5⟩⟩
/-- an option that is there -/
theorem e_some {α : Type} [Rep α] {e : Expr} {m : Ctx.T c → Rs α} (h : PE X e (tX F kF c m)) : PE X e (tX F kF c fun γ => (m γ).bind fun a => .ok (some a)) :=
  pe_mono h fun σ H Q ⟨H0, G0, G, os, γ, st, p⟩ => ⟨H0, G0, G, os, γ, st, p.step kF fun v H1 G1 a fr ra p1 => p1 H1 G1 v (Fr.refl fr.gh) ra⟩
end
/-! ### the operators -/
section
variable {wd : Wd}
theorem m_I0 {g : Int → Int → V} {δ : Type} [Rep δ] {f : Int → Int → δ} (h : ∀ i j G, rep wd G (g i j) (f i j)) : Sem2 (wd := wd) kF kF kF (rI0 g) (fun i j => .ok (f i j)) := by
  intro W σ B1 B2 H G x y a b Q gh hx hy p
  exact ⟨a, b, hx, hy, p H G _ (Fr.refl gh) (h a b G)⟩
theorem m_I {C : Int → Int → Prop} [∀ i j, Decidable (C i j)] {g : Int → Int → V} {δ : Type} [Rep δ] {f : Int → Int → δ} (h : ∀ i j G, rep wd G (g i j) (f i j)) : Sem2 (wd := wd) kF kF kF (rI C g) (fun i j => if C i j then .ok (f i j) else .no) := by
  intro W σ B1 B2 H G x y a b Q gh hx hy p
  dsimp only at p
  by_cases hc : C a b
  · rw [if_pos hc] at p
    exact ⟨a, b, hx, hy, hc, p H G _ (Fr.refl gh) (h a b G)⟩
  · rw [if_neg hc] at p
    exact p.elim
omit [TabT] in
instance : DecidableRel CMul := fun i j => inferInstanceAs (Decidable ((-(2 ^ 64) < i ∧ i < 2 ^ 64) ∨ (-(2 ^ 64) < j ∧ j < 2 ^ 64)))
omit [TabT] in
instance : DecidableRel CMulW := fun i j => inferInstanceAs (Decidable (i.natAbs.log2 + j.natAbs.log2 < 1000000))
omit [TabT] in
instance : DecidableRel CDiv := fun i j => inferInstanceAs (Decidable (0 < j ∧ j < 1073741824))
omit [TabT] in
instance : DecidableRel CDivW := fun i j => inferInstanceAs (Decidable (0 < j ∧ j.natAbs.log2 < 9000))
omit [TabT] in
instance : DecidableRel CPow := fun i j => inferInstanceAs (Decidable (0 ≤ j ∧ j ≤ 1000000 ∧ i.natAbs < 2 ^ 64))
end
end Wm
set_option Elab.async false
set_option linter.all false
set_option maxRecDepth 100000
set_option maxHeartbeats 4000000
namespace Wm
open PySem PySem.Spec PyProof.Rows L2
open Rep (rep)
open Own (own)
variable [TabT]
/-! ### statements -/
def PostN (F : Fx) (H0 G0 : Hp) (c : Ctx) (D : Ends) : Rs (Ctx.T c) → Prop
  | .ok γ => ∀ σ H G os, Stt F.wd F.n H0 G0 σ H G os c γ → D.nx σ H
  | .ex x => ∀ d σ H G, F.n.P σ → Fr H0 G0 H G → RepX G d x → F.W (.ref (F.wd.cm x.cls)) d σ H
  | .no => False
def PostT (F : Fx) {ρ : Type} (k : Kd F.wd ρ) (H0 G0 : Hp) (D : Ends) : Rs ρ → Prop
  | .ok r => ∀ H G v, Fr H0 G0 H G → k.rel H0 H G v r → D.rt v H
  | .ex x => ∀ d σ H G, F.n.P σ → Fr H0 G0 H G → RepX G d x → F.W (.ref (F.wd.cm x.cls)) d σ H
  | .no => False
def PostG (F : Fx) {ρ : Type} (k : Kd F.wd ρ) (H0 G0 : Hp) (c : Ctx) (D : Ends) : Rs (Ctx.T c ⊕ ρ) → Prop
  | .ok (.inl γ) => ∀ σ H G os, Stt F.wd F.n H0 G0 σ H G os c γ → D.nx σ H
  | .ok (.inr r) => ∀ H G v, Fr H0 G0 H G → k.rel H0 H G v r → D.rt v H
  | .ex x => ∀ d σ H G, F.n.P σ → Fr H0 G0 H G → RepX G d x → F.W (.ref (F.wd.cm x.cls)) d σ H
  | .no => False
/-- the statements' readings: what follows; a return; both -/
def tS (F : Fx) (c c' : Ctx) (m : Ctx.T c → Rs (Ctx.T c')) : TS := fun D σ H => ∃ H0 G0 G os γ, Stt F.wd F.n H0 G0 σ H G os c γ ∧ PostN F H0 G0 c' D (m γ)
def tT (F : Fx) {ρ : Type} (k : Kd F.wd ρ) (c : Ctx) (m : Ctx.T c → Rs ρ) : TS := fun D σ H => ∃ H0 G0 G os γ, Stt F.wd F.n H0 G0 σ H G os c γ ∧ PostT F k H0 G0 D (m γ)
def tG (F : Fx) {ρ : Type} (k : Kd F.wd ρ) (c c' : Ctx) (m : Ctx.T c → Rs (Ctx.T c' ⊕ ρ)) : TS := fun D σ H => ∃ H0 G0 G os γ, Stt F.wd F.n H0 G0 σ H G os c γ ∧ PostG F k H0 G0 c' D (m γ)
section
variable {F : Fx} {α ρ : Type} {k : Kd F.wd α} {kr : Kd F.wd ρ} {H0 G0 H G : Hp} {σ : L2.St} {c c' : Ctx} {D D' : Ends} {Q : VK} {r : Rs α}
theorem PostN.step {f : α → Rs (Ctx.T c')} {n9 : Ctx} {os9 : List Addr} {γ9 : Ctx.T n9} (h : PostN F H0 G0 c' D (r.bind f)) (s : Stt F.wd F.n H0 G0 σ H G os9 n9 γ9) (k : Kd F.wd α) (i : ∀ v H1 G1 a, Fr H G H1 G1 → k.rel H H1 G1 v a → PostN F H0 G0 c' D (f a) → Q v H1) : Post F.W k σ H G Q r := by
  cases r with
  | no => exact h
  | ex x => exact fun d H2 G2 q z => h d σ H2 G2 s.len (s.f.trans q) z
  | ok a => exact fun H2 G2 v f2 q => i v H2 G2 a f2 q h
theorem PostT.step {f : α → Rs ρ} {n9 : Ctx} {os9 : List Addr} {γ9 : Ctx.T n9} (h : PostT F kr H0 G0 D (r.bind f)) (s : Stt F.wd F.n H0 G0 σ H G os9 n9 γ9) (k : Kd F.wd α) (i : ∀ v H1 G1 a, Fr H G H1 G1 → k.rel H H1 G1 v a → PostT F kr H0 G0 D (f a) → Q v H1) : Post F.W k σ H G Q r := by
  cases r with
  | no => exact h
  | ex x => exact fun d H2 G2 q z => h d σ H2 G2 s.len (s.f.trans q) z
  | ok a => exact fun H2 G2 v f2 q => i v H2 G2 a f2 q h
theorem PostG.step {f : α → Rs (Ctx.T c' ⊕ ρ)} {n9 : Ctx} {os9 : List Addr} {γ9 : Ctx.T n9} (h : PostG F kr H0 G0 c' D (r.bind f)) (s : Stt F.wd F.n H0 G0 σ H G os9 n9 γ9) (k : Kd F.wd α) (i : ∀ v H1 G1 a, Fr H G H1 G1 → k.rel H H1 G1 v a → PostG F kr H0 G0 c' D (f a) → Q v H1) : Post F.W k σ H G Q r := by
  cases r with
  | no => exact h
  | ex x => exact fun d H2 G2 q z => h d σ H2 G2 s.len (s.f.trans q) z
  | ok a => exact fun H2 G2 v f2 q => i v H2 G2 a f2 q h
theorem PostN.seqN {r : Rs (Ctx.T c)} {f : Ctx.T c → Rs (Ctx.T c')} (h : PostN F H0 G0 c' D (r.bind f)) (i : ∀ σ H G os γ, Stt F.wd F.n H0 G0 σ H G os c γ → PostN F H0 G0 c' D (f γ) → D'.nx σ H) : PostN F H0 G0 c D' r := by
  cases r with
  | no => exact h
  | ex x => exact h
  | ok γ => exact fun σ H G os st => i σ H G os γ st h
theorem PostT.seqN {r : Rs (Ctx.T c)} {f : Ctx.T c → Rs ρ} (h : PostT F kr H0 G0 D (r.bind f)) (i : ∀ σ H G os γ, Stt F.wd F.n H0 G0 σ H G os c γ → PostT F kr H0 G0 D (f γ) → D'.nx σ H) : PostN F H0 G0 c D' r := by
  cases r with
  | no => exact h
  | ex x => exact h
  | ok γ => exact fun σ H G os st => i σ H G os γ st h
theorem PostG.seqN {r : Rs (Ctx.T c)} {f : Ctx.T c → Rs (Ctx.T c' ⊕ ρ)} (h : PostG F kr H0 G0 c' D (r.bind f)) (i : ∀ σ H G os γ, Stt F.wd F.n H0 G0 σ H G os c γ → PostG F kr H0 G0 c' D (f γ) → D'.nx σ H) : PostN F H0 G0 c D' r := by
  cases r with
  | no => exact h
  | ex x => exact h
  | ok γ => exact fun σ H G os st => i σ H G os γ st h
end
/-! ### blocks -/
section
variable {X : Cx} {F : Fx} {α ρ : Type} {k : Kd F.wd α} {kr : Kd F.wd ρ} {c c1 c' : Ctx} {st : Stmt} {rest sts : List Stmt}
theorem b_nil (s : Sub c c') : PSs X [] (tS F c c' fun γ => .ok (s.proj γ)) :=
  pss_mono pss_nil fun D σ H ⟨H0, G0, G, os, γ, st, p⟩ => by
    obtain ⟨os', _, q⟩ := st.sub s
    exact p σ H G os' q
theorem b_nilG (s : Sub c c') : PSs X [] (tG F kr c c' fun γ => .ok (.inl (s.proj γ))) :=
  pss_mono pss_nil fun D σ H ⟨H0, G0, G, os, γ, st, p⟩ => by
    obtain ⟨os', _, q⟩ := st.sub s
    exact p σ H G os' q
theorem b_cons {m1 : Ctx.T c → Rs (Ctx.T c1)} {m2 : Ctx.T c1 → Rs (Ctx.T c')} (h1 : PS X st (tS F c c1 m1)) (h2 : PSs X rest (tS F c1 c' m2)) : PSs X (st :: rest) (tS F c c' fun γ => (m1 γ).bind m2) :=
  pss_mono (pss_cons h1 h2) fun D σ H ⟨H0, G0, G, os, γ, s, p⟩ => ⟨H0, G0, G, os, γ, s, p.seqN fun σ H G os γ s2 p2 => ⟨H0, G0, G, os, γ, s2, p2⟩⟩
theorem b_consT {m1 : Ctx.T c → Rs (Ctx.T c1)} {m2 : Ctx.T c1 → Rs ρ} (h1 : PS X st (tS F c c1 m1)) (h2 : PSs X rest (tT F kr c1 m2)) : PSs X (st :: rest) (tT F kr c fun γ => (m1 γ).bind m2) :=
  pss_mono (pss_cons h1 h2) fun D σ H ⟨H0, G0, G, os, γ, s, p⟩ => ⟨H0, G0, G, os, γ, s, p.seqN fun σ H G os γ s2 p2 => ⟨H0, G0, G, os, γ, s2, p2⟩⟩
theorem b_consG {m1 : Ctx.T c → Rs (Ctx.T c1)} {m2 : Ctx.T c1 → Rs (Ctx.T c' ⊕ ρ)} (h1 : PS X st (tS F c c1 m1)) (h2 : PSs X rest (tG F kr c1 c' m2)) : PSs X (st :: rest) (tG F kr c c' fun γ => (m1 γ).bind m2) :=
  pss_mono (pss_cons h1 h2) fun D σ H ⟨H0, G0, G, os, γ, s, p⟩ => ⟨H0, G0, G, os, γ, s, p.seqN fun σ H G os γ s2 p2 => ⟨H0, G0, G, os, γ, s2, p2⟩⟩
omit [TabT] in
omit [TabT] in
omit [TabT] in
/-- a statement that may return, then the rest -/
def Rs.left {γ ρ : Type} (r : Rs (γ ⊕ ρ)) (f : γ → Rs ρ) : Rs ρ := r.bind fun z => match z with | .inl g => f g | .inr x => .ok x
omit [TabT] in
def Rs.leftG {γ δ ρ : Type} (r : Rs (γ ⊕ ρ)) (f : γ → Rs (δ ⊕ ρ)) : Rs (δ ⊕ ρ) := r.bind fun z => match z with | .inl g => f g | .inr x => .ok (.inr x)
theorem b_goT {m1 : Ctx.T c → Rs (Ctx.T c1 ⊕ ρ)} {m2 : Ctx.T c1 → Rs ρ} (h1 : PS X st (tG F kr c c1 m1)) (h2 : PSs X rest (tT F kr c1 m2)) : PSs X (st :: rest) (tT F kr c fun γ => (m1 γ).left m2) :=
  pss_mono (pss_cons h1 h2) fun D σ H ⟨H0, G0, G, os, γ, s, p⟩ => ⟨H0, G0, G, os, γ, s, by
    dsimp only [Rs.left] at p
    cases e : m1 γ with
    | no => rw [e] at p; exact p
    | ex x => rw [e] at p; exact p
    | ok z =>
      rw [e] at p
      cases z with
      | inl g => exact fun σ H G os s2 => ⟨H0, G0, G, os, g, s2, p⟩
      | inr x => exact p⟩
theorem b_goG {m1 : Ctx.T c → Rs (Ctx.T c1 ⊕ ρ)} {m2 : Ctx.T c1 → Rs (Ctx.T c' ⊕ ρ)} (h1 : PS X st (tG F kr c c1 m1)) (h2 : PSs X rest (tG F kr c1 c' m2)) : PSs X (st :: rest) (tG F kr c c' fun γ => (m1 γ).leftG m2) :=
  pss_mono (pss_cons h1 h2) fun D σ H ⟨H0, G0, G, os, γ, s, p⟩ => ⟨H0, G0, G, os, γ, s, by
    dsimp only [Rs.leftG] at p
    cases e : m1 γ with
    | no => rw [e] at p; exact p
    | ex x => rw [e] at p; exact p
    | ok z =>
      rw [e] at p
      cases z with
      | inl g => exact fun σ H G os s2 => ⟨H0, G0, G, os, g, s2, p⟩
      | inr x => exact p⟩
theorem b_frzT {m : Ctx.T c1 → Rs ρ} (s : Frz c c1) (h : PSs X sts (tT F kr c1 m)) : PSs X sts (tT F kr c fun γ => m (s.proj γ)) :=
  pss_mono h fun D σ H ⟨H0, G0, G, os, γ, st, p⟩ => by
    obtain ⟨os', G', q⟩ := st.frz s
    exact ⟨H0, G0, G', os', _, q, p⟩
/-- a terminal block as one that may return -/
theorem b_tg {m : Ctx.T c → Rs ρ} (h : PSs X sts (tT F kr c m)) : PSs X sts (tG F kr c c' fun γ => (m γ).bind fun x => .ok (.inr x)) :=
  pss_mono h fun D σ H ⟨H0, G0, G, os, γ, s, p⟩ => ⟨H0, G0, G, os, γ, s, by
    cases e : m γ with
    | no => dsimp only at p; rw [e] at p; exact p
    | ex x => dsimp only at p; rw [e] at p; exact p
    | ok z => dsimp only at p; rw [e] at p; exact p⟩
/-! ### tests -/
def tQ (F : Fx) (c : Ctx) (m : Ctx.T c → Rs Bool) : TT := fun σ H Q => tX F kF c m σ H fun x H' => ∃ b, x = .bl b ∧ Q b H'
theorem q_val {e : Expr} {m : Ctx.T c → Rs Bool} (h : PE X e (tX F kF c m)) (he : ∀ whole, isTrue e X.env whole = (do let v ← whole; standAt e.pos; holding [v] (truthy v)) := by intro _; rfl) : PT X e (tQ F c m) := pt_mono (pt_val h he) fun _ _ _ q => q
theorem q_cmp {α β : Type} {k1 : Kd F.wd α} {k2 : Kd F.wd β} {a b : Expr} {ma : Ctx.T c → Rs α} {mb : Ctx.T c → Rs β} {pos : Pos} {r : R2} {f : α → β → Rs Bool} {op : CmpOp} (ho : OpR X (compareOp op) r) (hr : Sem2 k1 k2 kF r f) (ha : PE X a (tX F k1 c ma)) (hb : PE X b (tX F k2 c mb))
    (hm : behindInMarks op b = false := by first | exact nomark _ | rfl) : PT X (.Compare a [op] [b] pos) (tQ F c fun γ => (ma γ).bind fun x => (mb γ).bind fun y => f x y) :=
  pt_mono (pt_cmpR ho ha hb hm) fun σ H Q h => tX2 hr h
theorem q_cmpT {α β : Type} {k1 : Kd F.wd α} {k2 : Kd F.wd β} {a b : Expr} {ma : Ctx.T c → Rs α} {mb : Ctx.T c → Rs β} {pos : Pos} {r : R2} {f : α → β → Rs Bool} {op : CmpOp} (ho : OpR X (compareOp op) r) (hr : Sem2T k1 k2 kF r f) (ha : PE X a (tX F k1 c ma)) (hb : PE X b (tX F k2 c mb))
    (hm : behindInMarks op b = false := by first | exact nomark _ | rfl) : PT X (.Compare a [op] [b] pos) (tQ F c fun γ => (ma γ).bind fun x => (mb γ).bind fun y => f x y) :=
  pt_mono (pt_cmpR ho ha hb hm) fun σ H Q h => tX2T hr h
theorem q_not {a : Expr} {m : Ctx.T c → Rs Bool} {pos : Pos} (h : PT X a (tQ F c m)) : PT X (.UnaryOp .Not a pos) (tQ F c fun γ => (m γ).bind fun b => .ok (!b)) :=
  pt_mono (pt_not h) fun σ H Q ⟨H0, G0, G, os, γ, st, p⟩ => ⟨H0, G0, G, os, γ, st, p.step kF fun v H1 G1 b fr rb p1 => ⟨b, rb, by
    obtain ⟨b', e, q⟩ := p1 H1 G1 (.bl (!b)) (Fr.refl fr.gh) rfl
    cases e
    exact q⟩⟩
omit [TabT] in
theorem q_and1 {a : Expr} {t : TT} {pos : Pos} (h : PT X a t) : PW X (.BoolOp .And [a] pos) t := pw_and1 h
omit [TabT] in
theorem q_or1 {a : Expr} {t : TT} {pos : Pos} (h : PT X a t) : PW X (.BoolOp .Or [a] pos) t := pw_or1 h
theorem q_and {a b : Expr} {es : List Expr} {m1 m2 : Ctx.T c → Rs Bool} {pos : Pos} (h1 : PT X a (tQ F c m1)) (h2 : PW X (.BoolOp .And (b :: es) pos) (tQ F c m2)) : PW X (.BoolOp .And (a :: b :: es) pos) (tQ F c fun γ => (m1 γ).bind fun x => if x = true then m2 γ else .ok false) :=
  pw_mono (pw_and h1 h2) fun σ H Q ⟨H0, G0, G, os, γ, st, p⟩ => ⟨H0, G0, G, os, γ, st, p.step kF fun v H1 G1 b fr rb p1 => ⟨b, rb, by
    cases b with
    | true => exact ⟨H0, G0, G1, os, γ, st.ext fr, p1⟩
    | false =>
      obtain ⟨b', e, q⟩ := p1 H1 G1 (.bl false) (Fr.refl fr.gh) rfl
      cases e
      exact q⟩⟩
theorem q_or {a b : Expr} {es : List Expr} {m1 m2 : Ctx.T c → Rs Bool} {pos : Pos} (h1 : PT X a (tQ F c m1)) (h2 : PW X (.BoolOp .Or (b :: es) pos) (tQ F c m2)) : PW X (.BoolOp .Or (a :: b :: es) pos) (tQ F c fun γ => (m1 γ).bind fun x => if x = true then .ok true else m2 γ) :=
  pw_mono (pw_or h1 h2) fun σ H Q ⟨H0, G0, G, os, γ, st, p⟩ => ⟨H0, G0, G, os, γ, st, p.step kF fun v H1 G1 b fr rb p1 => ⟨b, rb, by
    cases b with
    | false => exact ⟨H0, G0, G1, os, γ, st.ext fr, p1⟩
    | true =>
      obtain ⟨b', e, q⟩ := p1 H1 G1 (.bl true) (Fr.refl fr.gh) rfl
      cases e
      exact q⟩⟩
/-- .. as values -/
theorem e_and {a b : Expr} {es : List Expr} {m1 m2 : Ctx.T c → Rs Bool} {pos : Pos} (h1 : PE X a (tX F kF c m1)) (h2 : PE X (.BoolOp .And (b :: es) pos) (tX F kF c m2)) : PE X (.BoolOp .And (a :: b :: es) pos) (tX F kF c fun γ => (m1 γ).bind fun x => if x = true then m2 γ else .ok false) :=
  pe_mono (pe_and h1 h2) fun σ H Q ⟨H0, G0, G, os, γ, st, p⟩ => ⟨H0, G0, G, os, γ, st, p.step kF fun v H1 G1 b fr rb p1 => ⟨b, rb, by
    cases b with
    | true => exact ⟨H0, G0, G1, os, γ, st.ext fr, p1⟩
    | false => exact p1 H1 G1 (.bl false) (Fr.refl fr.gh) rfl⟩⟩
omit [TabT] in
theorem e_one {op} {a : Expr} {pos : Pos} {t : TE} (h : PE X a t) : PE X (.BoolOp op [a] pos) t := pe_one h
/-! ### small statements -/
theorem t_ret {e : Expr} {m : Ctx.T c → Rs ρ} {pos : Pos} (h : PE X e (tX F kr c m)) : PSs X [.Return (some e) pos] (tT F kr c m) :=
  pss_mono (pss_one (ps_ret h)) fun D σ H ⟨H0, G0, G, os, γ, st, p⟩ => ⟨H0, G0, G, os, γ, st, by
    cases e : m γ with
    | no => rw [e] at p; exact p
    | ex x => rw [e] at p; exact fun d H2 G2 q z => p d σ H2 G2 st.len (st.f.trans q) z
    | ok z => rw [e] at p; exact fun H2 G2 v f q => p H2 G2 v (st.f.trans f) (kr.back st.f.h q)⟩
/-- return of an owned name -/
theorem t_retW {β : Type} [Own β] {i : Nat} {pos pos' : Pos} (v : Var c (.ow i β)) {x : Str} (hN : X.N[i]? = some x := by rfl) (hv : Vis X.env.scope x := by first | exact Or.inl rfl | exact Or.inr (Or.inl rfl) | exact Or.inr (Or.inr rfl))
    (hd : (x == ("__debug__" : Str)) = false := by decide) (hcd : (x == ("__classdict__" : Str)) = false := by decide) : PSs X [.Return (some (.Name x pos')) pos] (tT F kO c fun γ => .ok (v.get γ)) :=
  pss_mono (pss_one (ps_ret (pe_var hN hv hd hcd))) fun D σ H ⟨H0, G0, G, os, γ, st, p⟩ => by
    obtain ⟨q, o, h0, h1, h2, h3⟩ := v.ow st.r
    exact ⟨.ref q, h1, p H G _ st.f ⟨q, o, rfl, (st.fr q h0).2, (st.fr q h0).1, h2, h3⟩⟩
theorem s_if {t : Expr} {a b : List Stmt} {mt : Ctx.T c → Rs Bool} {m1 m2 : Ctx.T c → Rs (Ctx.T c')} {pos : Pos} (ht : PT X t (tQ F c mt)) (ha : PSs X a (tS F c c' m1)) (hb : PSs X b (tS F c c' m2)) : PS X (.If t a b pos) (tS F c c' fun γ => (mt γ).bind fun x => if x = true then m1 γ else m2 γ) :=
  ps_mono (ps_if ht ha hb) fun D σ H ⟨H0, G0, G, os, γ, st, p⟩ => ⟨H0, G0, G, os, γ, st, p.step st kF fun v H1 G1 b fr rb p1 => ⟨b, rb, by
    cases b with
    | false => exact ⟨H0, G0, G1, os, γ, st.ext fr, p1⟩
    | true => exact ⟨H0, G0, G1, os, γ, st.ext fr, p1⟩⟩⟩
/-- if t: A (which returns); the rest -/
theorem b_ifT {t : Expr} {a : List Stmt} {mt : Ctx.T c → Rs Bool} {m1 m2 : Ctx.T c → Rs ρ} {pos : Pos} (ht : PT X t (tQ F c mt)) (ha : PSs X a (tT F kr c m1)) (hb : PSs X rest (tT F kr c m2)) : PSs X (.If t a [] pos :: rest) (tT F kr c fun γ => (mt γ).bind fun x => if x = true then m1 γ else m2 γ) :=
  pss_mono (pss_cons (ps_if ht ha pss_nil) hb) fun D σ H ⟨H0, G0, G, os, γ, st, p⟩ => ⟨H0, G0, G, os, γ, st, p.step st kF fun v H1 G1 b fr rb p1 => ⟨b, rb, by
    cases b with
    | false => exact ⟨H0, G0, G1, os, γ, st.ext fr, p1⟩
    | true =>
      refine ⟨H0, G0, G1, os, γ, st.ext fr, ?_⟩
      cases e : m1 γ with
      | no => rw [if_pos rfl, e] at p1; exact p1
      | ex x => rw [if_pos rfl, e] at p1; exact p1
      | ok z => rw [if_pos rfl, e] at p1; exact p1⟩⟩
theorem b_ifG {t : Expr} {a : List Stmt} {mt : Ctx.T c → Rs Bool} {m1 : Ctx.T c → Rs ρ} {m2 : Ctx.T c → Rs (Ctx.T c' ⊕ ρ)} {pos : Pos} (ht : PT X t (tQ F c mt)) (ha : PSs X a (tT F kr c m1)) (hb : PSs X rest (tG F kr c c' m2)) :
    PSs X (.If t a [] pos :: rest) (tG F kr c c' fun γ => (mt γ).bind fun x => if x = true then (m1 γ).bind fun z => .ok (.inr z) else m2 γ) :=
  pss_mono (pss_cons (ps_if ht ha pss_nil) hb) fun D σ H ⟨H0, G0, G, os, γ, st, p⟩ => ⟨H0, G0, G, os, γ, st, p.step st kF fun v H1 G1 b fr rb p1 => ⟨b, rb, by
    cases b with
    | false => exact ⟨H0, G0, G1, os, γ, st.ext fr, p1⟩
    | true =>
      refine ⟨H0, G0, G1, os, γ, st.ext fr, ?_⟩
      rw [if_pos rfl] at p1
      cases e : m1 γ with
      | no => rw [e] at p1; exact p1
      | ex x => rw [e] at p1; exact p1
      | ok z => rw [e] at p1; exact p1⟩⟩
/-! ### stores -/
/-- a name is stored: it comes ahead of the others -/
theorem R.push {wd : Wd} {H0 G0 H G : Hp} {σ : L2.St} {n : Sl} {α : Type} [Rep α] {j : Nat} {x : V} {a : α} {os : List Addr} {γ : Ctx.T c'} (st : Stt wd n H0 G0 σ H G os c' γ) (hj : n.lt j) (hn : Ctx.not j c' = true) (w : rep wd G x a) :
    Stt wd n H0 G0 (σ.set j (some x)) H G os (.fz j α :: c') (a, γ) :=
  ⟨st.len.set hj, st.f, st.nd, st.fr, ⟨⟨x, List.getElem?_set_self (by rw [st.len.1]; exact hj.1), w⟩, st.r.set hn⟩, st.t⟩
theorem R.pushO {wd : Wd} {H0 G0 H G : Hp} {σ : L2.St} {n : Sl} {β : Type} [Own β] {j : Nat} {p : Addr} {o : HO} {b : β} {os : List Addr} {γ : Ctx.T c'} (st : Stt wd n H0 G0 σ H G os c' γ) (hj : n.lt j) (hn : Ctx.not j c' = true) (hp : p ∉ os) (h0 : H0 p = none) (g : G p = none) (h : H p = some o) (w : own wd G o b) :
    Stt wd n H0 G0 (σ.set j (some (.ref p))) H G (p :: os) (.ow j β :: c') (b, γ) :=
  ⟨st.len.set hj, st.f, List.nodup_cons.mpr ⟨hp, st.nd⟩, fun q hq => by
    rcases List.mem_cons.mp hq with e | e
    · rw [e]; exact ⟨g, h0⟩
    · exact st.fr q e, ⟨p, o, os, rfl, List.getElem?_set_self (by rw [st.len.1]; exact hj.1), h, w, st.r.set hn⟩, st.t⟩
theorem s_setT [Rep α] {st : Stmt} {te : TE} {m : Ctx.T c → Rs α} {j : Nat} (h : PS X st (tAsg te (gName j))) (he : ∀ σ H Q, tX F kF c m σ H Q → te σ H Q) (s : Sub c c') (hj : F.n.lt j) (hn : Ctx.not j c' = true) : PS X st (tS F c (.fz j α :: c') fun γ => (m γ).bind fun a => .ok (a, s.proj γ)) :=
  ps_mono h fun D σ H ⟨H0, G0, G, os, γ, st, p⟩ => he _ _ _ ⟨H0, G0, G, os, γ, st, p.step st kF fun v H1 G1 a fr ra p1 => by
    obtain ⟨os', _, q⟩ := (st.ext fr).sub s
    exact p1 _ _ _ _ (R.push q hj hn ra)⟩
theorem s_setTO {β : Type} [Own β] {st : Stmt} {te : TE} {m : Ctx.T c → Rs β} {j : Nat} (h : PS X st (tAsg te (gName j))) (he : ∀ σ H Q, tX F kO c m σ H Q → te σ H Q) (s : Sub c c') (hj : F.n.lt j) (hn : Ctx.not j c' = true) : PS X st (tS F c (.ow j β :: c') fun γ => (m γ).bind fun a => .ok (a, s.proj γ)) :=
  ps_mono h fun D σ H ⟨H0, G0, G, os, γ, st, p⟩ => he _ _ _ ⟨H0, G0, G, os, γ, st, p.step st kO fun v H1 G1 a fr ⟨q, o, ev, n, g, hq, w⟩ p1 => by
    obtain ⟨os', hs, st'⟩ := (st.ext fr).sub s
    subst ev
    refine p1 _ _ _ _ (R.pushO st' hj hn (fun z => ?_) (st.f.h.free n) g hq w)
    obtain ⟨o2, h2, _⟩ := st.r.there q (hs.subset z)
    rw [n] at h2
    cases h2⟩
/-- a name of the same kind is stored anew, in its place -/
theorem s_updT [Rep α] {st : Stmt} {te : TE} {m : Ctx.T c → Rs α} {j : Nat} (h : PS X st (tAsg te (gName j))) (he : ∀ σ H Q, tX F kF c m σ H Q → te σ H Q) (v : Var c (.fz j α)) (hj : F.n.lt j) (hn : (c.map Ent.slot).Nodup) : PS X st (tS F c c fun γ => (m γ).bind fun a => .ok (v.put γ a)) :=
  ps_mono h fun D σ H ⟨H0, G0, G, os, γ, st, p⟩ => he _ _ _ ⟨H0, G0, G, os, γ, st, p.step st kF fun x H1 G1 a fr ra p1 => by
    have q := st.ext fr
    exact p1 _ _ _ _ ⟨q.len.set hj, q.f, q.nd, q.fr, v.restore hn ra (by rw [q.len.1]; exact hj.1) q.r, q.t⟩⟩
end
end Wm
set_option Elab.async false
set_option linter.all false
set_option maxRecDepth 100000
set_option maxHeartbeats 4000000
namespace Wm
open PySem PySem.Spec PyProof.Rows L2
open Rep (rep)
open Own (own)
variable [TabT]
/-! ### what is walked -/
/-- from any heap that holds B the iterator J walks xs -/
structure Wk (wd : Wd) (J : It) (B : Hp) (G1 : Hp) {α : Type} [Rep α] (xs : List α) : Prop where
  stop : ∀ i H, SameL B H → xs.length ≤ i → J.stop i H
  go : ∀ i H a, SameL B H → xs[i]? = some a → J.go i H
  yld : ∀ i H G x H' a, SameL B H → Same G1 G → SameL G H → xs[i]? = some a → J.yld i H x H' → ∃ G', Fr H G H' G' ∧ rep wd G' x a
/-- the base: the frozen part (g), the whole heap as the walk begins (h), the heap at the def's entry (z) -/
inductive Bs where
  | g | h | z
omit [TabT] in
@[reducible] def Bs.at (b : Bs) (G H H0 : Hp) : Hp := match b with
  | .g => G
  | .h => H
  | .z => H0
def tI (F : Fx) (fr : Bs) {α : Type} [Rep α] (c : Ctx) (m : Ctx.T c → Rs (List α)) : TI := fun σ H Rr => ∃ H0 G0 G os γ, Stt F.wd F.n H0 G0 σ H G os c γ ∧
  match m γ with
  | .ok xs => ∀ H' G' J, Fr H G H' G' → Wk F.wd J (fr.at G' H' H0) G' xs → Rr J H'
  | .ex x => ∀ d H' G', Fr H G H' G' → RepX G' d x → F.W (.ref (F.wd.cm x.cls)) d σ H'
  | .no => False
omit [TabT] in
theorem pi_mono {X : Cx} {tg it : Expr} {t t' : TI} (h : PI X tg it t) (i : ∀ σ H Q, t' σ H Q → t σ H Q) : PI X tg it t' := ⟨fun pins s σ H Q I q => h.run pins s σ H Q I (i σ H Q q)⟩
section
variable {X : Cx} {F : Fx} {c : Ctx} {α β : Type} {tg e : Expr}
theorem tI_of [Rep α] {β : Type} {fr : Bs} {k : Kd F.wd β} {m : Ctx.T c → Rs β} {f : β → Rs (List α)} {σ : L2.St} {H : Hp} {Rr : It → Hp → Prop} {Q : VK} (h : tI F fr c (fun γ => (m γ).bind f) σ H Rr)
    (i : ∀ v H0 H1 G1 b, Same H0 H1 → SameL G1 H1 → k.rel H H1 G1 v b → (match f b with | .ok xs => ∀ J, Wk F.wd J (fr.at G1 H1 H0) G1 xs → Rr J H1 | .ex _ => True | .no => False) → Q v H1) (nx : ∀ b x, f b ≠ .ex x) : tX F k c m σ H Q := by
  obtain ⟨H0, G0, G, os, γ, st, p⟩ := h
  refine ⟨H0, G0, G, os, γ, st, ?_⟩
  dsimp only at p
  cases e : m γ with
  | no => rw [e] at p; exact p
  | ex x => rw [e] at p; exact p
  | ok b =>
    rw [e] at p
    refine fun H1 G1 v f1 r => i v H0 H1 G1 b (st.f.h.trans f1.h) f1.gh r ?_
    have p' : match f b with | .ok xs => ∀ H' G' J, Fr H G H' G' → Wk F.wd J (fr.at G' H' H0) G' xs → Rr J H' | .ex x => ∀ d H' G', Fr H G H' G' → RepX G' d x → F.W (.ref (F.wd.cm x.cls)) d σ H' | .no => False := p
    cases e2 : f b with
    | no => rw [e2] at p'; exact p'
    | ex x => exact trivial
    | ok xs =>
      rw [e2] at p'
      exact fun J w => p' H1 G1 J f1 w
theorem wk_list {K : PySem.W.Frag} {wd : Wd} (hK : wd.K = K) [Rep α] {p : Addr} {vs : List V} {B G1 : Hp} {xs : List α} (hp : B p = some (.lst vs)) (r : reps wd G1 vs xs) : Wk wd (Itl K p) B G1 xs where
  stop := fun i H s hi => ⟨vs, .of (s.v hp), by rw [r.len]; exact hi⟩
  go := fun i H a s ha => by
    obtain ⟨v, hv, _⟩ := r.get ha
    exact ⟨vs, v, .of (s.v hp), hv⟩
  yld := fun i H G x H' a s g gh ha ⟨e, y⟩ => by
    subst e
    obtain ⟨v, hv, hr⟩ := r.get ha
    have := y vs (.of (s.v hp))
    rw [hv] at this
    cases this
    exact ⟨G, Fr.refl gh, Rep.mono g hr⟩
/-- a frozen list; any list that is only read meanwhile -/
theorem i_list [Rep α] {m : Ctx.T c → Rs (List α)} (hK : F.wd.K = X.K) (h : PE X e (tX F kF c m)) : PI X tg e (tI F .g c fun γ => (m γ).bind .ok) :=
  pi_mono (pi_list h) fun σ H Rr q => tI_of q (fun v H0 H1 G1 b h0 gh ⟨p, o, e1, e2, vs, e3, e4, e5⟩ w => by
    subst e3
    exact ⟨p, e1, ⟨vs, .of (gh.v e2)⟩, w _ (wk_list hK e2 e5)⟩) fun _ _ z => nomatch z
theorem i_listB [Rep α] {m : Ctx.T c → Rs (List α)} (hK : F.wd.K = X.K) (h : PE X e (tX F kB c m)) : PI X tg e (tI F .h c fun γ => (m γ).bind .ok) :=
  pi_mono (pi_list h) fun σ H Rr q => tI_of q (fun v H0 H1 G1 b h0 gh ⟨p, o, e1, e2, vs, e3, e4, e5⟩ w => by
    subst e3
    exact ⟨p, e1, ⟨vs, .of e2⟩, w _ (wk_list hK e2 e5)⟩) fun _ _ z => nomatch z
theorem i_bo [Rep α] {i : Nat} (v : Var c (.bo i (List α))) {x : Str} {pos : Pos} (hK : F.wd.K = X.K) (hN : X.N[i]? = some x := by rfl) (hv : Vis X.env.scope x := by first | exact Or.inl rfl | exact Or.inr (Or.inl rfl) | exact Or.inr (Or.inr rfl))
    (hd : (x == ("__debug__" : Str)) = false := by decide) (hcd : (x == ("__classdict__" : Str)) = false := by decide) : PI X tg (.Name x pos) (tI F .z c fun γ => .ok (v.get γ)) :=
  pi_mono (pi_list (pe_var hN hv hd hcd)) fun σ H Rr ⟨H0, G0, G, os, γ, st, p⟩ => by
    obtain ⟨q, o, h1, h2, vs, e3, e4, r⟩ := v.bo st.r
    subst e3
    exact ⟨.ref q, h1, q, rfl, ⟨vs, .of (st.f.h.v h2)⟩, p H G _ (Fr.refl st.f.gh) (wk_list hK h2 r)⟩
omit [TabT] in
def rng (lo hi : Int) : List Int := (List.range (hi - lo).toNat).map fun (i : Nat) => lo + (i : Int)
omit [TabT] in
theorem rng_len (lo hi : Int) : (rng lo hi).length = (hi - lo).toNat := by unfold rng; rw [List.length_map, List.length_range]
omit [TabT] in
theorem rng_get {lo hi : Int} {i : Nat} {a : Int} (h : (rng lo hi)[i]? = some a) : i < (hi - lo).toNat ∧ a = lo + i := by
  unfold rng at h
  rw [List.getElem?_map] at h
  by_cases hi' : i < (hi - lo).toNat
  · rw [List.getElem?_range hi'] at h
    exact ⟨hi', (Option.some.inj h).symm⟩
  · rw [List.getElem?_eq_none (by rw [List.length_range]; omega)] at h
    cases h
omit [TabT] in
omit [TabT] in
/-- range's bounds; ok: also as a list -/
def Rng (lo hi : Int) : Rs (List Int) := if -4611686018427387904 ≤ lo ∧ lo ≤ 4611686018427387903 ∧ -4611686018427387904 ≤ hi ∧ hi ≤ 4611686018427387903 then .ok (rng lo hi) else .no
theorem wk_rng {wd : Wd} {lo hi : Int} {B G1 : Hp} : Wk wd (Itr lo (hi - lo).toNat) B G1 (rng lo hi) where
  stop := fun i H s h => by rw [rng_len] at h; exact h
  go := fun i H a s h => (rng_get h).1
  yld := fun i H G x H' a s g gh h ⟨e, y⟩ => by
    subst e
    exact ⟨G, Fr.refl gh, by rw [y, (rng_get h).2]; rfl⟩
theorem i_rng1 {fr : Bs} {m : Ctx.T c → Rs Int} {p pos : Pos} (hg : Gl X "range") (hm : X.mg "range" = none) (h : PE X e (tX F kF c m)) (he : starEach (e :: []) X.env = (false, eval e X.env) :: starEach [] X.env := by rfl) (hs : starEach [e] X.env = [(false, eval e X.env)] := by rfl) :
    PI X tg (.Call (.Name "range" p) [e] [] pos) (tI F fr c fun γ => (m γ).bind fun n => Rng 0 n) :=
  pi_mono (pi_range1 hg hm (pa_cons h pa_nil he) hs) fun σ H Rr q => tI_of (k := kF) q (fun v H0 H1 G1 b h0 gh r w => by
    unfold Rng at w
    by_cases hb : -4611686018427387904 ≤ (0 : Int) ∧ (0 : Int) ≤ 4611686018427387903 ∧ -4611686018427387904 ≤ b ∧ b ≤ 4611686018427387903
    · rw [if_pos hb] at w
      refine ⟨b, by rw [show v = V.int b from r], by omega, by omega, ?_⟩
      have := w _ (wk_rng (wd := F.wd) (lo := 0) (hi := b))
      rwa [Int.sub_zero] at this
    · rw [if_neg hb] at w
      exact w.elim) fun b x => by unfold Rng; split <;> exact fun z => nomatch z
theorem i_rng2 {fr : Bs} {e2 : Expr} {m m2 : Ctx.T c → Rs Int} {p pos : Pos} (hg : Gl X "range") (hm : X.mg "range" = none) (h : PE X e (tX F kF c m)) (h2 : PE X e2 (tX F kF c m2)) (he : starEach (e :: e2 :: []) X.env = (false, eval e X.env) :: starEach (e2 :: []) X.env := by rfl) (he2 : starEach (e2 :: []) X.env = (false, eval e2 X.env) :: starEach [] X.env := by rfl) (hs : starEach [e, e2] X.env = [(false, eval e X.env), (false, eval e2 X.env)] := by rfl) (hs2 : starEach [e2] X.env = [(false, eval e2 X.env)] := by rfl) :
    PI X tg (.Call (.Name "range" p) [e, e2] [] pos) (tI F fr c fun γ => (m γ).bind fun a => (m2 γ).bind fun b => Rng a b) :=
  pi_mono (pi_range2 hg hm (pa_cons h (pa_cons h2 pa_nil he2) he) hs hs2) fun σ H Rr q => by
    obtain ⟨H0, G0, G, os, γ, st, p⟩ := q
    refine ⟨H0, G0, G, os, γ, st, ?_⟩
    dsimp only at p
    cases e1 : m γ with
    | no => rw [e1] at p; exact p
    | ex x => rw [e1] at p; exact p
    | ok a =>
      rw [e1] at p
      refine fun H1 G1 v f1 r => ⟨H0, G0, G1, os, γ, st.ext f1, ?_⟩
      cases e2 : m2 γ with
      | no => rw [e2] at p; exact p
      | ex x =>
        rw [e2] at p
        exact fun d H2 G2 s z => p d H2 G2 (f1.trans s) z
      | ok b =>
        simp only [e2] at p
        dsimp only [Rs.bind] at p
        refine fun H2 G2 w f2 r2 => ⟨a, b, by rw [show v = V.int a from r, show w = V.int b from r2], ?_⟩
        unfold Rng at p
        by_cases hb : -4611686018427387904 ≤ a ∧ a ≤ 4611686018427387903 ∧ -4611686018427387904 ≤ b ∧ b ≤ 4611686018427387903
        · rw [if_pos hb] at p
          exact ⟨⟨by omega, by omega, by omega, by omega⟩, p H2 G2 _ (f1.trans f2) wk_rng⟩
        · rw [if_neg hb] at p
          exact p.elim
omit [TabT] in
omit [TabT] in
/-- enumerate of a frozen list -/
def enumI {α : Type} (xs : List α) : List (Int × α) := (xs.zipIdx 0).map fun p => ((p.2 : Int), p.1)
omit [TabT] in
theorem enumI_get {α : Type} {xs : List α} {i : Nat} {q : Int × α} : (enumI xs)[i]? = some q ↔ q.1 = (i : Int) ∧ xs[i]? = some q.2 := by
  unfold enumI
  rw [List.getElem?_map, List.getElem?_zipIdx]
  cases e : xs[i]? with
  | none => simp
  | some x =>
    simp only [Option.map_some, Nat.zero_add, Option.some.injEq]
    constructor
    · intro h; rw [← h]; exact ⟨rfl, rfl⟩
    · intro h; obtain ⟨h1, h2⟩ := h; obtain ⟨q1, q2⟩ := q; simp only at h1 h2; rw [h1, h2]
omit [TabT] in
theorem enumI_len {α : Type} (xs : List α) : (enumI xs).length = xs.length := by unfold enumI; rw [List.length_map, List.length_zipIdx]
omit [TabT] in
def chars (x : Str) : List Str := x.cps.toList.map fun c => ⟨#[c]⟩
omit [TabT] in
theorem SOk.one {c : Nat} (h : c < 1114112) : SOk ⟨#[c]⟩ := ⟨by show 1 ≤ 16777216; decide, fun d hd => by
  have : d = c := by simpa using hd
  rw [this]; exact h⟩
theorem i_str {fr : Bs} {m : Ctx.T c → Rs Str} (h : PE X e (tX F kF c m)) : PI X tg e (tI F fr c fun γ => (m γ).bind fun x => .ok (chars x)) :=
  pi_mono (pi_str h) fun σ H Rr q => tI_of (k := kF) q (fun v H0 H1 G1 b h0 gh r w => ⟨b, r.1, w _ {
      stop := fun i H s hi => by
        unfold chars at hi
        rw [List.length_map, Array.length_toList] at hi
        exact hi
      go := fun i H a s ha => by
        have : i < (chars b).length := (List.getElem?_eq_some_iff.mp ha).1
        unfold chars at this
        rw [List.length_map, Array.length_toList] at this
        exact this
      yld := fun i H G x H' a s g gh ha ⟨eH, ch, hc, ex⟩ => by
        subst eH
        refine ⟨G, Fr.refl gh, ?_⟩
        unfold chars at ha
        rw [List.getElem?_map, Array.getElem?_toList, hc] at ha
        rw [ex, ← Option.some.inj ha]
        refine ⟨rfl, SOk.one (r.2.2 ch ?_)⟩
        rw [← Array.getElem?_toList] at hc
        exact List.mem_of_getElem? hc }⟩) fun _ _ z => nomatch z
end
/-! ### targets -/
def TgtOk (F : Fx) (g : TG) {α : Type} [Rep α] (c c1 : Ctx) (push : α → Ctx.T c → Ctx.T c1) : Prop :=
  ∀ {H0 G0 : Hp} {σ : L2.St} {H G : Hp} {os : List Addr} {γ : Ctx.T c} {v : V} {a : α} {Q : L2.St → Hp → Prop}, Stt F.wd F.n H0 G0 σ H G os c γ → rep F.wd G v a → (∀ σ', Stt F.wd F.n H0 G0 σ' H G os c1 (push a γ) → Q σ' H) → g v σ H Q
section
variable {X : Cx} {F : Fx} {c c1 : Ctx} {α β ρ : Type}
theorem g_name [Rep α] {j : Nat} (hj : F.n.lt j) (hn : Ctx.not j c = true) : TgtOk F (gName j) (α := α) c (.fz j α :: c) fun a γ => (a, γ) := fun st r q => q _ (R.push st hj hn r)
theorem g_pair [Rep α] [Rep β] {i j : Nat} {K : PySem.W.Frag} (hi : F.n.lt i) (hj : F.n.lt j) (hn : Ctx.not i c = true) (hm : Ctx.not j (.fz i α :: c) = true) :
    TgtOk F (gTup K 2 (gCons (gName i) (gCons (gName j) gNil))) (α := α × β) c (.fz j β :: .fz i α :: c) fun a γ => (a.2, a.1, γ) := fun {H0 G0 σ H G os γ v a Q} st r q => by
  obtain ⟨p, o, e1, e2, v1, v2, e3, r1, r2⟩ := r
  subst e3
  exact ⟨p, [v1, v2], e1, .of (st.f.gh.v e2), rfl, v1, [v2], rfl, v2, [], rfl, rfl, q _ (R.push (R.push st hi hn r1) hj hm r2)⟩
/-! ### for -/
omit [TabT] in
theorem for_any {J : It} {g : TG} {tb : TS} {D : Ends} {σ : L2.St} {H : Hp} {n : Nat} (Pv : Nat → L2.St → Hp → Prop) (h0 : Pv 0 σ H)
    (hs : ∀ i σ H, i < n → Pv i σ H → J.go i H ∧ ∀ x H', J.yld i H x H' → g x σ H' fun σ2 H2 => tb { D with nx := Pv (i + 1), ct := Pv (i + 1), bk := D.nx } σ2 H2) (hd : ∀ σ H, Pv n σ H → J.stop n H ∧ D.nx σ H) :
    ∃ W : Nat → Nat → L2.St → Hp → Prop, (∃ m, W 0 m σ H) ∧ ∀ i m σ H, W i m σ H →
      (J.stop i H ∧ D.nx σ H) ∨ (J.go i H ∧ ∃ N : L2.St → Hp → Prop, (∀ σ' H', N σ' H' → ∃ m', m' < m ∧ W (i + 1) m' σ' H') ∧ ∀ x H', J.yld i H x H' → g x σ H' fun σ2 H2 => tb { D with nx := N, ct := N, bk := D.nx } σ2 H2) := by
  refine ⟨fun i m σ H => m = n - i ∧ i ≤ n ∧ Pv i σ H, ⟨n, by simp, Nat.zero_le _, h0⟩, ?_⟩
  rintro i m σ H ⟨rfl, hi, p⟩
  by_cases hlt : i < n
  · obtain ⟨q1, q2⟩ := hs i σ H hlt p
    exact .inr ⟨q1, Pv (i + 1), fun σ' H' p' => ⟨n - (i + 1), by omega, rfl, hlt, p'⟩, q2⟩
  · have e : i = n := by omega
    subst e
    exact .inl (hd σ H p)
omit [TabT] in
theorem drop_get {α : Type} {xs : List α} {i : Nat} (h : i < xs.length) : ∃ a, xs[i]? = some a ∧ xs.drop i = a :: xs.drop (i + 1) := by
  refine ⟨xs[i], List.getElem?_eq_getElem h, List.drop_eq_getElem_cons h⟩
theorem Fr.base {H0 G0 H G H' G' : Hp} (a : Fr H0 G0 H G) (b : Fr H0 G H' G') : Fr H0 G0 H' G' :=
  ⟨b.h, a.g.trans b.g, b.gh, fun x o e => by
    rcases b.new x o e with q | q
    · exact a.new x o q
    · exact .inr q, b.tb⟩
theorem Stt.rebase {wd : Wd} {n : Sl} {H0 G0 H G : Hp} {σ : L2.St} {os : List Addr} {γ : Ctx.T c} (s : Stt wd n H0 G0 σ H G os c γ) : Stt wd n H0 G σ H G os c γ :=
  ⟨s.len, ⟨s.f.h, Same.refl _, s.f.gh, fun _ _ e => .inl e, s.f.tb⟩, s.nd, s.fr, s.r, s.t⟩
theorem Stt.unbase {wd : Wd} {n : Sl} {H0 G0 H G H' G' : Hp} {σ : L2.St} {os : List Addr} {γ : Ctx.T c} (s : Stt wd n H0 G σ H' G' os c γ) (f : Fr H0 G0 H G) : Stt wd n H0 G0 σ H' G' os c γ :=
  ⟨s.len, f.base s.f, s.nd, s.fr, s.r, s.t⟩
theorem s_for [Rep α] {tg iter : Expr} {body : List Stmt} {pos : Pos} {g : TG} {mL : Ctx.T c → Rs (List α)} {mb : Ctx.T c1 → Rs (Ctx.T c)} {push : α → Ctx.T c → Ctx.T c1} (hp : PassesOwn (model X.prog X.w) X.A X.env X.xe) (hc : X.calm = true)
    {fr : Bs} (hfr : fr = .g ∨ fr = .z) (hi : PI X tg iter (tI F fr c mL)) (hg : PG X tg g) (ht : TgtOk F g c c1 push) (hb : PSs X body (tS F c1 c mb)) (hs : ∀ x, foldedSetIterable iter X.env x = pure x := by intro _; rfl) :
    PS X (.For tg iter body [] pos) (tS F c c fun γ => (mL γ).bind fun xs => Rs.fold (fun γ x => mb (push x γ)) γ xs) :=
  ps_mono (ps_for hp hc hi hg hb hs) fun D σ H ⟨H0, G0, G, os, γ, st, p⟩ => ⟨H0, G0, G, os, γ, st, by
    dsimp only at p
    cases e : mL γ with
    | no => rw [e] at p; exact p
    | ex x => rw [e] at p; exact fun d H2 G2 s z => p d σ H2 G2 st.len (st.f.trans s) z
    | ok xs =>
      rw [e] at p
      refine fun H1 G1 J f w => for_any (n := xs.length) (fun i σ' H' => ∃ G' os' γ', Stt F.wd F.n H0 G0 σ' H' G' os' c γ' ∧ Same G1 G' ∧ PostN F H0 G0 c D (Rs.fold (fun γ x => mb (push x γ)) γ' (xs.drop i)))
        ⟨G1, os, γ, st.ext f, Same.refl _, p⟩ ?_ ?_
      · rintro i σ' H' hi ⟨G', os', γ', st', sg, p'⟩
        obtain ⟨a, ha, hd⟩ := drop_get hi
        rw [hd] at p'
        have hB : SameL (fr.at G1 H1 H0) H' := by
          cases hfr with
          | inl q => subst q; exact sg.transL st'.f.gh
          | inr q => subst q; exact st'.f.h.l
        refine ⟨w.go i H' a hB ha, fun x H2 hy => ?_⟩
        obtain ⟨G2, f2, r2⟩ := w.yld i H' G' x H2 a hB sg st'.f.gh ha hy
        refine ht (st'.ext f2) r2 fun σ3 st3 => ⟨H0, G2, G2, os', _, st3.rebase, ?_⟩
        have p2 : PostN F H0 G0 c D ((mb (push a γ')).bind fun g' => Rs.fold (fun γ x => mb (push x γ)) g' (xs.drop (i + 1))) := p'
        cases e2 : mb (push a γ') with
        | no => rw [e2] at p2; exact p2
        | ex x => rw [e2] at p2; exact fun d σ4 H4 G4 l4 f4 z => p2 d σ4 H4 G4 l4 (st3.f.base f4) z
        | ok g' =>
          rw [e2] at p2
          exact fun σ4 H4 G4 os4 st4 => ⟨G4, os4, g', st4.unbase st3.f, sg.trans (f2.g.trans st4.f.g), p2⟩
      · rintro σ' H' ⟨G', os', γ', st', sg, p'⟩
        rw [List.drop_length] at p'
        have hB : SameL (fr.at G1 H1 H0) H' := by
          cases hfr with
          | inl q => subst q; exact sg.transL st'.f.gh
          | inr q => subst q; exact st'.f.h.l
        exact ⟨w.stop _ H' hB (Nat.le_refl _), p' _ _ _ _ st'⟩⟩
theorem s_forG [Rep α] {kr : Kd F.wd ρ} {tg iter : Expr} {body : List Stmt} {pos : Pos} {g : TG} {mL : Ctx.T c → Rs (List α)} {mb : Ctx.T c1 → Rs (Ctx.T c ⊕ ρ)} {push : α → Ctx.T c → Ctx.T c1} (hp : PassesOwn (model X.prog X.w) X.A X.env X.xe) (hc : X.calm = true)
    {fr : Bs} (hfr : fr = .g ∨ fr = .z) (hi : PI X tg iter (tI F fr c mL)) (hg : PG X tg g) (ht : TgtOk F g c c1 push) (hb : PSs X body (tG F kr c1 c mb)) (hs : ∀ x, foldedSetIterable iter X.env x = pure x := by intro _; rfl) :
    PS X (.For tg iter body [] pos) (tG F kr c c fun γ => (mL γ).bind fun xs => Rs.foldR (fun γ x => mb (push x γ)) γ xs) :=
  ps_mono (ps_for hp hc hi hg hb hs) fun D σ H ⟨H0, G0, G, os, γ, st, p⟩ => ⟨H0, G0, G, os, γ, st, by
    dsimp only at p
    cases e : mL γ with
    | no => rw [e] at p; exact p
    | ex x => rw [e] at p; exact fun d H2 G2 s z => p d σ H2 G2 st.len (st.f.trans s) z
    | ok xs =>
      rw [e] at p
      refine fun H1 G1 J f w => for_any (n := xs.length) (fun i σ' H' => ∃ G' os' γ', Stt F.wd F.n H0 G0 σ' H' G' os' c γ' ∧ Same G1 G' ∧ PostG F kr H0 G0 c D (Rs.foldR (fun γ x => mb (push x γ)) γ' (xs.drop i)))
        ⟨G1, os, γ, st.ext f, Same.refl _, p⟩ ?_ ?_
      · rintro i σ' H' hi ⟨G', os', γ', st', sg, p'⟩
        obtain ⟨a, ha, hd⟩ := drop_get hi
        rw [hd] at p'
        have hB : SameL (fr.at G1 H1 H0) H' := by
          cases hfr with
          | inl q => subst q; exact sg.transL st'.f.gh
          | inr q => subst q; exact st'.f.h.l
        refine ⟨w.go i H' a hB ha, fun x H2 hy => ?_⟩
        obtain ⟨G2, f2, r2⟩ := w.yld i H' G' x H2 a hB sg st'.f.gh ha hy
        refine ht (st'.ext f2) r2 fun σ3 st3 => ⟨H0, G2, G2, os', _, st3.rebase, ?_⟩
        simp only [Rs.foldR] at p'
        cases e2 : mb (push a γ') with
        | no => rw [e2] at p'; exact p'
        | ex x => rw [e2] at p'; exact fun d σ4 H4 G4 l4 f4 z => p' d σ4 H4 G4 l4 (st3.f.base f4) z
        | ok z =>
          rw [e2] at p'
          cases z with
          | inl g' => exact fun σ4 H4 G4 os4 st4 => ⟨G4, os4, g', st4.unbase st3.f, sg.trans (f2.g.trans st4.f.g), p'⟩
          | inr r => exact fun H4 G4 v f4 r4 => p' H4 G4 v (st3.f.base f4) r4
      · rintro σ' H' ⟨G', os', γ', st', sg, p'⟩
        rw [List.drop_length] at p'
        have hB : SameL (fr.at G1 H1 H0) H' := by
          cases hfr with
          | inl q => subst q; exact sg.transL st'.f.gh
          | inr q => subst q; exact st'.f.h.l
        exact ⟨w.stop _ H' hB (Nat.le_refl _), p' _ _ _ _ st'⟩⟩
/-! ### while -/
theorem s_while {t : Expr} {body : List Stmt} {pos : Pos} {mt : Ctx.T c → Rs Bool} {mb : Ctx.T c → Rs (Ctx.T c)} (hp : PassesOwn (model X.prog X.w) X.A X.env X.xe) (ht : PT X t (tQ F c mt)) (hb : PSs X body (tS F c c mb)) :
    PS X (.While t body [] pos) (tS F c c fun γ => Rs.whl mt mb γ) :=
  ps_mono (ps_while hp ht hb) fun D σ H ⟨H0, G0, G, os, γ, st, p⟩ => by
    dsimp only at p
    rcases Rs.whl_is (t := mt) (b := mb) (g := γ) with e | ⟨n, e⟩
    · rw [e] at p
      exact p.elim
    · rw [e] at p
      refine ⟨fun n σ' H' => ∃ G' os' γ', Stt F.wd F.n H0 G0 σ' H' G' os' c γ' ∧ PostN F H0 G0 c D (Rs.iter mt mb n γ'), ⟨n, G, os, γ, st, p⟩, ?_⟩
      rintro m σ' H' ⟨G', os', γ', st', p'⟩
      cases m with
      | zero => exact p'.elim
      | succ m =>
        refine ⟨H0, G0, G', os', γ', st', ?_⟩
        have p2 : PostN F H0 G0 c D ((mt γ').bind fun c => if c = true then (mb γ').bind (Rs.iter mt mb m) else .ok γ') := p'
        refine p2.step st' kF fun v H1 G1 b f1 r1 p3 => ⟨b, r1, ?_⟩
        cases b with
        | false => exact p3 _ _ _ _ (st'.ext f1)
        | true =>
          have p4 : PostN F H0 G0 c D ((mb γ').bind (Rs.iter mt mb m)) := p3
          refine ⟨fun σ' H' => ∃ G' os' γ', Stt F.wd F.n H0 G0 σ' H' G' os' c γ' ∧ PostN F H0 G0 c D (Rs.iter mt mb m γ'), fun σ2 H2 q => ⟨m, Nat.lt_succ_self m, q⟩, H0, G0, G1, os', γ', st'.ext f1, ?_⟩
          exact p4.seqN fun σ H G os γ s2 p5 => ⟨G, os, γ, s2, p5⟩
/-! ### comprehensions -/
omit [TabT] in
theorem comp_any {J : It} {g : TG} {tt : TT} {te : TE} {vs : List Nat} {σ : L2.St} {H1 : Hp} {D : Addr} {Qd : Hp → Prop} {n : Nat} (Pv : Nat → Hp → Prop) (h0 : Pv 0 (upd H1 D (.lst [])))
    (hs : ∀ i H, i < n → Pv i H → J.go i H ∧ ∀ x H', J.yld i H x H' → g x (wipe σ vs) H' fun σ2 H2 => wipe σ2 vs = wipe σ vs ∧ tt σ2 H2 fun b H3 =>
      if b = true then te σ2 H3 fun y H4 => ∃ acc, H4 D = some (.lst acc) ∧ acc.length < sizeLine ∧ Pv (i + 1) (upd H4 D (.lst (acc ++ [y]))) else Pv (i + 1) H3) (hd : ∀ H, Pv n H → J.stop n H ∧ Qd H) :
    ∃ W : Nat → Nat → Hp → Prop, (∃ m, W 0 m (upd H1 D (.lst []))) ∧ ∀ i m H, W i m H →
      (J.stop i H ∧ Qd H) ∨ (J.go i H ∧ ∃ Nx : Hp → Prop, (∀ H', Nx H' → ∃ m', m' < m ∧ W (i + 1) m' H') ∧ ∀ x H', J.yld i H x H' → g x (wipe σ vs) H' fun σ2 H2 => wipe σ2 vs = wipe σ vs ∧ tt σ2 H2 fun b H3 =>
        if b = true then te σ2 H3 fun y H4 => ∃ acc, H4 D = some (.lst acc) ∧ acc.length < sizeLine ∧ Nx (upd H4 D (.lst (acc ++ [y]))) else Nx H3) := by
  refine ⟨fun i m H => m = n - i ∧ i ≤ n ∧ Pv i H, ⟨n, by simp, Nat.zero_le _, h0⟩, ?_⟩
  rintro i m H ⟨rfl, hi, p⟩
  by_cases hlt : i < n
  · obtain ⟨q1, q2⟩ := hs i H hlt p
    exact .inr ⟨q1, Pv (i + 1), fun H' p' => ⟨n - (i + 1), by omega, rfl, hlt, p'⟩, q2⟩
  · have e : i = n := by omega
    subst e
    exact .inl (hd H p)
/-- the target within a comprehension: as TgtOk, and the block's names are the slots vs -/
def TgtC (F : Fx) (g : TG) (vs : List Nat) {α : Type} [Rep α] (c c1 : Ctx) (push : α → Ctx.T c → Ctx.T c1) : Prop :=
  ∀ {H0 G0 : Hp} {σ : L2.St} {H G : Hp} {os : List Addr} {γ : Ctx.T c} {v : V} {a : α} {Q : L2.St → Hp → Prop}, Stt F.wd F.n H0 G0 σ H G os c γ → rep F.wd G v a → (∀ σ', wipe σ' vs = wipe σ vs → Stt F.wd F.n H0 G0 σ' H G os c1 (push a γ) → Q σ' H) → g v σ H Q
theorem gc_name [Rep α] {j : Nat} (hj : F.n.lt j) (hn : Ctx.not j c = true) : TgtC F (gName j) [j] (α := α) c (.fz j α :: c) fun a γ => (a, γ) := fun {H0 G0 σ H G os γ v a Q} st r q => q _ (by unfold wipe wipe; rw [List.set_set]) (R.push st hj hn r)
omit [TabT] in
theorem wipe_get (σ : L2.St) (i : Nat) : ∀ vs : List Nat, (wipe σ vs)[i]? = if i ∈ vs then (if i < σ.length then some none else none) else σ[i]?
  | [] => by rw [if_neg (by simp)]; rfl
  | v :: vs => by
    have ih := wipe_get σ i vs
    unfold wipe
    by_cases h : v = i
    · subst h
      rw [if_pos List.mem_cons_self]
      by_cases hl : v < σ.length
      · rw [if_pos hl, List.getElem?_set_self (by rw [wipe_length]; exact hl)]
      · rw [if_neg hl, List.getElem?_eq_none (by rw [List.length_set, wipe_length]; omega)]
    · rw [List.getElem?_set_ne h, ih]
      by_cases hm : i ∈ vs
      · rw [if_pos hm, if_pos (List.mem_cons_of_mem _ hm)]
      · rw [if_neg hm, if_neg fun z => (List.mem_cons.mp z).elim (fun q => h q.symm) hm]
omit [TabT] in
theorem wipe_idem (σ : L2.St) (vs : List Nat) : wipe (wipe σ vs) vs = wipe σ vs := by
  apply List.ext_getElem?
  intro i
  rw [wipe_get (wipe σ vs) i vs, wipe_get σ i vs, wipe_length]
  by_cases h : i ∈ vs
  · rw [if_pos h, if_pos h]
  · rw [if_neg h, if_neg h]
omit [TabT] in
def Ctx.nots : List Nat → Ctx → Bool
  | [], _ => true
  | j :: js, c => Ctx.not j c && Ctx.nots js c
omit [TabT] in
theorem R.wipe {wd : Wd} {H0 H G : Hp} {σ : L2.St} : ∀ {vs : List Nat} {c : Ctx} {γ : Ctx.T c} {os : List Addr}, Ctx.nots vs c = true → R wd H0 σ H G c γ os → R wd H0 (L2.wipe σ vs) H G c γ os
  | [], c, γ, os, _, h => h
  | v :: vs, c, γ, os, n, h => by
    have n' : (Ctx.not v c && Ctx.nots vs c) = true := n
    rw [Bool.and_eq_true] at n'
    exact (R.wipe n'.2 h).set n'.1
theorem lc_of [Rep α] [Rep β] {fr : Bs} {g : TG} {vs : List Nat} {c2 : Ctx} {mL : Ctx.T c → Rs (List α)} {mt : Ctx.T c2 → Rs Bool} {me : Ctx.T c2 → Rs β} {push : α → Ctx.T c1 → Ctx.T c2} (s : Sub c c1) (hn : Ctx.nots vs c1 = true) (ht : TgtC F.blk g vs c1 c2 push)
    {σ : L2.St} {H : Hp} {Q : VK} (h : tX F kO c (fun γ => (mL γ).bind fun xs => if xs.length ≤ 16777216 then Rs.comp (fun x => mt (push x (s.proj γ))) (fun x => me (push x (s.proj γ))) xs else .no) σ H Q) :
    tLc (tI F fr c mL) g (tQ F.blk c2 mt) (tX F.blk kF c2 me) vs σ H Q := by
  obtain ⟨H0, G0, G, os, γ, st, p⟩ := h
  refine ⟨H0, G0, G, os, γ, st, ?_⟩
  dsimp only at p
  cases e : mL γ with
  | no => rw [e] at p; exact p
  | ex x => rw [e] at p; exact p
  | ok xs =>
    rw [e] at p
    have p1 : Post F.W (kO (wd := F.wd)) σ H G Q (if xs.length ≤ 16777216 then Rs.comp (fun x => mt (push x (s.proj γ))) (fun x => me (push x (s.proj γ))) xs else .no) := p
    by_cases hz : xs.length ≤ 16777216
    · rw [if_pos hz] at p1
      intro H1 G1 J f w Dl nD
      have st1 := st.ext f
      obtain ⟨os', hs, st2⟩ := st1.sub s
      have gD : G1 Dl = none := f.gh |> fun _ => st1.f.gh.free nD
      have hB : SameL (fr.at G1 H1 H0) H1 := by
        cases fr with
        | g => exact st1.f.gh
        | h => exact SameL.refl _
        | z => exact st1.f.h.l
      -- behind i turns: the list so far and what is still wanted
      refine comp_any (n := xs.length) (fun i H' => ∃ (G' : Hp) (ws : List V) (ys : List β), Same H1 H' ∧ Fr H1 G1 H' G' ∧ G' Dl = none ∧ H' Dl = some (.lst ws) ∧ ws.length ≤ i ∧ reps F.wd G' ws ys ∧
          Post F.W (kO (wd := F.wd)) σ H G Q ((Rs.comp (fun x => mt (push x (s.proj γ))) (fun x => me (push x (s.proj γ))) (xs.drop i)).bind fun zs => .ok (ys ++ zs)))
        ⟨G1, [], [], (Fr.alloc st1.f.gh nD).h, Fr.alloc st1.f.gh nD, gD, upd_same, Nat.le_refl _, trivial, ?_⟩ ?_ ?_
      · cases e3 : Rs.comp (fun x => mt (push x (s.proj γ))) (fun x => me (push x (s.proj γ))) xs with
        | no => rw [List.drop_zero, e3]; rw [e3] at p1; exact p1
        | ex x => rw [List.drop_zero, e3]; rw [e3] at p1; exact p1
        | ok zs => rw [List.drop_zero, e3]; rw [e3] at p1; exact p1
      · rintro i H' hi ⟨G', ws, ys, s1, f1, g1, h1, l1, r1, p2⟩
        obtain ⟨a, ha, hd⟩ := drop_get hi
        rw [hd] at p2
        refine ⟨w.go i H' a (hB.trans s1) ha, fun x H2 hy => ?_⟩
        obtain ⟨G2, f2, r2⟩ := w.yld i H' G' x H2 a (hB.trans s1) f1.g f1.gh ha hy
        have f12 := f1.trans f2
        have stw : Stt F.blk.wd F.blk.n H0 G0 (L2.wipe σ vs) H2 G2 os' c1 (s.proj γ) := by
          have q := st2.ext f12
          exact ⟨⟨by rw [wipe_length]; exact q.len.1, trivial⟩, q.f, q.nd, q.fr, R.wipe hn q.r, q.t⟩
        refine ht stw r2 fun σ3 ew st3 => ⟨ew.trans (wipe_idem σ vs), H0, G0, G2, os', _, st3, ?_⟩
        have p3 : Post F.W (kO (wd := F.wd)) σ H G Q (((mt (push a (s.proj γ))).nox.bind fun b => if b = true then (me (push a (s.proj γ))).nox.bind fun y => (Rs.comp (fun x => mt (push x (s.proj γ))) (fun x => me (push x (s.proj γ))) (xs.drop (i + 1))).bind fun ys => .ok (y :: ys)
            else Rs.comp (fun x => mt (push x (s.proj γ))) (fun x => me (push x (s.proj γ))) (xs.drop (i + 1))).bind fun zs => .ok (ys ++ zs)) := p2
        cases e4 : mt (push a (s.proj γ)) with
        | no => rw [e4] at p3; exact p3
        | ex x => rw [e4] at p3; exact p3.elim
        | ok b =>
          rw [e4] at p3
          intro H3 G3 v3 f3 r3
          refine ⟨b, r3, ?_⟩
          have f13 := f12.trans f3
          have D3 : H3 Dl = some (.lst ws) := (f2.trans f3).h.v h1
          have G3D : G3 Dl = none := (f2.trans f3).out h1 g1
          cases b with
          | false => exact ⟨G3, ws, ys, f13.h, f13, G3D, D3, Nat.le_succ_of_le l1, r1.mono (f2.trans f3).g, p3⟩
          | true =>
            refine ⟨H0, G0, G3, os', _, st3.ext f3, ?_⟩
            have p4 : Post F.W (kO (wd := F.wd)) σ H G Q (((me (push a (s.proj γ))).nox.bind fun y => (Rs.comp (fun x => mt (push x (s.proj γ))) (fun x => me (push x (s.proj γ))) (xs.drop (i + 1))).bind fun ys => .ok (y :: ys)).bind fun zs => .ok (ys ++ zs)) := p3
            cases e5 : me (push a (s.proj γ)) with
            | no => rw [e5] at p4; exact p4
            | ex x => rw [e5] at p4; exact p4.elim
            | ok y =>
              rw [e5] at p4
              intro H4 G4 v4 f4 r4
              have f14 := f13.trans f4
              have D4 : H4 Dl = some (.lst ws) := f4.h.v D3
              have G4D : G4 Dl = none := f4.out D3 G3D
              refine ⟨ws, D4, by rw [sizeLine_eq]; omega, G4, ws ++ [v4], ys ++ [y], Same.upd' f14.h nD, ⟨Same.upd' f14.h nD, f14.g, fun b o q => ?_, f14.new, fun t => tabs_upd (f14.tb t) D4 Pl.lst⟩, G4D, upd_same, by rw [List.length_append]; exact Nat.succ_le_succ l1, (r1.mono ((f2.trans f3).trans f4).g).snoc r4, ?_⟩
              · rw [upd_ne (ne_of_none q G4D)]
                exact f14.gh b o q
              · have p5 : Post F.W (kO (wd := F.wd)) σ H G Q (((Rs.comp (fun x => mt (push x (s.proj γ))) (fun x => me (push x (s.proj γ))) (xs.drop (i + 1))).bind fun ys => .ok (y :: ys)).bind fun zs => .ok (ys ++ zs)) := p4
                cases e6 : Rs.comp (fun x => mt (push x (s.proj γ))) (fun x => me (push x (s.proj γ))) (xs.drop (i + 1)) with
                | no => rw [e6] at p5; exact p5
                | ex x => rw [e6] at p5; exact p5
                | ok zs =>
                  rw [e6] at p5
                  show Post F.W (kO (wd := F.wd)) σ H G Q (.ok ((ys ++ [y]) ++ zs))
                  rw [List.append_assoc]
                  exact p5
      · rintro H' ⟨G', ws, ys, s1, f1, g1, h1, l1, r1, p2⟩
        refine ⟨w.stop _ H' (hB.trans s1) (Nat.le_refl _), ?_⟩
        rw [List.drop_length] at p2
        have p3 : Post F.W (kO (wd := F.wd)) σ H G Q (.ok (ys ++ [])) := p2
        rw [List.append_nil] at p3
        exact p3 H' G' _ (f.trans f1) ⟨Dl, _, rfl, f.h.free nD, g1, h1, ws, rfl, by rw [sizeLine_eq]; omega, r1⟩
    · rw [if_neg hz] at p1
      exact p1.elim
/-- no test -/
theorem pts_yes {X : Cx} {F : Fx} {c : Ctx} : PTs X [] (tQ F.blk c fun _ => .ok true) :=
  ⟨fun pins s σ H Q I h => by
    obtain ⟨H0, G0, G, os, γ, st, p⟩ := h
    obtain ⟨b, e, q⟩ := p H G (.bl true) (Fr.refl st.f.gh) rfl
    cases e
    exact pts_nil.run pins s σ H Q I q⟩
end
end Wm
set_option Elab.async false
set_option linter.all false
set_option maxRecDepth 100000
set_option maxHeartbeats 4000000
namespace Wm
open PySem PySem.Spec PyProof.Rows L2
open Rep (rep)
open Own (own)
variable [TabT]
/-! ### arguments -/
omit [TabT] in
def RA (wd : Wd) (H G : Hp) : Nat → (Γ : Ctx) → Ctx.T Γ → List V → Prop
  | _, [], _, vs => vs = []
  | j, @Ent.fz i α r :: Γ, g, vs => ∃ v vs', vs = v :: vs' ∧ i = j ∧ r.rep wd G v g.1 ∧ RA wd H G (j + 1) Γ g.2 vs'
  | j, @Ent.bo i β r :: Γ, g, vs => ∃ p o vs', vs = .ref p :: vs' ∧ i = j ∧ H p = some o ∧ r.own wd G o g.1 ∧ RA wd H G (j + 1) Γ g.2 vs'
  | _, @Ent.ow _ _ _ :: _, _, _ => False
  | _, @Ent.oo _ _ _ :: _, _, _ => False
  | _, @Ent.sf _ _ _ _ :: _, _, _ => False
  | _, @Ent.ot _ _ _ :: _, _, _ => False
omit [TabT] in
theorem RA.len {wd : Wd} {H G : Hp} : ∀ {j : Nat} {Γ : Ctx} {g : Ctx.T Γ} {vs : List V}, RA wd H G j Γ g vs → vs.length = Γ.length
  | _, [], _, vs, h => by rw [show vs = [] from h]; rfl
  | j, @Ent.fz i α r :: Γ, g, vs, h => by
    obtain ⟨v, vs', rfl, _, _, h⟩ := h
    exact congrArg (· + 1) (RA.len h)
  | j, @Ent.bo i α r :: Γ, g, vs, h => by
    obtain ⟨p, o, vs', rfl, _, _, _, h⟩ := h
    exact congrArg (· + 1) (RA.len h)
  | j, @Ent.ow i α r :: Γ, g, vs, h => h.elim
  | j, @Ent.oo i α r :: Γ, g, vs, h => h.elim
  | j, @Ent.sf i α r x :: Γ, g, vs, h => h.elim
  | j, @Ent.ot i α t :: Γ, g, vs, h => h.elim
omit [TabT] in
theorem RA.ext {wd : Wd} {H G H' G' : Hp} (h : Same H H') (g : Same G G') : ∀ {j : Nat} {Γ : Ctx} {a : Ctx.T Γ} {vs : List V}, RA wd H G j Γ a vs → RA wd H' G' j Γ a vs
  | _, [], _, vs, q => q
  | j, @Ent.fz i α r :: Γ, a, vs, q => by
    obtain ⟨v, vs', e, e2, e3, q⟩ := q
    exact ⟨v, vs', e, e2, r.mono g e3, RA.ext h g q⟩
  | j, @Ent.bo i α r :: Γ, a, vs, q => by
    obtain ⟨p, o, vs', e, e2, e3, e4, q⟩ := q
    exact ⟨p, o, vs', e, e2, h.get e3 (r.pl e4), r.mono g e4, RA.ext h g q⟩
  | j, @Ent.ow i α r :: Γ, a, vs, q => q.elim
  | j, @Ent.oo i α r :: Γ, a, vs, q => q.elim
  | j, @Ent.sf i α r x :: Γ, a, vs, q => q.elim
  | j, @Ent.ot i α t :: Γ, a, vs, q => q.elim
omit [TabT] in
theorem RA.r {wd : Wd} {H G : Hp} {σ : L2.St} : ∀ {j : Nat} {Γ : Ctx} {a : Ctx.T Γ} {vs : List V}, (∀ k v, vs[k]? = some v → σ[j + k]? = some (some v)) → RA wd H G j Γ a vs → R wd H σ H G Γ a []
  | _, [], _, vs, _, q => rfl
  | j, @Ent.fz i α r :: Γ, a, vs, k, q => by
    obtain ⟨v, vs', e, e2, e3, q⟩ := q
    subst e; subst e2
    exact ⟨⟨v, by have := k 0 v rfl; rwa [Nat.add_zero] at this, e3⟩, RA.r (fun n w hw => by have := k (n + 1) w hw; rwa [Nat.add_comm n 1, ← Nat.add_assoc] at this) q⟩
  | j, @Ent.bo i α r :: Γ, a, vs, k, q => by
    obtain ⟨p, o, vs', e, e2, e3, e4, q⟩ := q
    subst e; subst e2
    exact ⟨⟨p, o, by have := k 0 _ rfl; rwa [Nat.add_zero] at this, e3, e4⟩, RA.r (fun n w hw => by have := k (n + 1) w hw; rwa [Nat.add_comm n 1, ← Nat.add_assoc] at this) q⟩
  | j, @Ent.ow i α r :: Γ, a, vs, k, q => q.elim
  | j, @Ent.oo i α r :: Γ, a, vs, k, q => q.elim
  | j, @Ent.sf i α r x :: Γ, a, vs, k, q => q.elim
  | j, @Ent.ot i α t :: Γ, a, vs, k, q => q.elim
/-- lists of values: of arguments, of items -/
def tM (F : Fx) {δ : Type} (rel : Hp → Hp → List V → δ → Prop) (c : Ctx) (m : Ctx.T c → Rs δ) : TA := fun σ H Q => ∃ H0 G0 G os γ, Stt F.wd F.n H0 G0 σ H G os c γ ∧
  match m γ with
  | .ok a => ∀ H' G' vs, Fr H G H' G' → rel H' G' vs a → Q vs H'
  | .ex x => ∀ d H' G', Fr H G H' G' → RepX G' d x → F.W (.ref (F.wd.cm x.cls)) d σ H'
  | .no => False
abbrev tA (F : Fx) (c : Ctx) (j : Nat) (Γ : Ctx) (m : Ctx.T c → Rs (Ctx.T Γ)) : TA := tM F (fun H G vs g => RA F.wd H G j Γ g vs) c m
abbrev tL (F : Fx) {α : Type} [Rep α] (n : Nat) (c : Ctx) (m : Ctx.T c → Rs (List α)) : TA := tM F (fun _ G vs as => vs.length = n ∧ reps F.wd G vs as) c m
section
variable {X : Cx} {F : Fx} {c : Ctx} {α β δ ε ρ : Type} {e : Expr} {es : List Expr}
theorem tM_cons {k : Kd F.wd α} {rel : Hp → Hp → List V → δ → Prop} {rel' : Hp → Hp → List V → ε → Prop} {m : Ctx.T c → Rs α} {ms : Ctx.T c → Rs δ} {f : α → δ → ε} (ok : ∀ {B H' G' : Hp} {v : V} {a : α} {vs : List V} {g : δ}, k.rel B H' G' v a → rel H' G' vs g → rel' H' G' (v :: vs) (f a g))
    {σ : L2.St} {H : Hp} {Q : List V → Hp → Prop} (h : tM F rel' c (fun γ => (m γ).bind fun a => (ms γ).bind fun g => .ok (f a g)) σ H Q) : tX F k c m σ H fun v H1 => tM F rel c ms σ H1 fun vs H2 => Q (v :: vs) H2 := by
  obtain ⟨H0, G0, G, os, γ, st, p⟩ := h
  refine ⟨H0, G0, G, os, γ, st, ?_⟩
  dsimp only at p
  cases e : m γ with
  | no => rw [e] at p; exact p
  | ex x => rw [e] at p; exact p
  | ok a =>
    rw [e] at p
    refine fun H1 G1 v f1 r => ⟨H0, G0, G1, os, γ, st.ext f1, ?_⟩
    dsimp only [Rs.bind] at p
    cases e2 : ms γ with
    | no => rw [e2] at p; exact p
    | ex x => rw [e2] at p; exact fun d H2 G2 s z => p d H2 G2 (f1.trans s) z
    | ok g =>
      rw [e2] at p
      exact fun H2 G2 vs f2 r2 => p H2 G2 (v :: vs) (f1.trans f2) (ok (k.stay r f2) r2)
theorem tM_nil {rel : Hp → Hp → List V → δ → Prop} {g : δ} (ok : ∀ H G, rel H G [] g) : PA X [] (tM F rel c fun _ => .ok g) :=
  pa_mono pa_nil fun σ H Q ⟨H0, G0, G, os, γ, st, p⟩ => p H G [] (Fr.refl st.f.gh) (ok H G)
theorem a_nil {j : Nat} : PA X [] (tA F c j [] fun _ => .ok ()) := tM_nil fun _ _ => rfl
theorem a_cons [Rep α] {j : Nat} {Γ : Ctx} {m : Ctx.T c → Rs α} {ms : Ctx.T c → Rs (Ctx.T Γ)} (h : PE X e (tX F kF c m)) (hs : PA X es (tA F c (j + 1) Γ ms)) (he : starEach (e :: es) X.env = (false, eval e X.env) :: starEach es X.env := by rfl) :
    PA X (e :: es) (tA F c j (.fz j α :: Γ) fun γ => (m γ).bind fun a => (ms γ).bind fun g => .ok (a, g)) :=
  pa_mono (pa_cons h hs he) fun σ H Q q => tM_cons (f := fun a g => (a, g)) (fun r1 r2 => ⟨_, _, rfl, rfl, r1, r2⟩) q
theorem a_consB [Own β] {j : Nat} {Γ : Ctx} {m : Ctx.T c → Rs β} {ms : Ctx.T c → Rs (Ctx.T Γ)} (h : PE X e (tX F kB c m)) (hs : PA X es (tA F c (j + 1) Γ ms)) (he : starEach (e :: es) X.env = (false, eval e X.env) :: starEach es X.env := by rfl) :
    PA X (e :: es) (tA F c j (.bo j β :: Γ) fun γ => (m γ).bind fun a => (ms γ).bind fun g => .ok (a, g)) :=
  pa_mono (pa_cons h hs he) fun σ H Q q => tM_cons (f := fun a g => (a, g)) (fun ⟨p, o, e1, e2, e3⟩ r2 => ⟨p, o, _, by rw [e1], rfl, e2, e3, r2⟩) q
theorem l_nil [Rep α] : PA X [] (tL F (α := α) 0 c fun _ => .ok []) := tM_nil fun _ _ => ⟨rfl, trivial⟩
theorem l_cons [Rep α] {n : Nat} {m : Ctx.T c → Rs α} {ms : Ctx.T c → Rs (List α)} (h : PE X e (tX F kF c m)) (hs : PA X es (tL F n c ms)) (he : starEach (e :: es) X.env = (false, eval e X.env) :: starEach es X.env := by rfl) :
    PA X (e :: es) (tL F (n + 1) c fun γ => (m γ).bind fun a => (ms γ).bind fun g => .ok (a :: g)) :=
  pa_mono (pa_cons h hs he) fun σ H Q q => tM_cons (f := fun a g => a :: g) (fun r1 r2 => ⟨congrArg (· + 1) r2.1, r1, r2.2⟩) q
theorem tM_post {k : Kd F.wd ρ} {rel : Hp → Hp → List V → δ → Prop} {m : Ctx.T c → Rs δ} {f : δ → Rs ρ} {σ : L2.St} {H : Hp} {Q : VK} {Q' : List V → Hp → Prop} (h : tX F k c (fun γ => (m γ).bind f) σ H Q)
    (i : ∀ vs H1 G1 g, SameL G1 H1 → rel H1 G1 vs g → Post F.W k σ H1 G1 Q (f g) → Q' vs H1) : tM F rel c m σ H Q' := by
  obtain ⟨H0, G0, G, os, γ, st, p⟩ := h
  refine ⟨H0, G0, G, os, γ, st, ?_⟩
  dsimp only at p
  cases e : m γ with
  | no => rw [e] at p; exact p
  | ex x => rw [e] at p; exact p
  | ok a =>
    rw [e] at p
    exact fun H1 G1 vs f1 r => i vs H1 G1 a f1.gh r (Post.ext (show Post F.W k σ H G Q (f a) from p) f1)
/-- .. the tables too -/
theorem tM_postT {k : Kd F.wd ρ} {rel : Hp → Hp → List V → δ → Prop} {m : Ctx.T c → Rs δ} {f : δ → Rs ρ} {σ : L2.St} {H : Hp} {Q : VK} {Q' : List V → Hp → Prop} (h : tX F k c (fun γ => (m γ).bind f) σ H Q)
    (i : ∀ vs H1 G1 g, SameL G1 H1 → LamX.Tabs TabT.T H1 → rel H1 G1 vs g → Post F.W k σ H1 G1 Q (f g) → Q' vs H1) : tM F rel c m σ H Q' := by
  obtain ⟨H0, G0, G, os, γ, st, p⟩ := h
  refine ⟨H0, G0, G, os, γ, st, ?_⟩
  dsimp only at p
  cases e : m γ with
  | no => rw [e] at p; exact p
  | ex x => rw [e] at p; exact p
  | ok a =>
    rw [e] at p
    exact fun H1 G1 vs f1 r => i vs H1 G1 a f1.gh (f1.tb (st.f.tb st.t)) r (Post.ext (show Post F.W k σ H G Q (f a) from p) f1)
/-! ### displays -/
omit [TabT] in
theorem small_n {n : Nat} (h : n ≤ 1000) : n ≤ sizeLine := Nat.le_trans h (by decide)
theorem e_lst [Rep α] {n : Nat} {m : Ctx.T c → Rs (List α)} {pos : Pos} (h : PA X es (tL F n c m)) (hn : n ≤ 1000 := by decide) : PE X (.List es pos) (tX F kO c fun γ => (m γ).bind .ok) :=
  pe_mono (pe_lst h) fun σ H Q q => tM_post q fun vs H1 G1 g gh ⟨l, r⟩ p => ⟨by rw [l]; exact small_n hn, fun d nd => p _ _ _ (Fr.alloc gh nd) ⟨d, _, rfl, nd, gh.free nd, upd_same, vs, rfl, by rw [l]; exact small_n hn, r⟩⟩
theorem e_tup [Rep α] {n : Nat} {m : Ctx.T c → Rs (List α)} {pos : Pos} {x1} (h : PA X es (tL F n c m)) (hn : n ≤ 1000 := by decide) : PE X (.Tuple es x1 pos) (tX F kF c fun γ => (m γ).bind fun as => .ok (Tup.mk as)) :=
  pe_mono (pe_tup h) fun σ H Q q => tM_post q fun vs H1 G1 g gh ⟨l, r⟩ p => ⟨by rw [l]; exact small_n hn, fun d nd => p _ _ _ ((Fr.alloc gh nd).freeze nd (gh.free nd) upd_same) ⟨d, _, rfl, upd_same, vs, rfl, by rw [l]; exact small_n hn, r.mono (Same.upd' (Same.refl _) (gh.free nd))⟩⟩
theorem e_pair [Rep α] [Rep β] {a b : Expr} {ma : Ctx.T c → Rs α} {mb : Ctx.T c → Rs β} {pos : Pos} {x1} (ha : PE X a (tX F kF c ma)) (hb : PE X b (tX F kF c mb)) (he : starEach (a :: b :: []) X.env = (false, eval a X.env) :: starEach (b :: []) X.env := by rfl) (he2 : starEach (b :: []) X.env = (false, eval b X.env) :: starEach [] X.env := by rfl) :
    PE X (.Tuple [a, b] x1 pos) (tX F kF c fun γ => (ma γ).bind fun x => (mb γ).bind fun y => .ok (x, y)) :=
  pe_mono (pe_tup (pa_cons ha (pa_cons hb pa_nil he2) he)) fun σ H Q ⟨H0, G0, G, os, γ, st, p⟩ => ⟨H0, G0, G, os, γ, st, p.step kF fun v H1 G1 x f1 r1 p1 => ⟨H0, G0, G1, os, γ, st.ext f1, p1.step kF fun w H2 G2 y f2 r2 p2 => ⟨by show 2 ≤ sizeLine; decide, fun d nd => by
    have s := Same.upd' (o := HO.tup [v, w]) (Same.refl G2) (f2.gh.free nd)
    exact p2 _ _ _ ((Fr.alloc f2.gh nd).freeze nd (f2.gh.free nd) upd_same) ⟨d, _, rfl, upd_same, v, w, rfl, Rep.mono (f2.g.trans s) r1, Rep.mono s r2⟩⟩⟩⟩
theorem e_fst [Rep α] [Rep β] {a : Expr} {m : Ctx.T c → Rs (α × β)} {j : Nat} {p2 pos : Pos} (hK : F.wd.K = X.K) (h : PE X a (tX F kF c m)) (hp : PlainIx (.Constant (.int 0) j p2) := by exact fun _ _ => rfl) : PE X (.Subscript a (.Constant (.int 0) j p2) pos) (tX F kF c fun γ => (m γ).bind fun x => .ok x.1) :=
  pe_mono (pe_ix ix_tup h pe_int hp) fun σ H Q ⟨H0, G0, G, os, γ, st, p⟩ => ⟨H0, G0, G, os, γ, st, p.step kF fun v H1 G1 x f1 ⟨q, o, e1, e2, v1, v2, e3, r1, r2⟩ p1 => by
    subst e3
    exact ⟨q, _, 0, v1, e1, rfl, .of (f1.gh.v e2), rfl, p1 _ _ _ (Fr.refl f1.gh) r1⟩⟩
theorem e_snd [Rep α] [Rep β] {a : Expr} {m : Ctx.T c → Rs (α × β)} {j : Nat} {p2 pos : Pos} (hK : F.wd.K = X.K) (h : PE X a (tX F kF c m)) (hp : PlainIx (.Constant (.int 1) j p2) := by exact fun _ _ => rfl) : PE X (.Subscript a (.Constant (.int 1) j p2) pos) (tX F kF c fun γ => (m γ).bind fun x => .ok x.2) :=
  pe_mono (pe_ix ix_tup h pe_int hp) fun σ H Q ⟨H0, G0, G, os, γ, st, p⟩ => ⟨H0, G0, G, os, γ, st, p.step kF fun v H1 G1 x f1 ⟨q, o, e1, e2, v1, v2, e3, r1, r2⟩ p1 => by
    subst e3
    exact ⟨q, _, 1, v2, e1, rfl, .of (f1.gh.v e2), rfl, p1 _ _ _ (Fr.refl f1.gh) r2⟩⟩
/-! ### comprehensions as expressions, as stores -/
theorem e_lc [Rep α] [Rep β] {fr : Bs} {elt tg iter : Expr} {ifs : List Expr} {scope : Scope} {own : List (Str × Nat)} {pos : Pos} {g : TG} {c1 c2 : Ctx} {mL : Ctx.T c → Rs (List α)} {mt : Ctx.T c2 → Rs Bool} {me : Ctx.T c2 → Rs β} {push : α → Ctx.T c1 → Ctx.T c2} (hc : X.calm = true) (hN : X.N.Nodup) (hi : PI X tg iter (tI F fr c mL)) (ok : BlkOk X.N X.env.scope scope own)
    (s : Sub c c1) (hn : Ctx.nots (own.map (·.2)) c1 = true) (ht : TgtC F.blk g (own.map (·.2)) c1 c2 push)
    (hg : ∀ (s : Shared) (H : Hp) (C : Addr) (cl : List (Str × Addr)) (fp : List Addr), PG (X.blk s H scope (compEnvC scope cl C X.env) fp) tg g) (hts : ∀ (s : Shared) (H : Hp) (C : Addr) (cl : List (Str × Addr)) (fp : List Addr), PTs (X.blk s H scope (compEnvC scope cl C X.env) fp) ifs (tQ F.blk c2 mt))
    (he : ∀ (s : Shared) (H : Hp) (C : Addr) (cl : List (Str × Addr)) (fp : List Addr), PE (X.blk s H scope (compEnvC scope cl C X.env) fp) elt (tX F.blk kF c2 me)) (hs : ∀ x, foldedSetIterable iter X.env x = pure x := by intro _; rfl) :
    PE X (.ListComp elt [⟨tg, iter, ifs, 0⟩] scope pos) (tX F kO c fun γ => (mL γ).bind fun xs => if xs.length ≤ 16777216 then Rs.comp (fun x => mt (push x (s.proj γ))) (fun x => me (push x (s.proj γ))) xs else .no) :=
  pe_mono (pe_lc hc hN hi ok hg hts he hs) fun σ H Q h => lc_of s hn ht h
theorem s_lc [Rep α] [Rep β] {fr : Bs} {y : Str} {py spos : Pos} {j : Nat} {elt tg iter : Expr} {ifs : List Expr} {scope : Scope} {own : List (Str × Nat)} {pos : Pos} {g : TG} {c1 c2 c' : Ctx} {mL : Ctx.T c → Rs (List α)} {mt : Ctx.T c2 → Rs Bool} {me : Ctx.T c2 → Rs β} {push : α → Ctx.T c1 → Ctx.T c2} (hc : X.calm = true) (hN : X.N.Nodup)
    (hy : X.N[j]? = some y) (hyl : X.env.scope.names.lookup y = some .local) (hsw : swapsWith (.ListComp elt [⟨tg, iter, ifs, 0⟩] scope pos) (some (.Name y py)) spos.line X.env = pure true) (hi : PI X tg iter (tI F fr c mL)) (ok : BlkOk X.N X.env.scope scope own)
    (s : Sub c c1) (hn : Ctx.nots (own.map (·.2)) c1 = true) (ht : TgtC F.blk g (own.map (·.2)) c1 c2 push)
    (hg : ∀ (s : Shared) (H : Hp) (C : Addr) (cl : List (Str × Addr)) (fp : List Addr), PG (X.blk s H scope (compEnvC scope cl C X.env) fp) tg g) (hts : ∀ (s : Shared) (H : Hp) (C : Addr) (cl : List (Str × Addr)) (fp : List Addr), PTs (X.blk s H scope (compEnvC scope cl C X.env) fp) ifs (tQ F.blk c2 mt))
    (he : ∀ (s : Shared) (H : Hp) (C : Addr) (cl : List (Str × Addr)) (fp : List Addr), PE (X.blk s H scope (compEnvC scope cl C X.env) fp) elt (tX F.blk kF c2 me)) (s' : Sub c c') (hj : F.n.lt j) (hn' : Ctx.not j c' = true) (hs : ∀ x, foldedSetIterable iter X.env x = pure x := by intro _; rfl) :
    PS X (.Assign [.Name y py] (.ListComp elt [⟨tg, iter, ifs, 0⟩] scope pos) spos) (tS F c (.ow j (List β) :: c') fun γ => ((mL γ).bind fun xs => if xs.length ≤ 16777216 then Rs.comp (fun x => mt (push x (s.proj γ))) (fun x => me (push x (s.proj γ))) xs else .no).bind fun a => .ok (a, s'.proj γ)) :=
  s_setTO (m := fun γ => (mL γ).bind fun xs => if xs.length ≤ 16777216 then Rs.comp (fun x => mt (push x (s.proj γ))) (fun x => me (push x (s.proj γ))) xs else .no) (ps_setLc hc hN hy hyl hsw hi ok hg hts he hs) (fun σ H Q h => lc_of s hn ht h) s' hj hn'
/-! ### plain stores -/
theorem s_set [Rep α] {c' : Ctx} {m : Ctx.T c → Rs α} {j : Nat} {x : Str} {pos pos' : Pos} (hN : X.N.Nodup) (h : PE X e (tX F kF c m)) (s : Sub c c') (hj : F.n.lt j) (hn : Ctx.not j c' = true) (hi : X.N[j]? = some x := by rfl) (hx : Loc X.env.scope x := by first | exact .inl rfl | exact .inr rfl) (hs : swapsWith e (some (.Name x pos')) pos.line X.env = pure false := by rfl) (hf : X.fn x = true ∨ X.env.scope.names.lookup x = some .local := by first | exact .inl rfl | exact .inr rfl) :
    PS X (.Assign [.Name x pos'] e pos) (tS F c (.fz j α :: c') fun γ => (m γ).bind fun a => .ok (a, s.proj γ)) := s_setT (ps_set hN hi hx h hs hf) (fun _ _ _ q => q) s hj hn
theorem s_setO [Own β] {c' : Ctx} {m : Ctx.T c → Rs β} {j : Nat} {x : Str} {pos pos' : Pos} (hN : X.N.Nodup) (h : PE X e (tX F kO c m)) (s : Sub c c') (hj : F.n.lt j) (hn : Ctx.not j c' = true) (hi : X.N[j]? = some x := by rfl) (hx : Loc X.env.scope x := by first | exact .inl rfl | exact .inr rfl) (hs : swapsWith e (some (.Name x pos')) pos.line X.env = pure false := by rfl) (hf : X.fn x = true ∨ X.env.scope.names.lookup x = some .local := by first | exact .inl rfl | exact .inr rfl) :
    PS X (.Assign [.Name x pos'] e pos) (tS F c (.ow j β :: c') fun γ => (m γ).bind fun a => .ok (a, s.proj γ)) := s_setTO (ps_set hN hi hx h hs hf) (fun _ _ _ q => q) s hj hn
theorem s_upd [Rep α] {m : Ctx.T c → Rs α} {j : Nat} {x : Str} {pos pos' : Pos} (hN : X.N.Nodup) (h : PE X e (tX F kF c m)) (v : Var c (.fz j α)) (hj : F.n.lt j) (hn : (c.map Ent.slot).Nodup := by decide) (hi : X.N[j]? = some x := by rfl) (hx : Loc X.env.scope x := by first | exact .inl rfl | exact .inr rfl) (hs : swapsWith e (some (.Name x pos')) pos.line X.env = pure false := by rfl) (hf : X.fn x = true ∨ X.env.scope.names.lookup x = some .local := by first | exact .inl rfl | exact .inr rfl) :
    PS X (.Assign [.Name x pos'] e pos) (tS F c c fun γ => (m γ).bind fun a => .ok (v.put γ a)) := s_updT (ps_set hN hi hx h hs hf) (fun _ _ _ q => q) v hj hn
omit [TabT] in
/-- an owned name is given a new object -/
theorem Var.restoreO [Own β] {wd : Wd} {H0 H G : Hp} {σ : L2.St} {i : Nat} {p : Addr} {o : HO} {b : β} : ∀ {c : Ctx} (v : Var c (.ow i β)) {γ : Ctx.T c} {os : List Addr}, (c.map Ent.slot).Nodup → own wd G o b → H p = some o → i < σ.length → p ∉ os → os.Nodup → R wd H0 σ H G c γ os →
    ∃ os', R wd H0 (σ.set i (some (.ref p))) H G c (v.put γ b) os' ∧ os'.Nodup ∧ ∀ q ∈ os', q = p ∨ q ∈ os
  | @Ent.ow _ _ _ :: c, .z, γ, os, nd, w, hp, l, n, no, h => by
    obtain ⟨q, o1, os1, rfl, h1, h2, h3, h4⟩ := h
    refine ⟨p :: os1, ⟨p, o, os1, rfl, List.getElem?_set_self l, hp, w, h4.slots fun e he => List.getElem?_set_ne fun z => (List.nodup_cons.mp nd).1 (by rw [show Ent.slot _ = i from rfl, z]; exact List.mem_map_of_mem he)⟩,
      List.nodup_cons.mpr ⟨fun z => n (List.mem_cons_of_mem _ z), (List.nodup_cons.mp no).2⟩, fun r hr => (List.mem_cons.mp hr).elim .inl fun z => .inr (List.mem_cons_of_mem _ z)⟩
  | @Ent.fz j δ _ :: c, .s v, γ, os, nd, w, hp, l, n, no, h => by
    obtain ⟨os', h1, h2, h3⟩ := Var.restoreO v (List.nodup_cons.mp nd).2 w hp l n no h.2
    obtain ⟨y, e1, e2⟩ := h.1
    exact ⟨os', ⟨⟨y, by rw [List.getElem?_set_ne (show i ≠ j from fun q => (List.nodup_cons.mp nd).1 (by show j ∈ c.map Ent.slot; rw [← q]; exact v.inSlots))]; exact e1, e2⟩, h1⟩, h2, h3⟩
  | @Ent.bo j δ _ :: c, .s v, γ, os, nd, w, hp, l, n, no, h => by
    obtain ⟨os', h1, h2, h3⟩ := Var.restoreO v (List.nodup_cons.mp nd).2 w hp l n no h.2
    obtain ⟨y, o2, e1, e2⟩ := h.1
    exact ⟨os', ⟨⟨y, o2, by rw [List.getElem?_set_ne (show i ≠ j from fun q => (List.nodup_cons.mp nd).1 (by show j ∈ c.map Ent.slot; rw [← q]; exact v.inSlots))]; exact e1, e2⟩, h1⟩, h2, h3⟩
  | @Ent.ow j δ _ :: c, .s v, γ, os, nd, w, hp, l, n, no, h => by
    obtain ⟨q, o1, os1, rfl, h1, h2, h3, h4⟩ := h
    obtain ⟨os', k1, k2, k3⟩ := Var.restoreO v (List.nodup_cons.mp nd).2 w hp l (fun z => n (List.mem_cons_of_mem _ z)) (List.nodup_cons.mp no).2 h4
    refine ⟨q :: os', ⟨q, o1, os', rfl, by rw [List.getElem?_set_ne (show i ≠ j from fun q => (List.nodup_cons.mp nd).1 (by show j ∈ c.map Ent.slot; rw [← q]; exact v.inSlots))]; exact h1, h2, h3, k1⟩, List.nodup_cons.mpr ⟨fun z => ?_, k2⟩, fun r hr => ?_⟩
    · rcases k3 q z with e | e
      · exact n (by rw [e]; exact List.mem_cons_self)
      · exact (List.nodup_cons.mp no).1 e
    · rcases List.mem_cons.mp hr with e | e
      · exact .inr (by rw [e]; exact List.mem_cons_self)
      · exact (k3 r e).elim .inl fun z => .inr (List.mem_cons_of_mem _ z)
  | @Ent.oo j δ _ :: c, .s v, γ, os, nd, w, hp, l, n, no, h => by
    have ne : i ≠ j := fun q => (List.nodup_cons.mp nd).1 (by show j ∈ c.map Ent.slot; rw [← q]; exact v.inSlots)
    rcases h with ⟨e0, h1, h⟩ | ⟨b', q, o1, os1, e0, rfl, h1, h2, h3, h4⟩
    · obtain ⟨os', k1, k2, k3⟩ := Var.restoreO v (List.nodup_cons.mp nd).2 w hp l n no h
      exact ⟨os', .inl ⟨e0, by rw [List.getElem?_set_ne ne]; exact h1, k1⟩, k2, k3⟩
    · obtain ⟨os', k1, k2, k3⟩ := Var.restoreO v (List.nodup_cons.mp nd).2 w hp l (fun z => n (List.mem_cons_of_mem _ z)) (List.nodup_cons.mp no).2 h4
      refine ⟨q :: os', .inr ⟨b', q, o1, os', e0, rfl, by rw [List.getElem?_set_ne ne]; exact h1, h2, h3, k1⟩, List.nodup_cons.mpr ⟨fun z => ?_, k2⟩, fun r hr => ?_⟩
      · rcases k3 q z with e | e
        · exact n (by rw [e]; exact List.mem_cons_self)
        · exact (List.nodup_cons.mp no).1 e
      · rcases List.mem_cons.mp hr with e | e
        · exact .inr (by rw [e]; exact List.mem_cons_self)
        · exact (k3 r e).elim .inl fun z => .inr (List.mem_cons_of_mem _ z)
  | @Ent.sf j δ _ x :: c, .s v, γ, os, nd, w, hp, l, n, no, h => by
    have ne : i ≠ j := fun q => (List.nodup_cons.mp nd).1 (by show j ∈ c.map Ent.slot; rw [← q]; exact v.inSlots)
    obtain ⟨o1, os1, rfl, h1, h2, h3, h4⟩ := h
    obtain ⟨os', k1, k2, k3⟩ := Var.restoreO v (List.nodup_cons.mp nd).2 w hp l (fun z => n (List.mem_cons_of_mem _ z)) (List.nodup_cons.mp no).2 h4
    refine ⟨x :: os', ⟨o1, os', rfl, by rw [List.getElem?_set_ne ne]; exact h1, h2, h3, k1⟩, List.nodup_cons.mpr ⟨fun z => ?_, k2⟩, fun r hr => ?_⟩
    · rcases k3 x z with e | e
      · exact n (by rw [e]; exact List.mem_cons_self)
      · exact (List.nodup_cons.mp no).1 e
    · rcases List.mem_cons.mp hr with e | e
      · exact .inr (by rw [e]; exact List.mem_cons_self)
      · exact (k3 r e).elim .inl fun z => .inr (List.mem_cons_of_mem _ z)
  | @Ent.ot j δ t :: c, .s v, γ, os, nd, w, hp, l, n, no, h => by
    have ne : i ≠ j := fun q => (List.nodup_cons.mp nd).1 (by show j ∈ c.map Ent.slot; rw [← q]; exact v.inSlots)
    obtain ⟨u, as, os1, rfl, h1, h2, h3⟩ := h
    obtain ⟨n1, n2, n3⟩ := List.nodup_append.mp no
    obtain ⟨os', k1, k2, k3⟩ := Var.restoreO v (List.nodup_cons.mp nd).2 w hp l (fun z => n (List.mem_append_right _ z)) n2 h3
    refine ⟨as ++ os', ⟨u, as, os', rfl, by rw [List.getElem?_set_ne ne]; exact h1, h2, k1⟩, List.nodup_append.mpr ⟨n1, k2, fun a ha b hb z => ?_⟩, fun r hr => ?_⟩
    · rcases k3 b hb with e | e
      · exact n (by rw [← e, ← z]; exact List.mem_append_left _ ha)
      · exact n3 a ha b e z
    · rcases List.mem_append.mp hr with e | e
      · exact .inr (List.mem_append_left _ e)
      · exact (k3 r e).elim .inl fun z => .inr (List.mem_append_right _ z)
theorem s_updTO [Own β] {st : Stmt} {te : TE} {m : Ctx.T c → Rs β} {j : Nat} (h : PS X st (tAsg te (gName j))) (he : ∀ σ H Q, tX F kO c m σ H Q → te σ H Q) (v : Var c (.ow j β)) (hj : F.n.lt j) (hn : (c.map Ent.slot).Nodup := by decide) : PS X st (tS F c c fun γ => (m γ).bind fun a => .ok (v.put γ a)) :=
  ps_mono h fun D σ H ⟨H0, G0, G, os, γ, st, p⟩ => he _ _ _ ⟨H0, G0, G, os, γ, st, p.step st kO fun x H1 G1 a fr ⟨q, o, ev, n, g, hq, w⟩ p1 => by
    have s := st.ext fr
    subst ev
    have nq : q ∉ os := fun z => by
      obtain ⟨o2, h2, _⟩ := st.r.there q z
      rw [n] at h2
      cases h2
    obtain ⟨os', k1, k2, k3⟩ := Var.restoreO v hn w hq (by rw [s.len.1]; exact hj.1) nq s.nd s.r
    exact p1 _ _ _ _ ⟨s.len.set hj, s.f, k2, fun r hr => by
      rcases k3 r hr with e | e
      · rw [e]; exact ⟨g, st.f.h.free n⟩
      · exact s.fr r e, k1, s.t⟩⟩
theorem s_updO [Own β] {m : Ctx.T c → Rs β} {j : Nat} {x : Str} {pos pos' : Pos} (hN : X.N.Nodup) (h : PE X e (tX F kO c m)) (v : Var c (.ow j β)) (hj : F.n.lt j) (hn : (c.map Ent.slot).Nodup := by decide) (hi : X.N[j]? = some x := by rfl) (hx : Loc X.env.scope x := by first | exact .inl rfl | exact .inr rfl) (hs : swapsWith e (some (.Name x pos')) pos.line X.env = pure false := by rfl) (hf : X.fn x = true ∨ X.env.scope.names.lookup x = some .local := by first | exact .inl rfl | exact .inr rfl) :
    PS X (.Assign [.Name x pos'] e pos) (tS F c c fun γ => (m γ).bind fun a => .ok (v.put γ a)) := s_updTO (ps_set hN hi hx h hs hf) (fun _ _ _ q => q) v hj hn
/-- an expression whose value is dropped -/
theorem s_expr {k : Kd F.wd α} {m : Ctx.T c → Rs α} {pos : Pos} (h : PE X e (tX F k c m)) (hs : swapsWith e none pos.line X.env = pure false := by rfl) : PS X (.Expr e pos) (tS F c c fun γ => (m γ).bind fun _ => .ok γ) :=
  ps_mono (ps_expr h hs) fun D σ H ⟨H0, G0, G, os, γ, st, p⟩ => ⟨H0, G0, G, os, γ, st, p.step st k fun v H1 G1 a f1 r p1 => p1 _ _ _ _ (st.ext f1)⟩
/-! ### changes of an owned list -/
theorem Stt.write [Own β] {wd : Wd} {n : Sl} {H0 G0 H G : Hp} {σ : L2.St} {os : List Addr} {γ : Ctx.T c} {i : Nat} (v : Var c (.ow i β)) (st : Stt wd n H0 G0 σ H G os c γ) : ∃ p o, σ[i]? = some (some (.ref p)) ∧ H p = some o ∧ own wd G o (v.get γ) ∧
    ∀ o' b, own wd G o' b → Stt wd n H0 G0 σ (upd H p o') G os c (v.put γ b) := by
  obtain ⟨p, o, h1, h2, h3, h4, h5⟩ := v.write st.nd st.r
  obtain ⟨gp, hp⟩ := st.fr p h1
  exact ⟨p, o, h2, h3, h4, fun o' b w => ⟨st.len, ⟨Same.upd' st.f.h hp, st.f.g, fun a u q => by rw [upd_ne (ne_of_none q gp)]; exact st.f.gh a u q, st.f.new, fun t => tabs_upd (st.f.tb t) h3 (Own.pl h4)⟩, st.nd, st.fr, h5 o' b w, st.t⟩⟩
omit [TabT] in
def setI (xs : List α) (k : Int) (a : α) : Rs (List α) := match ixN xs.length k with
  | some j => .ok (xs.set j a)
  | none => .no
omit [TabT] in
def appI (xs : List α) (a : α) : Rs (List α) := if xs.length < 16777216 then .ok (xs ++ [a]) else .no
theorem s_store [Rep α] {j : Nat} {i : Expr} {m : Ctx.T c → Rs α} {mi : Ctx.T c → Rs Int} {x : Str} {p1 p2 pos : Pos} (v : Var c (.ow j (List α))) (h : PE X e (tX F kF c m)) (hi : PE X i (tX F kF c mi)) (hN : X.N[j]? = some x := by rfl) (hv : Vis X.env.scope x := by first | exact Or.inl rfl | exact Or.inr (Or.inl rfl) | exact Or.inr (Or.inr rfl))
    (hd : (x == ("__debug__" : Str)) = false := by decide) (hcd : (x == ("__classdict__" : Str)) = false := by decide)
    (ha : ∀ v, assign (.Subscript (.Name x p1) i p2) X.env v = (do let ov ← holding [v] (eval (.Name x p1) X.env); let iv ← holding [v, ov] (eval i X.env); standAt p2; holding [v, ov, iv] (setItem ov iv v); release [v, ov, iv] []) := by intro _; rfl)
    (hs : swapsWithSole [.Subscript (.Name x p1) i p2] e pos.line X.env = pure false := by rfl) (hw : swappedStores [.Subscript (.Name x p1) i p2] e X.env = pure none := by rfl) (h1 : (assignEach [.Subscript (.Name x p1) i p2] X.env).map (·.2) = [assign (.Subscript (.Name x p1) i p2) X.env] := by rfl) :
    PS X (.Assign [.Subscript (.Name x p1) i p2] e pos) (tS F c c fun γ => (m γ).bind fun a => (mi γ).bind fun k => (setI (v.get γ) k a).bind fun ys => .ok (v.put γ ys)) :=
  ps_mono (ps_asg h (pg_sub (pe_var hN hv hd hcd) hi set_list ha) hs hw h1) fun D σ H ⟨H0, G0, G, os, γ, st, p⟩ => ⟨H0, G0, G, os, γ, st, p.step st kF fun va H1 G1 a f1 r1 p1 => by
    have st1 := st.ext f1
    obtain ⟨q, o, e1, e2, e3, e4⟩ := st1.write v
    refine ⟨.ref q, e1, H0, G0, G1, os, γ, st1, p1.step st1 kF fun vk H2 G2 k f2 r2 p2 => ?_⟩
    have st2 := st1.ext f2
    obtain ⟨q2, o2, d1, d2, ⟨vs, d3, d5, d6⟩, d4⟩ := st2.write v
    subst d3
    have eq : q2 = q := by rw [e1] at d1; injection d1 with d1; injection d1 with d1; injection d1 with d1; exact d1.symm
    subst eq
    have p3 : PostN F H0 G0 c D ((setI (v.get γ) k a).bind fun ys => .ok (v.put γ ys)) := p2
    unfold setI at p3
    cases ei : ixN (v.get γ).length k with
    | none => rw [ei] at p3; exact p3.elim
    | some j' =>
      rw [ei] at p3
      exact ⟨q2, vs, k, j', rfl, r2, d2, by rw [d6.len]; exact ei, p3 _ _ _ _ (d4 _ _ ⟨_, rfl, by rw [List.length_set]; exact d5, d6.set j' (Rep.mono f2.g r1)⟩)⟩⟩
theorem s_append [Rep α] {j : Nat} {m : Ctx.T c → Rs α} {x : Str} {p1 apos cpos pos : Pos} (v : Var c (.ow j (List α))) (h : PE X e (tX F kF c m)) (hN : X.N[j]? = some x := by rfl) (hv : Vis X.env.scope x := by first | exact Or.inl rfl | exact Or.inr (Or.inl rfl) | exact Or.inr (Or.inr rfl))
    (hd : (x == ("__debug__" : Str)) = false := by decide) (hcd : (x == ("__classdict__" : Str)) = false := by decide) (he : starEach (e :: []) X.env = (false, eval e X.env) :: starEach [] X.env := by rfl)
    (hbase : attributeBase (.Name x p1) "append" X.env (eval (.Name x p1) X.env) = eval (.Name x p1) X.env := by rfl)
    (hfew : ((backTo cpos (starEach (e :: []) X.env)).all (fun x => !x.1) && (backToKw cpos (keywordEach [] X.env)).all (fun x => x.1.isSome) && decide ((e :: []).length + ([] : List Keyword).length + (if ([] : List Keyword).isEmpty then 0 else 1) < 30)) = true := by rfl)
    (hline : (apos.endLine == cpos.line) = true := by rfl) (hplain : (backTo cpos (starEach [] X.env)).any (·.1) = false := by rfl) (hs : swapsWith (.Call (.Attribute (.Name x p1) "append" apos) [e] [] cpos) none pos.line X.env = pure false := by rfl) :
    PS X (.Expr (.Call (.Attribute (.Name x p1) "append" apos) [e] [] cpos) pos) (tS F c c fun γ => (m γ).bind fun a => (appI (v.get γ) a).bind fun ys => .ok (v.put γ ys)) :=
  ps_mono (ps_expr (pe_bm PySem.F.plainAttrs_list PySem.F.slot_list_append PySem.F.type_list_append mt_append (pe_var hN hv hd hcd) (pa_cons h pa_nil he) hbase hfew hline he hplain) hs) fun D σ H ⟨H0, G0, G, os, γ, st, p⟩ => by
    obtain ⟨q, o, e1, e2, ⟨vs, e3, e5, e6⟩, e4⟩ := st.write v
    subst e3
    refine ⟨.ref q, e1, .inl ⟨rfl, _, .of e2⟩, H0, G0, G, os, γ, st, p.step st kF fun va H1 G1 a f1 r1 p1 => ?_⟩
    have st1 := st.ext f1
    obtain ⟨q2, o2, d1, d2, ⟨vs2, d3, d5, d6⟩, d4⟩ := st1.write v
    subst d3
    have eq : q2 = q := by rw [e1] at d1; injection d1 with d1; injection d1 with d1; injection d1 with d1; exact d1.symm
    subst eq
    have p3 : PostN F H0 G0 c D ((appI (v.get γ) a).bind fun ys => .ok (v.put γ ys)) := p1
    unfold appI at p3
    by_cases hl : (v.get γ).length < 16777216
    · rw [if_pos hl] at p3
      exact ⟨q2, vs2, va, rfl, rfl, d2, by rw [d6.len, sizeLine_eq]; exact hl, p3 _ _ _ _ (d4 _ _ ⟨_, rfl, by rw [List.length_append, d6.len, sizeLine_eq]; exact hl, d6.snoc r1⟩)⟩
    · rw [if_neg hl] at p3
      exact p3.elim
end
/-! ### what a def promises, its call -/
def spF (wd : Wd) {ρ : Type} (k : Kd wd ρ) (Γ : Ctx) (m : Ctx.T Γ → Rs ρ) : Sp := fun vs H Q E => vs.length = Γ.length ∧ ∃ G γ, SameL G H ∧ LamX.Tabs TabT.T H ∧ RA wd H G 0 Γ γ vs ∧
  match m γ with
  | .ok r => ∀ H' G' v, Fr H G H' G' → k.rel H H' G' v r → Q v H'
  | .ex x => ∀ d H' G', Fr H G H' G' → RepX G' d x → E (.ref (wd.cm x.cls)) d H'
  | .no => False
section
variable {P : Program} {w : World} {K : PySem.W.Frag} {mg : Str → Option Value} {base : Heap}
omit [TabT] in
theorem start_get {N : List Str} {vs : List V} {k : Nat} {v : V} (h : vs[k]? = some v) : (L2.start N vs)[0 + k]? = some (some v) := by
  unfold L2.start
  rw [Nat.zero_add, List.getElem?_append_left (by rw [List.length_map]; exact (List.getElem?_eq_some_iff.mp h).1), List.getElem?_map, h]
  rfl
theorem fn_ok {ρ : Type} {wd : Wd} {kr : Kd wd ρ} {Γ : Ctx} {m : Ctx.T Γ → Rs ρ} {x qual : Str} {st : Stmt} {f : Addr} {fd : FuncData} {N ps : List Str} {k : Nat} (F : Fun K x qual st f fd) (S : FnScope N ps (defScope st)) (hl : Γ.length = ps.length)
    (body : ∀ (cdv : Value) (A : Around) (outer : List Env) (s : Shared) (H : Hp) (E : XK), Room k (A.deeper (envOfC qual (defScope st) s.heap.objs.size f cdv)) →
      PSs (cxOf (L2N.CX P w) P w K mg base N qual (defScope st) f cdv A outer s H E) (defBody st) (tT ⟨wd, Sl.all N.length, fun cls d _ H => E cls d H⟩ kr Γ m)) : FnOk P w K mg base (L2N.CX P w) (k + 1) f fd ps (spF wd kr Γ m) := by
  have hpl : ps.length ≤ N.length := by have := congrArg List.length S.pre; rw [List.length_take] at this; omega
  refine okN F S (fun vs H Q E h => h.1.trans hl) (fun cdv A outer s H vs Q E hr h => ⟨_, body cdv A outer s H E hr, ?_⟩)
  obtain ⟨h1, G, γ, gh, tb, ra, p⟩ := h
  refine ⟨H, G, G, [], γ, ⟨?_, Fr.refl gh, List.nodup_nil, fun _ z => (by cases z), RA.r (fun k v e => start_get e) ra, tb⟩, ?_⟩
  · refine ⟨?_, trivial⟩
    show _ = N.length
    unfold L2.start
    rw [List.length_append, List.length_map, List.length_replicate]
    omega
  · cases e : m γ with
    | no => rw [e] at p; exact p
    | ex x => rw [e] at p; exact fun d σ H' G' _ => p d H' G'
    | ok r => rw [e] at p; exact fun H' G' v f q => p H' G' v f q
/-- .. whose body only falls off its end -/
theorem fn_okN {wd : Wd} {Γ c' : Ctx} {m : Ctx.T Γ → Rs (Ctx.T c')} {x qual : Str} {st : Stmt} {f : Addr} {fd : FuncData} {N ps : List Str} {k : Nat} (F : Fun K x qual st f fd) (S : FnScope N ps (defScope st)) (hl : Γ.length = ps.length)
    (body : ∀ (cdv : Value) (A : Around) (outer : List Env) (s : Shared) (H : Hp) (E : XK), Room k (A.deeper (envOfC qual (defScope st) s.heap.objs.size f cdv)) →
      PSs (cxOf (L2N.CX P w) P w K mg base N qual (defScope st) f cdv A outer s H E) (defBody st) (tS ⟨wd, Sl.all N.length, fun cls d _ H => E cls d H⟩ Γ c' m)) : FnOk P w K mg base (L2N.CX P w) (k + 1) f fd ps (spF wd (kF (α := Unit)) Γ fun γ => (m γ).bind fun _ => .ok ()) := by
  have hpl : ps.length ≤ N.length := by have := congrArg List.length S.pre; rw [List.length_take] at this; omega
  refine okN F S (fun vs H Q E h => h.1.trans hl) (fun cdv A outer s H vs Q E hr h => ⟨_, body cdv A outer s H E hr, ?_⟩)
  obtain ⟨h1, G, γ, gh, tb, ra, p⟩ := h
  refine ⟨H, G, G, [], γ, ⟨?_, Fr.refl gh, List.nodup_nil, fun _ z => (by cases z), RA.r (fun k v e => start_get e) ra, tb⟩, ?_⟩
  · refine ⟨?_, trivial⟩
    show _ = N.length
    unfold L2.start
    rw [List.length_append, List.length_map, List.length_replicate]
    omega
  · dsimp only at p
    cases e : m γ with
    | no => rw [e] at p; exact p
    | ex x => rw [e] at p; exact fun d σ H' G' _ => p d H' G'
    | ok r => rw [e] at p; exact fun σ' H' G' os st => p H' G' .non st.f rfl
end
section
variable {X : Cx} {F : Fx} {c : Ctx} {α β δ ρ : Type} {e : Expr} {es : List Expr}
theorem sp_of {kr : Kd F.wd ρ} {Γ : Ctx} {m : Ctx.T Γ → Rs ρ} {ma : Ctx.T c → Rs (Ctx.T Γ)} {σ : L2.St} {H : Hp} {Q : VK} (h : tX F kr c (fun γ => (ma γ).bind m) σ H Q) : tA F c 0 Γ ma σ H fun vs H1 => spF F.wd kr Γ m vs H1 Q (WE F.W σ) :=
  tM_postT h fun vs H1 G1 g gh tb r p => ⟨r.len, G1, g, gh, tb, r, by
    cases e : m g with
    | no => rw [e] at p; exact p
    | ex x => rw [e] at p; exact p
    | ok z => rw [e] at p; exact p⟩
theorem e_call {kr : Kd F.wd ρ} {Γ : Ctx} {m : Ctx.T Γ → Rs ρ} {ma : Ctx.T c → Rs (Ctx.T Γ)} {x : Str} {p pos : Pos} {f : Addr} {fd : FuncData} {ps : List Str} {k : Nat} (tk : L2N.Takes X F.W) (Fn : FnOk X.prog X.w X.K X.mg X.base (L2N.CX X.prog X.w) k f fd ps (spF F.wd kr Γ m)) (hr : Room k X.A) (hm : X.mg x = some (.ref f)) (hk : PySem.W.keepIn X.K (.ref f) = true) (hb : Binds X.K fd ps [])
    (ha : PA X (e :: es) (tA F c 0 Γ ma)) (hg : Gl X x := by rfl) (hdb : (x == ("__debug__" : Str)) = false := by decide) (he : starEach (e :: es) X.env = (false, eval e X.env) :: starEach es X.env := by rfl) (hpl : (backTo pos (starEach es X.env)).any (·.1) = false := by rfl) :
    PE X (.Call (.Name x p) (e :: es) [] pos) (tX F kr c fun γ => (ma γ).bind m) :=
  pe_mono (pe_callS Fn hr hg hm hk hb (fun σ => L2N.passAt tk σ) ha hdb he hpl) fun σ H Q h => sp_of h
end
end Wm
set_option Elab.async false
set_option linter.all false
set_option maxRecDepth 100000
set_option maxHeartbeats 4000000
namespace Wm
open PySem PySem.Spec PyProof.Rows L2
open Rep (rep)
open Own (own)
variable [TabT]
/-! ### texts -/
omit [TabT] in
theorem Str.len_toList (a : Str) : a.length = a.cps.toList.length := by simp [Str.length]
omit [TabT] in
theorem SOk.len {a : Str} (h : SOk a) : a.length ≤ sizeLine := by rw [Str.len_toList, sizeLine_eq]; exact h.1
omit [TabT] in
theorem SOk.strOk {a : Str} (h : SOk a) : PyData.strOk a = true := by
  unfold PyData.strOk
  rw [Array.all_eq_true']
  intro c hc
  exact decide_eq_true (h.2 c (by simpa using hc))
/-! ### == by data -/
class PyEq (α : Type) [Rep α] [DecidableEq α] where
  d : α → PyData
  dep : Nat
  dp : ∀ {wd : Wd} {K : PySem.W.Frag} {H G : Hp} {v : V} {a : α}, SameL G H → rep wd G v a → Dp K H v (d a)
  lay : ∀ {wd : Wd} {G : Hp} {v : V} {a : α}, rep wd G v a → (d a).canLay0 = true
  depth : ∀ a, (d a).depth ≤ dep
  eqv : ∀ a b, PyData.eqv (d a) (d b) = decide (a = b)
omit [TabT] in
instance : PyEq Int where
  d := .int
  dep := 0
  dp := fun _ h => by rw [show _ = V.int _ from h]; exact .int _
  lay := fun _ => by unfold PyData.canLay0; rfl
  depth := fun a => by unfold PyData.depth; exact Nat.le_refl _
  eqv := fun a b => by unfold PyData.eqv; rw [Bool.beq_eq_decide_eq]
omit [TabT] in
instance : PyEq Bool where
  d := .bool
  dep := 0
  dp := fun _ h => by rw [show _ = V.bl _ from h]; exact .bl _
  lay := fun _ => by unfold PyData.canLay0; rfl
  depth := fun a => by unfold PyData.depth; exact Nat.le_refl _
  eqv := fun a b => by unfold PyData.eqv; rw [Bool.beq_eq_decide_eq]
omit [TabT] in
instance : PyEq Str where
  d := .str
  dep := 0
  dp := fun _ h => by rw [show _ = V.str _ from h.1]; exact .str _
  lay := fun h => by unfold PyData.canLay0; exact h.2.strOk
  depth := fun a => by unfold PyData.depth; exact Nat.le_refl _
  eqv := fun a b => by unfold PyData.eqv; rfl
section
variable {α β : Type} [Rep α] [DecidableEq α] [PyEq α] [Rep β] [DecidableEq β] [PyEq β]
omit [TabT] in
theorem dpAll {wd : Wd} {K : PySem.W.Frag} {H G : Hp} (s : SameL G H) : ∀ {vs : List V} {as : List α}, reps wd G vs as → DpAll K H vs (as.map PyEq.d)
  | [], [], _ => .nil
  | _ :: _, _ :: _, ⟨h, t⟩ => .cons (PyEq.dp s h) (dpAll s t)
  | [], _ :: _, h => h.elim
  | _ :: _, [], h => h.elim
omit [TabT] in
theorem layAll {wd : Wd} {G : Hp} : ∀ {vs : List V} {as : List α}, reps wd G vs as → PyData.canLayAll0 (as.map PyEq.d) = true
  | [], [], _ => by unfold PyData.canLayAll0; rfl
  | _ :: _, _ :: _, ⟨h, t⟩ => by
    show PyData.canLayAll0 (PyEq.d _ :: _) = true
    unfold PyData.canLayAll0
    rw [PyEq.lay h, layAll t]
    rfl
  | [], _ :: _, h => h.elim
  | _ :: _, [], h => h.elim
omit [TabT] in
theorem depthAll_le : ∀ as : List α, PyData.depthAll (as.map PyEq.d) ≤ PyEq.dep α
  | [] => by show PyData.depthAll [] ≤ _; unfold PyData.depthAll; exact Nat.zero_le _
  | a :: as => by
    show PyData.depthAll (PyEq.d a :: as.map PyEq.d) ≤ _
    unfold PyData.depthAll
    exact Nat.max_le.mpr ⟨PyEq.depth a, depthAll_le as⟩
omit [TabT] in
theorem eqvAll_of : ∀ as bs : List α, PyData.eqvAll (as.map PyEq.d) (bs.map PyEq.d) = decide (as = bs)
  | [], [] => by show PyData.eqvAll [] [] = _; unfold PyData.eqvAll; rfl
  | [], b :: bs => by show PyData.eqvAll [] (_ :: _) = _; unfold PyData.eqvAll; rfl
  | a :: as, [] => by show PyData.eqvAll (_ :: _) [] = _; unfold PyData.eqvAll; rfl
  | a :: as, b :: bs => by
    show PyData.eqvAll (PyEq.d a :: as.map PyEq.d) (PyEq.d b :: bs.map PyEq.d) = _
    unfold PyData.eqvAll
    rw [PyEq.eqv, eqvAll_of as bs]
    by_cases h1 : a = b
    · by_cases h2 : as = bs
      · rw [decide_eq_true h1, decide_eq_true h2, decide_eq_true (by rw [h1, h2])]; rfl
      · rw [decide_eq_true h1, decide_eq_false h2, decide_eq_false fun z => h2 (List.cons.inj z).2]; rfl
    · rw [decide_eq_false h1, decide_eq_false fun z => h1 (List.cons.inj z).1]; rfl
omit [TabT] in
instance : PyEq (List α) where
  d := fun as => .list (as.map PyEq.d)
  dep := PyEq.dep α + 1
  dp := fun s ⟨p, o, e1, e2, vs, e3, e4, r⟩ => by
    subst e1; subst e3
    exact .lst (.of (s.v e2)) (dpAll s r)
  lay := fun ⟨p, o, e1, e2, vs, e3, e4, r⟩ => by unfold PyData.canLay0; exact layAll r
  depth := fun as => by unfold PyData.depth; exact Nat.succ_le_succ (depthAll_le as)
  eqv := fun as bs => by unfold PyData.eqv; exact eqvAll_of as bs
omit [TabT] in
instance {α : Type} [DecidableEq α] : DecidableEq (Tup α) := fun a b => if h : a.items = b.items then .isTrue (by cases a; cases b; congr) else .isFalse fun z => h (by rw [z])
omit [TabT] in
instance : PyEq (Tup α) where
  d := fun as => .tuple (as.items.map PyEq.d)
  dep := PyEq.dep α + 1
  dp := fun s ⟨p, o, e1, e2, vs, e3, e4, r⟩ => by
    subst e1; subst e3
    exact .tup (.of (s.v e2)) (dpAll s r)
  lay := fun ⟨p, o, e1, e2, vs, e3, e4, r⟩ => by unfold PyData.canLay0; exact layAll r
  depth := fun as => by unfold PyData.depth; exact Nat.succ_le_succ (depthAll_le as.items)
  eqv := fun as bs => by
    unfold PyData.eqv
    rw [eqvAll_of]
    by_cases h : as.items = bs.items
    · rw [decide_eq_true h, decide_eq_true (by cases as; cases bs; congr)]
    · rw [decide_eq_false h, decide_eq_false fun z => h (by rw [z])]
omit [TabT] in
instance : PyEq (α × β) where
  d := fun x => .tuple [PyEq.d x.1, PyEq.d x.2]
  dep := max (PyEq.dep α) (PyEq.dep β) + 1
  dp := fun s ⟨p, o, e1, e2, v, w, e3, r1, r2⟩ => by
    subst e1; subst e3
    exact .tup (.of (s.v e2)) (.cons (PyEq.dp s r1) (.cons (PyEq.dp s r2) .nil))
  lay := fun ⟨p, o, e1, e2, v, w, e3, r1, r2⟩ => by
    unfold PyData.canLay0 PyData.canLayAll0 PyData.canLayAll0 PyData.canLayAll0
    rw [PyEq.lay r1, PyEq.lay r2]; rfl
  depth := fun x => by
    unfold PyData.depth PyData.depthAll PyData.depthAll PyData.depthAll
    have h1 := PyEq.depth x.1
    have h2 := PyEq.depth x.2
    omega
  eqv := fun x y => by
    unfold PyData.eqv PyData.eqvAll PyData.eqvAll PyData.eqvAll
    rw [PyEq.eqv, PyEq.eqv]
    obtain ⟨a, b⟩ := x
    obtain ⟨a', b'⟩ := y
    by_cases h1 : a = a'
    · by_cases h2 : b = b'
      · rw [decide_eq_true h1, decide_eq_true h2, decide_eq_true (by rw [h1, h2])]; rfl
      · rw [decide_eq_true h1, decide_eq_false h2, decide_eq_false fun z => h2 (Prod.mk.inj z).2]; rfl
    · rw [decide_eq_false h1, decide_eq_false fun z => h1 (Prod.mk.inj z).1]; rfl
omit [TabT] in
theorem shaped_of {wd : Wd} {G : Hp} {v : V} {a : α} (h : rep wd G v a) (hd : PyEq.dep α ≤ 64) : SeqAt.shaped (PyEq.d a) = true := by
  unfold SeqAt.shaped
  rw [PyEq.lay h, decide_eq_true (Nat.le_trans (PyEq.depth a) hd)]
  rfl
theorem m_eqD {wd : Wd} {K : PySem.W.Frag} (hd : PyEq.dep α ≤ 64 := by decide) : Sem2 (wd := wd) (α := α) (β := α) kF kF kF (rEqD K) (fun a b => .ok (decide (a = b))) := by
  intro W σ B1 B2 H G x y a b Q gh hx hy p
  refine ⟨_, _, PyEq.dp gh hx, PyEq.dp gh hy, shaped_of hx hd, shaped_of hy hd, ?_⟩
  rw [PyEq.eqv]
  exact p H G _ (Fr.refl gh) rfl
end
/-! ### ints, bools, texts -/
section
variable {wd : Wd} {K : PySem.W.Frag} {α β : Type}
theorem m_eqI : Sem2 (wd := wd) kF kF kF rEq (fun (a b : Int) => .ok (decide (a = b))) := by
  intro W σ B1 B2 H G x y a b Q gh hx hy p
  rw [show x = .int a from hx, show y = .int b from hy]
  refine ⟨rfl, ?_⟩
  rw [dec_int, Bool.beq_eq_decide_eq]
  exact p H G _ (Fr.refl gh) rfl
theorem m_eqL : Sem2 (wd := wd) kF kF kF rEq (fun (a b : Bool) => .ok (decide (a = b))) := by
  intro W σ B1 B2 H G x y a b Q gh hx hy p
  rw [show x = .bl a from hx, show y = .bl b from hy]
  refine ⟨rfl, ?_⟩
  rw [dec_bl, Bool.beq_eq_decide_eq]
  exact p H G _ (Fr.refl gh) rfl
theorem m_eqS : Sem2 (wd := wd) kF kF kF rEq (fun (a b : Str) => .ok (decide (a = b))) := by
  intro W σ B1 B2 H G x y a b Q gh hx hy p
  rw [show x = .str a from hx.1, show y = .str b from hy.1]
  refine ⟨rfl, ?_⟩
  rw [dec_str, show (a == b) = decide (a = b) from rfl]
  exact p H G _ (Fr.refl gh) rfl
theorem m_lt : Sem2 (wd := wd) kF kF kF (rI0 fun i j => .bl (decide (i < j))) (fun (a b : Int) => .ok (decide (a < b))) := m_I0 (f := fun a b => decide (a < b)) fun _ _ _ => rfl
theorem m_le : Sem2 (wd := wd) kF kF kF (rI0 fun i j => .bl (decide (i ≤ j))) (fun (a b : Int) => .ok (decide (a ≤ b))) := m_I0 (f := fun a b => decide (a ≤ b)) fun _ _ _ => rfl
theorem m_gt : Sem2 (wd := wd) kF kF kF (rI0 fun i j => .bl (decide (j < i))) (fun (a b : Int) => .ok (decide (b < a))) := m_I0 (f := fun a b => decide (b < a)) fun _ _ _ => rfl
theorem m_ge : Sem2 (wd := wd) kF kF kF (rI0 fun i j => .bl (decide (j ≤ i))) (fun (a b : Int) => .ok (decide (b ≤ a))) := m_I0 (f := fun a b => decide (b ≤ a)) fun _ _ _ => rfl
theorem m_add : Sem2 (wd := wd) kF kF kF (rI0 fun i j => .int (i + j)) (fun (a b : Int) => .ok (a + b)) := m_I0 fun _ _ _ => rfl
theorem m_sub : Sem2 (wd := wd) kF kF kF (rI0 fun i j => .int (i - j)) (fun (a b : Int) => .ok (a - b)) := m_I0 fun _ _ _ => rfl
theorem m_mul : Sem2 (wd := wd) kF kF kF (rI CMul fun i j => .int (i * j)) (fun (a b : Int) => if CMul a b then .ok (a * b) else .no) := m_I fun _ _ _ => rfl
theorem m_mulW : Sem2 (wd := wd) kF kF kF (rI CMulW fun i j => .int (i * j)) (fun (a b : Int) => if CMulW a b then .ok (a * b) else .no) := m_I fun _ _ _ => rfl
theorem m_div : Sem2 (wd := wd) kF kF kF (rI CDiv fun i j => .int (i / j)) (fun (a b : Int) => if CDiv a b then .ok (a / b) else .no) := m_I fun _ _ _ => rfl
theorem m_divW : Sem2 (wd := wd) kF kF kF (rI CDivW fun i j => .int (i / j)) (fun (a b : Int) => if CDivW a b then .ok (a / b) else .no) := m_I fun _ _ _ => rfl
theorem m_mod : Sem2 (wd := wd) kF kF kF (rI (fun _ j => 0 < j) fun i j => .int (i % j)) (fun (a b : Int) => if 0 < b then .ok (a % b) else .no) := m_I (C := fun _ j => 0 < j) (f := fun a b => a % b) fun _ _ _ => rfl
theorem m_pow : Sem2 (wd := wd) kF kF kF (rI CPow fun i j => .int (i ^ j.toNat)) (fun (a b : Int) => if CPow a b then .ok (a ^ b.toNat) else .no) := m_I (f := fun a b => a ^ b.toNat) fun _ _ _ => rfl
theorem m_and : Sem2 (wd := wd) kF kF kF (rI0 fun i j => .int (Builtin.bitAnd i j)) (fun (a b : Int) => .ok (Builtin.bitAnd a b)) := m_I0 fun _ _ _ => rfl
theorem m_isN [Rep α] (h : ∀ {G v} {a : α}, rep wd G v a → v ≠ .non) : Sem2 (wd := wd) kF kF kF (fun x y H Q => y = .non ∧ Q (.bl (decide (x = .non))) H) (fun (a : Option α) (_ : Unit) => .ok a.isNone) := by
  intro W σ B1 B2 H G x y a b Q gh hx hy p
  refine ⟨hy, ?_⟩
  have e : decide (x = .non) = a.isNone := by
    cases a with
    | none => exact decide_eq_true hx
    | some a => exact decide_eq_false (h (a := a) hx)
  rw [e]
  exact p H G _ (Fr.refl gh) rfl
omit [TabT] in
theorem nn_own [Own α] {G v} {a : α} (h : rep wd G v a) : v ≠ .non := by
  obtain ⟨p, o, e, _⟩ := h
  rw [e]; exact nofun
/-- int(..), bool(..), len(..) -/
theorem m_int : Sem1 (wd := wd) kF kF (fun x => (fun xs H Q => (∃ i, xs = [V.int i] ∧ Q (.int i) H) ∨ ∃ k, xs = [V.bl k] ∧ Q (.int (if k then 1 else 0)) H : List V → Hp → VK → Prop) [x]) (fun (a : Int) => .ok a) := by
  intro W σ B H G x a Q gh hx p
  rw [show x = .int a from hx]
  exact .inl ⟨a, rfl, p H G _ (Fr.refl gh) rfl⟩
theorem m_intB : Sem1 (wd := wd) kF kF (fun x => (fun xs H Q => (∃ i, xs = [V.int i] ∧ Q (.int i) H) ∨ ∃ k, xs = [V.bl k] ∧ Q (.int (if k then 1 else 0)) H : List V → Hp → VK → Prop) [x]) (fun (a : Bool) => .ok (if a = true then (1 : Int) else 0)) := by
  intro W σ B H G x a Q gh hx p
  rw [show x = .bl a from hx]
  exact .inr ⟨a, rfl, p H G _ (Fr.refl gh) (by cases a <;> rfl)⟩
theorem m_lenL [Rep α] : Sem1 (wd := wd) kB kF (fun x => (fun xs H Q => ∃ p ys, xs = [V.ref p] ∧ (SqL K H p ys ∨ SqT K H p ys) ∧ Q (.int ys.length) H : List V → Hp → VK → Prop) [x]) (fun (a : List α) => .ok (a.length : Int)) := by
  intro W σ B H G x a Q gh ⟨q, o, e1, e2, vs, e3, e4, r⟩ p
  subst e1; subst e3
  exact ⟨q, vs, rfl, .inl (.of e2), p H G _ (Fr.refl gh) (by show V.int _ = V.int _; rw [r.len])⟩
theorem m_lenT [Rep α] : Sem1 (wd := wd) kF kF (fun x => (fun xs H Q => ∃ p ys, xs = [V.ref p] ∧ (SqL K H p ys ∨ SqT K H p ys) ∧ Q (.int ys.length) H : List V → Hp → VK → Prop) [x]) (fun (a : Tup α) => .ok (a.items.length : Int)) := by
  intro W σ B H G x a Q gh ⟨q, o, e1, e2, vs, e3, e4, r⟩ p
  subst e1; subst e3
  exact ⟨q, vs, rfl, .inr (.of (gh.v e2)), p H G _ (Fr.refl gh) (by show V.int _ = V.int _; rw [r.len])⟩
theorem m_lenS : Sem1 (wd := wd) kF kF (fun x => (fun xs H Q => ∃ z : Str, xs = [V.str z] ∧ z.length ≤ sizeLine ∧ Q (.int z.length) H : List V → Hp → VK → Prop) [x]) (fun (a : Str) => .ok (a.length : Int)) := by
  intro W σ B H G x a Q gh hx p
  rw [show x = .str a from hx.1]
  exact ⟨a, rfl, hx.2.len, p H G _ (Fr.refl gh) rfl⟩
theorem m_lenScript {cm : String → Addr} : Sem1 (wd := ⟨K, cm⟩) kF kF (fun x => (fun xs H Q => ∃ p ys, xs = [V.ref p] ∧ (SqL K H p ys ∨ SqT K H p ys) ∧ Q (.int ys.length) H : List V → Hp → VK → Prop) [x]) (fun (a : Script) => .ok (a.ns.length : Int)) := by
  intro W σ B H G x a Q gh ⟨q, e1, e2⟩ p
  subst e1
  exact ⟨q, _, rfl, .inl (gh.seq e2), p H G _ (Fr.refl gh) (by show V.int _ = V.int _; rw [List.length_map])⟩
/-! ### items -/
omit [TabT] in
def getI (xs : List α) (k : Int) : Rs α := match atI xs k with
  | some a => .ok a
  | none => .no
omit [TabT] in
theorem atI_rep [Rep α] {G : Hp} {vs : List V} {as : List α} {k : Int} {a : α} (r : reps wd G vs as) (h : atI as k = some a) : ∃ v, atI vs k = some v ∧ rep wd G v a := by
  unfold atI at h ⊢
  rw [r.len]
  cases e : ixN as.length k with
  | none => rw [e] at h; cases h
  | some j =>
    rw [e] at h
    obtain ⟨v, h1, h2⟩ := r.get h
    exact ⟨v, h1, h2⟩
theorem m_ixL [Rep α] : Sem2 (wd := wd) kB kF kF (rIxL K) (fun (a : List α) (k : Int) => getI a k) := by
  intro W σ B1 B2 H G x y a k Q gh ⟨q, o, e1, e2, vs, e3, e4, r⟩ hy p
  subst e1; subst e3
  have p' : Post W kF σ H G Q (getI a k) := p
  unfold getI at p'
  cases e : atI a k with
  | none => rw [e] at p'; exact p'.elim
  | some z =>
    rw [e] at p'
    obtain ⟨v, h1, h2⟩ := atI_rep r e
    exact ⟨q, vs, k, v, rfl, hy, .of e2, h1, p' H G _ (Fr.refl gh) h2⟩
theorem m_ixScript {cm : String → Addr} : Sem2 (wd := ⟨K, cm⟩) kF kF kF (rIxL K) (fun (a : Script) (k : Int) => getI a.ns k) := by
  intro W σ B1 B2 H G x y a k Q gh ⟨q, e1, e2⟩ hy p
  subst e1
  have p' : Post W kF σ H G Q (getI a.ns k) := p
  unfold getI at p'
  cases e : atI a.ns k with
  | none => rw [e] at p'; exact p'.elim
  | some z =>
    rw [e] at p'
    obtain ⟨v, h1, h2⟩ := atI_rep (wd := ⟨K, cm⟩) (G := G) (reps.of_ints (as := a.ns)) e
    exact ⟨q, _, k, v, rfl, hy, gh.seq e2, h1, p' H G _ (Fr.refl gh) h2⟩
theorem m_ixS : Sem2 (wd := wd) kF kF kF rIxS (fun (a : Str) (k : Int) => getI (chars a) k) := by
  intro W σ B1 B2 H G x y a k Q gh hx hy p
  have p' : Post W kF σ H G Q (getI (chars a) k) := p
  unfold getI at p'
  cases e : atI (chars a) k with
  | none => rw [e] at p'; exact p'.elim
  | some z =>
    rw [e] at p'
    unfold chars atI at e
    rw [List.length_map] at e
    cases e2 : ixN a.cps.toList.length k with
    | none => rw [e2] at e; cases e
    | some j =>
      rw [e2] at e
      have e' : (a.cps.toList.map fun c => (⟨#[c]⟩ : Str))[j]? = some z := e
      rw [List.getElem?_map] at e'
      cases e3 : a.cps.toList[j]? with
      | none => rw [e3] at e'; cases e'
      | some ch =>
        rw [e3] at e'
        have ez : z = ⟨#[ch]⟩ := (Option.some.inj e').symm
        refine ⟨a, k, ch, hx.1, hy, hx.2.len, ?_, p' H G _ (Fr.refl gh) ?_⟩
        · unfold atI
          rw [e2]
          exact e3
        · rw [ez]
          exact ⟨rfl, SOk.one (hx.2.2 ch (List.mem_of_getElem? e3))⟩
end
end Wm
set_option Elab.async false
set_option linter.all false
set_option maxRecDepth 100000
set_option maxHeartbeats 4000000
namespace Wm
open PySem PySem.Spec PyProof.Rows L2
open Rep (rep)
open Own (own)
variable [TabT]
omit [TabT] in
theorem SOk.app {a b : Str} (h : SOk a) (k : SOk b) (l : a.length + b.length ≤ 16777216) : SOk (a ++ b) := by
  have e : (a ++ b).cps.toList = a.cps.toList ++ b.cps.toList := by show (a.cps ++ b.cps).toList = _; simp
  refine ⟨?_, ?_⟩
  · rw [e, List.length_append, ← Str.len_toList, ← Str.len_toList]; exact l
  · rw [e]
    intro c hc
    rcases List.mem_append.mp hc with z | z
    · exact h.2 c z
    · exact k.2 c z
omit [TabT] in
theorem SOk.cut {a : Str} (h : SOk a) (lo hi : Option Int) : SOk (cutS a lo hi) := by
  unfold cutS
  refine ⟨?_, fun c hc => ?_⟩
  · show (List.toArray _).toList.length ≤ _
    rw [List.toList_toArray, List.length_take, List.length_drop]
    have := h.1
    omega
  · have hc' : c ∈ (List.toArray _).toList := hc
    rw [List.toList_toArray] at hc'
    exact h.2 c (List.mem_of_mem_drop (List.mem_of_mem_take hc'))
omit [TabT] in
def oneCp (a : Str) : Option Nat := match a.cps.toList with
  | [c] => some c
  | _ => none
omit [TabT] in
theorem oneCp_eq {a : Str} {c : Nat} (h : oneCp a = some c) : a = ⟨#[c]⟩ := by
  unfold oneCp at h
  split at h
  · rename_i d e
    cases h
    obtain ⟨x⟩ := a
    have : x = #[c] := by
      apply Array.ext'
      exact e
    rw [this]
  · cases h
/-! ### slices -/
omit [TabT] in
def cutI {α : Type} (xs : List α) (lo hi : Option Int) : List α := (xs.drop (HT.sIx xs.length 0 lo)).take (HT.sIx xs.length xs.length hi - HT.sIx xs.length 0 lo)
def tP (F : Fx) (c : Ctx) (m : Ctx.T c → Rs (Option Int)) : TO := fun σ H Q => ∃ H0 G0 G os γ, Stt F.wd F.n H0 G0 σ H G os c γ ∧ match m γ with
  | .ok a => ∀ H' G', Fr H G H' G' → Q a H'
  | .ex x => ∀ d H' G', Fr H G H' G' → RepX G' d x → F.W (.ref (F.wd.cm x.cls)) d σ H'
  | .no => False
omit [TabT] in
theorem po_mono {X : Cx} {e : Option Expr} {t t' : TO} (h : PO X e t) (i : ∀ σ H Q, t' σ H Q → t σ H Q) : PO X e t' := ⟨fun pins s σ H Q I q => h.run pins s σ H Q I (i σ H Q q)⟩
section
variable {X : Cx} {F : Fx} {c : Ctx} {α β δ : Type} {e : Expr} {pos : Pos}
theorem p_none : PO X none (tP F c fun _ => .ok none) := po_mono po_none fun σ H Q ⟨H0, G0, G, os, γ, st, p⟩ => p H G (Fr.refl st.f.gh)
theorem p_some {m : Ctx.T c → Rs Int} (h : PE X e (tX F kF c m)) : PO X (some e) (tP F c fun γ => (m γ).bind fun i => .ok (some i)) :=
  po_mono (po_some h) fun σ H Q ⟨H0, G0, G, os, γ, st, p⟩ => ⟨H0, G0, G, os, γ, st, by
    dsimp only at p
    cases e : m γ with
    | no => rw [e] at p; exact p
    | ex x => rw [e] at p; exact p
    | ok a => rw [e] at p; exact fun H' G' v f r => ⟨a, r, p H' G' f⟩⟩
theorem e_sl {k1 : Kd F.wd α} {k3 : Kd F.wd δ} {r : V → Option Int → Option Int → Hp → VK → Prop} {f : α → Option Int → Option Int → Rs δ} {lo hi : Option Expr} {m : Ctx.T c → Rs α} {ml mh : Ctx.T c → Rs (Option Int)} {p2 : Pos} (hr : SlR X r)
    (hs : ∀ {W : WX} {σ : L2.St} {B H G : Hp} {x : V} {a : α} {l h : Option Int} {Q : VK}, SameL G H → k1.rel B H G x a → Post W k3 σ H G Q (f a l h) → r x l h H Q) (he : PE X e (tX F k1 c m)) (hl : PO X lo (tP F c ml)) (hu : PO X hi (tP F c mh)) :
    PE X (.Subscript e (.Slice lo hi none p2) pos) (tX F k3 c fun γ => (m γ).bind fun x => (ml γ).bind fun l => (mh γ).bind fun h => f x l h) :=
  pe_mono (pe_slice hr he hl hu) fun σ H Q ⟨H0, G0, G, os, γ, st, p⟩ => ⟨H0, G0, G, os, γ, st, p.step k1 fun v H1 G1 a f1 r1 p1 => ⟨H0, G0, G1, os, γ, st.ext f1, by
    cases e : ml γ with
    | no => rw [e] at p1; exact p1
    | ex x => rw [e] at p1; exact p1
    | ok l =>
      rw [e] at p1
      refine fun H2 G2 f2 => ⟨H0, G0, G2, os, γ, (st.ext f1).ext f2, ?_⟩
      have p2 := Post.ext p1 f2
      cases e2 : mh γ with
      | no => rw [e2] at p2; exact p2
      | ex x => rw [e2] at p2; exact p2
      | ok h =>
        rw [e2] at p2
        exact fun H3 G3 f3 => hs f3.gh (k1.stay r1 (f2.trans f3)) (Post.ext p2 f3)⟩⟩
theorem m_slL [Rep α] {K : PySem.W.Frag} {W : WX} {σ : L2.St} {B H G : Hp} {x : V} {a : List α} {l h : Option Int} {Q : VK} (gh : SameL G H) (hx : (kB (wd := F.wd)).rel B H G x a) (p : Post W (kO (wd := F.wd)) σ H G Q (.ok (cutI a l h))) : rSlL K x l h H Q := by
  obtain ⟨q, o, e1, e2, vs, e3, e4, r⟩ := hx
  subst e1; subst e3
  refine ⟨q, vs, rfl, .of e2, fun d nd => p _ _ _ (Fr.alloc gh nd) ⟨d, _, rfl, nd, gh.free nd, upd_same, _, rfl, ?_, ?_⟩⟩
  · exact Nat.le_trans (cutV_length vs l h) e4
  · unfold cutV cutI
    rw [r.len]
    exact (r.drop _).take _
theorem e_slL [Rep α] {lo hi : Option Expr} {m : Ctx.T c → Rs (List α)} {ml mh : Ctx.T c → Rs (Option Int)} {p2 : Pos} (he : PE X e (tX F kB c m)) (hl : PO X lo (tP F c ml)) (hu : PO X hi (tP F c mh)) :
    PE X (.Subscript e (.Slice lo hi none p2) pos) (tX F kO c fun γ => (m γ).bind fun x => (ml γ).bind fun l => (mh γ).bind fun h => .ok (cutI x l h)) :=
  e_sl sl_list (fun gh hx p => m_slL gh hx p) he hl hu
theorem m_slS {W : WX} {σ : L2.St} {B H G : Hp} {x : V} {a : Str} {l h : Option Int} {Q : VK} (gh : SameL G H) (hx : (kF (wd := F.wd)).rel B H G x a) (p : Post W (kF (wd := F.wd)) σ H G Q (.ok (cutS a l h))) : rSlS x l h H Q :=
  ⟨a, hx.1, hx.2.len, p H G _ (Fr.refl gh) ⟨rfl, hx.2.cut l h⟩⟩
theorem e_slS {lo hi : Option Expr} {m : Ctx.T c → Rs Str} {ml mh : Ctx.T c → Rs (Option Int)} {p2 : Pos} (he : PE X e (tX F kF c m)) (hl : PO X lo (tP F c ml)) (hu : PO X hi (tP F c mh)) :
    PE X (.Subscript e (.Slice lo hi none p2) pos) (tX F kF c fun γ => (m γ).bind fun x => (ml γ).bind fun l => (mh γ).bind fun h => .ok (cutS x l h)) :=
  e_sl sl_str (fun gh hx p => m_slS gh hx p) he hl hu
end
/-! ### further operations -/
omit [TabT] in
def catI {α : Type} (xs ys : List α) : Rs (List α) := if xs.length + ys.length ≤ 16777216 then .ok (xs ++ ys) else .no
omit [TabT] in
def repI {α : Type} (xs : List α) (k : Int) : Rs (List α) := if k < 9223372036854775808 ∧ -9223372036854775808 ≤ k ∧ xs.length * k.toNat ≤ 16777216 then .ok (List.replicate k.toNat xs).flatten else .no
omit [TabT] in
def catS (a b : Str) : Rs Str := if a.length + b.length ≤ 16777216 then .ok (a ++ b) else .no
omit [TabT] in
def joinS (a : Str) (xs : List Str) : Rs Str := if (xs.map (·.length)).sum + xs.length * a.length ≤ 16777216 ∧ SOk (Txt.join a xs) then .ok (Txt.join a xs) else .no
omit [TabT] in
def maxI (xs : List Int) : Rs Int := match xs.max? with | some m => .ok m | none => .no
omit [TabT] in
def minI (xs : List Int) : Rs Int := match xs.min? with | some m => .ok m | none => .no
omit [TabT] in
def inS (a z : Str) : Rs Bool := match oneCp a with | some c => .ok (decide (c ∈ z.cps.toList)) | none => .no
omit [TabT] in
def notInS (a z : Str) : Rs Bool := match oneCp a with | some c => .ok (!decide (c ∈ z.cps.toList)) | none => .no
section
variable {wd : Wd} {K : PySem.W.Frag} {α β : Type}
omit [TabT] in
theorem reps.rep_flat [Rep α] {G : Hp} {vs : List V} {as : List α} (r : reps wd G vs as) : ∀ k : Nat, reps wd G (List.replicate k vs).flatten (List.replicate k as).flatten
  | 0 => trivial
  | k + 1 => by
    rw [List.replicate_succ, List.replicate_succ, List.flatten_cons, List.flatten_cons]
    exact r.app (reps.rep_flat r k)
theorem m_cat [Rep α] : Sem2 (wd := wd) kB kB kO rCat (fun (a b : List α) => catI a b) := by
  intro W σ B1 B2 H G x y a b Q gh ⟨q, o, e1, e2, vs, e3, e4, r⟩ ⟨q', o', d1, d2, ws, d3, d4, r'⟩ p
  subst e1; subst e3; subst d1; subst d3
  have p' : Post W kO σ H G Q (catI a b) := p
  unfold catI at p'
  by_cases h : a.length + b.length ≤ 16777216
  · rw [if_pos h] at p'
    have hz : vs.length + ws.length ≤ sizeLine := by rw [r.len, r'.len, sizeLine_eq]; exact h
    exact ⟨q, q', vs, ws, rfl, rfl, e2, d2, hz, fun d nd => p' _ _ _ (Fr.alloc gh nd) ⟨d, _, rfl, nd, gh.free nd, upd_same, _, rfl, by rw [List.length_append]; exact hz, r.app r'⟩⟩
  · rw [if_neg h] at p'
    exact p'.elim
theorem m_rep [Rep α] : Sem2 (wd := wd) kB kF kO rRep (fun (a : List α) (k : Int) => repI a k) := by
  intro W σ B1 B2 H G x y a k Q gh ⟨q, o, e1, e2, vs, e3, e4, r⟩ hy p
  subst e1; subst e3
  have p' : Post W kO σ H G Q (repI a k) := p
  unfold repI at p'
  by_cases h : k < 9223372036854775808 ∧ -9223372036854775808 ≤ k ∧ a.length * k.toNat ≤ 16777216
  · rw [if_pos h] at p'
    have hz : vs.length * k.toNat ≤ sizeLine := by rw [r.len, sizeLine_eq]; exact h.2.2
    refine ⟨q, k, vs, rfl, hy, e2, by omega, by omega, hz, fun d nd => p' _ _ _ (Fr.alloc gh nd) ⟨d, _, rfl, nd, gh.free nd, upd_same, _, rfl, ?_, r.rep_flat k.toNat⟩⟩
    rw [List.length_flatten, List.map_replicate, List.sum_replicate_nat, Nat.mul_comm]
    exact hz
  · rw [if_neg h] at p'
    exact p'.elim
theorem m_catS : Sem2 (wd := wd) kF kF kF (fun x y H Q => ∃ i j : Str, x = .str i ∧ y = .str j ∧ i.length + j.length ≤ sizeLine ∧ Q (.str (i ++ j)) H) (fun (a b : Str) => catS a b) := by
  intro W σ B1 B2 H G x y a b Q gh hx hy p
  have p' : Post W kF σ H G Q (catS a b) := p
  unfold catS at p'
  by_cases h : a.length + b.length ≤ 16777216
  · rw [if_pos h] at p'
    exact ⟨a, b, hx.1, hy.1, by rw [sizeLine_eq]; exact h, p' H G _ (Fr.refl gh) ⟨rfl, hx.2.app hy.2 h⟩⟩
  · rw [if_neg h] at p'
    exact p'.elim
theorem m_max : Sem1 (wd := wd) kB kF (fun x => rMax K [x]) maxI := by
  intro W σ B H G x a Q gh ⟨q, o, e1, e2, vs, e3, e4, r⟩ p
  subst e1; subst e3
  unfold maxI at p
  cases e : a.max? with
  | none => rw [e] at p; exact p.elim
  | some m =>
    rw [e] at p
    obtain ⟨h1, h2⟩ := List.max?_eq_some_iff.mp e
    refine ⟨q, a, rfl, ?_, ?_, fun m' h3 h4 => ?_⟩
    · rw [← r.ints]; exact .of e2
    · cases a with
      | nil => cases h1
      | cons _ _ => exact Nat.succ_pos _
    · have : m' = m := Int.le_antisymm (h2 m' h3) (h4 m h1)
      rw [this]
      exact p H G _ (Fr.refl gh) rfl
theorem m_min : Sem1 (wd := wd) kB kF (fun x => rMin K [x]) minI := by
  intro W σ B H G x a Q gh ⟨q, o, e1, e2, vs, e3, e4, r⟩ p
  subst e1; subst e3
  unfold minI at p
  cases e : a.min? with
  | none => rw [e] at p; exact p.elim
  | some m =>
    rw [e] at p
    obtain ⟨h1, h2⟩ := List.min?_eq_some_iff.mp e
    refine ⟨q, a, rfl, ?_, ?_, fun m' h3 h4 => ?_⟩
    · rw [← r.ints]; exact .of e2
    · cases a with
      | nil => cases h1
      | cons _ _ => exact Nat.succ_pos _
    · have : m' = m := Int.le_antisymm (h4 m h1) (h2 m' h3)
      rw [this]
      exact p H G _ (Fr.refl gh) rfl
theorem m_sum : Sem1 (wd := wd) kB kF (fun x => rSum K [x]) (fun (a : List Int) => .ok a.sum) := by
  intro W σ B H G x a Q gh ⟨q, o, e1, e2, vs, e3, e4, r⟩ p
  subst e1; subst e3
  exact ⟨q, a, rfl, by rw [← r.ints]; exact .of e2, p H G _ (Fr.refl gh) rfl⟩
theorem m_list [Rep α] : Sem1 (wd := wd) kB kO (fun x => (fun xs H Q => ∃ p ys, xs = [V.ref p] ∧ (SqL K H p ys ∨ SqT K H p ys) ∧ ∀ l, H l = none → Q (.ref l) (upd H l (.lst ys)) : List V → Hp → VK → Prop) [x]) (fun (a : List α) => .ok a) := by
  intro W σ B H G x a Q gh ⟨q, o, e1, e2, vs, e3, e4, r⟩ p
  subst e1; subst e3
  exact ⟨q, vs, rfl, .inl (.of e2), fun d nd => p _ _ _ (Fr.alloc gh nd) ⟨d, _, rfl, nd, gh.free nd, upd_same, _, rfl, e4, r⟩⟩
theorem m_listT [Rep α] : Sem1 (wd := wd) kF kO (fun x => (fun xs H Q => ∃ p ys, xs = [V.ref p] ∧ (SqL K H p ys ∨ SqT K H p ys) ∧ ∀ l, H l = none → Q (.ref l) (upd H l (.lst ys)) : List V → Hp → VK → Prop) [x]) (fun (a : Tup α) => .ok a.items) := by
  intro W σ B H G x a Q gh ⟨q, o, e1, e2, vs, e3, e4, r⟩ p
  subst e1; subst e3
  exact ⟨q, vs, rfl, .inr (.of (gh.v e2)), fun d nd => p _ _ _ (Fr.alloc gh nd) ⟨d, _, rfl, nd, gh.free nd, upd_same, _, rfl, e4, r⟩⟩
theorem m_tuple [Rep α] : Sem1 (wd := wd) kB kF (fun x => (fun xs H Q => ∃ p ys, xs = [V.ref p] ∧ ((SqL K H p ys ∧ ∀ l, H l = none → Q (.ref l) (upd H l (.tup ys))) ∨ (SqT K H p ys ∧ Q (.ref p) H)) : List V → Hp → VK → Prop) [x]) (fun (a : List α) => .ok (Tup.mk a)) := by
  intro W σ B H G x a Q gh ⟨q, o, e1, e2, vs, e3, e4, r⟩ p
  subst e1; subst e3
  exact ⟨q, vs, rfl, .inl ⟨.of e2, fun d nd => p _ _ _ ((Fr.alloc gh nd).freeze nd (gh.free nd) upd_same) ⟨d, _, rfl, upd_same, _, rfl, e4, r.mono (Same.upd' (Same.refl _) (gh.free nd))⟩⟩⟩
theorem m_notin : Sem2 (wd := wd) kF kF kF (fun x y H Q => ∃ (c : Nat) (z : Str), x = .str ⟨#[c]⟩ ∧ y = .str z ∧ Q (.bl (!decide (c ∈ z.cps.toList))) H) notInS := by
  intro W σ B1 B2 H G x y a b Q gh hx hy p
  unfold notInS at p
  cases e : oneCp a with
  | none => rw [e] at p; exact p.elim
  | some ch =>
    rw [e] at p
    exact ⟨ch, b, by rw [hx.1, oneCp_eq e], hy.1, p H G _ (Fr.refl gh) rfl⟩
omit [TabT] in
theorem flat_ints : ∀ as : List Int, (as.map V.int).all flatV = true
  | [] => rfl
  | _ :: as => flat_ints as
omit [TabT] in
theorem inV_ints (a : Int) : ∀ as : List Int, inV (.int a) (as.map V.int) = decide (a ∈ as)
  | [] => rfl
  | b :: as => by
    show ((b == a) || inV (.int a) (as.map V.int)) = _
    rw [inV_ints a as, Bool.beq_eq_decide_eq]
    by_cases h : b = a
    · rw [decide_eq_true h, decide_eq_true (show a ∈ b :: as by rw [← h]; exact List.mem_cons_self)]; rfl
    · rw [decide_eq_false h]
      by_cases h2 : a ∈ as
      · rw [decide_eq_true h2, decide_eq_true (List.mem_cons_of_mem _ h2)]; rfl
      · rw [decide_eq_false h2, decide_eq_false fun z => (List.mem_cons.mp z).elim (fun q => h q.symm) h2]; rfl
theorem m_niI : Sem2 (wd := wd) kF kB kF (rIn K true) (fun (a : Int) (as : List Int) => .ok (!decide (a ∈ as))) := by
  intro W σ B1 B2 H G x y a as Q gh hx ⟨q, o, e1, e2, vs, e3, e4, r⟩ p
  subst e1; subst e3
  rw [r.ints] at e2
  rw [show x = .int a from hx]
  refine ⟨q, _, rfl, .inl (.of e2), rfl, flat_ints as, ?_⟩
  show Q (.bl (!inV _ _)) H
  rw [inV_ints]
  exact p H G _ (Fr.refl gh) rfl
end
section
variable {X : Cx} {F : Fx} {c : Ctx} {α : Type} {e : Expr} {pos : Pos}
omit [TabT] in
omit [TabT] in
/-- list(range(..)) -/
def RngL (lo hi : Int) : Rs (List Int) := if -4611686018427387904 ≤ lo ∧ lo ≤ 4611686018427387903 ∧ -4611686018427387904 ≤ hi ∧ hi ≤ 4611686018427387903 ∧ (hi - lo).toNat ≤ 16777216 then .ok (rng lo hi) else .no
omit [TabT] in
theorem rgV_rng (a b : Int) : rgV a b = (rng a b).map V.int := by
  unfold rgV rng
  rw [List.map_map]
  rfl
theorem e_listR1 {a : Expr} {ma : Ctx.T c → Rs Int} {p p2 pos2 : Pos} (hc : X.calm = true) (hl : X.mg "list" = none) (hm : X.mg "range" = none) (ha : PE X a (tX F kF c ma)) (hgl : Gl X "list" := by rfl) (hg : Gl X "range" := by rfl)
    (na : starEach [a] X.env = (false, eval a X.env) :: starEach [] X.env := by rfl) (ne : starEach [.Call (.Name "range" p2) [a] [] pos2] X.env = (false, eval (.Call (.Name "range" p2) [a] [] pos2) X.env) :: starEach [] X.env := by rfl) :
    PE X (.Call (.Name "list" p) [.Call (.Name "range" p2) [a] [] pos2] [] pos) (tX F kO c fun γ => (ma γ).bind fun y => RngL 0 y) :=
  pe_mono (pe_listRg hc hgl hl (prg_1 hg hm ha na) ne) fun σ H Q ⟨H0, G0, G, os, γ, st, p⟩ => ⟨H0, G0, G, os, γ, st, p.step kF fun v H1 G1 y f1 r1 p1 => by
    unfold RngL at p1
    by_cases hz : -4611686018427387904 ≤ (0 : Int) ∧ (0 : Int) ≤ 4611686018427387903 ∧ -4611686018427387904 ≤ y ∧ y ≤ 4611686018427387903 ∧ (y - 0).toNat ≤ 16777216
    · rw [if_pos hz] at p1
      refine ⟨y, r1, ⟨by omega, by omega, by omega, by omega, by omega⟩, fun d nd => p1 _ _ _ (Fr.alloc f1.gh nd) ⟨d, _, rfl, nd, f1.gh.free nd, upd_same, _, rfl, by rw [rgV_length, sizeLine_eq]; exact hz.2.2.2.2, ?_⟩⟩
      rw [rgV_rng]
      exact reps.of_ints
    · rw [if_neg hz] at p1
      exact p1.elim⟩
/-! ### built-ins -/
omit [TabT] in
theorem bt_len : bootBuiltins "len" = some (.builtin "len") := by decide +kernel
omit [TabT] in
theorem bt_max : bootBuiltins "max" = some (.builtin "max") := by decide +kernel
omit [TabT] in
theorem bt_min : bootBuiltins "min" = some (.builtin "min") := by decide +kernel
omit [TabT] in
theorem bt_sum : bootBuiltins "sum" = some (.builtin "sum") := by decide +kernel
omit [TabT] in
theorem bt_int : bootBuiltins "int" = some (.type "int") := by decide +kernel
omit [TabT] in
theorem bt_bool : bootBuiltins "bool" = some (.type "bool") := by decide +kernel
omit [TabT] in
theorem bt_str : bootBuiltins "str" = some (.type "str") := by decide +kernel
omit [TabT] in
theorem bt_list : bootBuiltins "list" = some (.type "list") := by decide +kernel
omit [TabT] in
theorem bt_tuple : bootBuiltins "tuple" = some (.type "tuple") := by decide +kernel
omit [TabT] in
theorem bt_dict : bootBuiltins "dict" = some (.type "dict") := by decide +kernel
/-! ### isinstance -/
theorem e_isi {k : Kd F.wd α} {m : Ctx.T c → Rs α} {t : α → Value} {b : α → Bool} {x y : Str} {u : Value} {cv : V} {p p2 : Pos} (hm : X.mg x = none) (ha : PE X e (tX F k c m)) (hc : PE X (.Name y p2) (tC cv)) (hu : ClsV cv u) (ht : ∀ {B H G v a}, SameL G H → k.rel B H G v a → TyX X.K H v (t a)) (hb : ∀ a, PySem.W.kitOne X.K (t a) u = some (b a)) (hx : x = "isinstance" := by rfl) (hg : Gl X x := by rfl) (hv : bootBuiltins x = some (.builtin "isinstance") := by decide +kernel) (hn : x ≠ "__name__" := by decide) (hdb : (x == ("__debug__" : Str)) = false := by decide)
    (he : starEach (e :: .Name y p2 :: []) X.env = (false, eval e X.env) :: starEach (.Name y p2 :: []) X.env := by rfl) (he2 : starEach (.Name y p2 :: []) X.env = (false, eval (.Name y p2) X.env) :: starEach [] X.env := by rfl) (hpl : (backTo pos (starEach (.Name y p2 :: []) X.env)).any (·.1) = false := by rfl) :
    PE X (.Call (.Name x p) [e, .Name y p2] [] pos) (tX F kF c fun γ => (m γ).bind fun a => .ok (b a)) :=
  pe_mono (pe_callB call_isi hg hm hv (pa_cons ha (pa_cons hc pa_nil he2) he) hn hdb he hpl) fun σ H Q ⟨H0, G0, G, os, γ, st, p⟩ => ⟨H0, G0, G, os, γ, st, p.step k fun v H1 G1 a f1 r1 p1 =>
    ⟨v, cv, t a, u, b a, rfl, hu, ht f1.gh r1, hb a, p1 _ _ _ (Fr.refl f1.gh) rfl⟩⟩
theorem ty_bool {wd : Wd} {K : PySem.W.Frag} {B H G : Hp} {v : V} {a : Bool} (_ : SameL G H) (h : (kF (wd := wd)).rel B H G v a) : TyX K H v (.type "bool") := by rw [show v = .bl a from h]; exact .base (.bl a)
theorem ty_str {wd : Wd} {K : PySem.W.Frag} {B H G : Hp} {v : V} {a : Str} (_ : SameL G H) (h : (kF (wd := wd)).rel B H G v a) : TyX K H v (.type "str") := by rw [show v = .str a from h.1]; exact .base (.str a)
end
end Wm
set_option Elab.async false
set_option linter.all false
set_option maxRecDepth 100000
set_option maxHeartbeats 4000000
namespace Wm
open PySem PySem.Spec PyProof.Rows L2
local instance : TabT := ⟨[]⟩
/-! ### plain laws of the mirrors' words -/
section
variable {α β γ ρ : Type}
/-- not a rfl-law: simp then builds its proof by congruence, and the kernel never unfolds a Rng -/
theorem Rs.bo (a : α) (f : α → Rs β) : (Rs.ok a).bind f = f a := Eq.trans (Eq.refl _) (Eq.refl _)
theorem fold_inv {f : γ → α → Rs γ} {xs : List α} {g : γ} (I : Nat → γ → Prop) (h0 : I 0 g) (hs : ∀ i a g, xs[i]? = some a → I i g → ∃ g', f g a = .ok g' ∧ I (i + 1) g') : ∃ g', Rs.fold f g xs = .ok g' ∧ I xs.length g' := by
  induction xs generalizing g I with
  | nil => exact ⟨g, rfl, h0⟩
  | cons x xs ih =>
    obtain ⟨g1, e1, i1⟩ := hs 0 x g rfl h0
    obtain ⟨g2, e2, i2⟩ := ih (fun i g => I (i + 1) g) i1 fun i a g ha hi => hs (i + 1) a g ha hi
    exact ⟨g2, by show (f g x).bind _ = _; rw [e1]; exact e2, i2⟩
/-- a loop that looks for the first item at which it returns -/
theorem foldR_find {f : γ → α → Rs (γ ⊕ ρ)} {xs : List α} {g : γ} {p : α → Bool} {r : α → ρ} (ht : ∀ x ∈ xs, p x = true → f g x = .ok (.inr (r x))) (hf : ∀ x ∈ xs, p x = false → f g x = .ok (.inl g)) :
    Rs.foldR f g xs = .ok (match xs.find? p with | some x => .inr (r x) | none => .inl g) := by
  induction xs with
  | nil => rfl
  | cons x xs ih =>
    simp only [Rs.foldR]
    cases e : p x with
    | true => rw [ht x List.mem_cons_self e, List.find?_cons_of_pos e]; rfl
    | false =>
      rw [hf x List.mem_cons_self e, List.find?_cons_of_neg (by rw [e]; exact Bool.false_ne_true)]
      exact ih (fun y hy => ht y (List.mem_cons_of_mem _ hy)) fun y hy => hf y (List.mem_cons_of_mem _ hy)
theorem comp_map {t : α → Rs Bool} {f : α → Rs β} {g : α → β} : ∀ {xs : List α}, (∀ x ∈ xs, t x = .ok true) → (∀ x ∈ xs, f x = .ok (g x)) → Rs.comp t f xs = .ok (xs.map g)
  | [], _, _ => rfl
  | x :: xs, ht, hf => by
    simp only [Rs.comp]
    rw [ht x List.mem_cons_self, hf x List.mem_cons_self, comp_map (fun y hy => ht y (List.mem_cons_of_mem _ hy)) fun y hy => hf y (List.mem_cons_of_mem _ hy)]
    rfl
theorem comp_filter {t : α → Rs Bool} {f : α → Rs β} {p : α → Bool} {g : α → β} : ∀ {xs : List α}, (∀ x ∈ xs, t x = .ok (p x)) → (∀ x ∈ xs, p x = true → f x = .ok (g x)) → Rs.comp t f xs = .ok ((xs.filter p).map g)
  | [], _, _ => rfl
  | x :: xs, ht, hf => by
    have ih := comp_filter (xs := xs) (fun y hy => ht y (List.mem_cons_of_mem _ hy)) fun y hy => hf y (List.mem_cons_of_mem _ hy)
    simp only [Rs.comp]
    rw [ht x List.mem_cons_self]
    cases e : p x with
    | true => rw [hf x List.mem_cons_self e, ih, List.filter_cons_of_pos e]; rfl
    | false => rw [List.filter_cons_of_neg (by rw [e]; exact Bool.false_ne_true)]; exact ih
theorem comp_ex {t : α → Rs Bool} {f : α → Rs β} (P : Nat → β → Prop) : ∀ {xs : List α} (ht : ∀ x ∈ xs, t x = .ok true) (hf : ∀ i x, xs[i]? = some x → ∃ y, f x = .ok y ∧ P i y), ∃ ys, Rs.comp t f xs = .ok ys ∧ ys.length = xs.length ∧ ∀ i y, ys[i]? = some y → P i y
  | [], _, _ => ⟨[], rfl, rfl, fun i y h => by simp at h⟩
  | x :: xs, ht, hf => by
    obtain ⟨y, e, hy⟩ := hf 0 x rfl
    obtain ⟨ys, e2, l, h⟩ := comp_ex (fun i => P (i + 1)) (xs := xs) (fun z hz => ht z (List.mem_cons_of_mem _ hz)) fun i z hz => hf (i + 1) z hz
    refine ⟨y :: ys, ?_, congrArg (· + 1) l, fun i z hz => ?_⟩
    · simp only [Rs.comp]
      rw [ht x List.mem_cons_self, e, e2]
      rfl
    · cases i with
      | zero => cases hz; exact hy
      | succ i => exact h i z hz
theorem ixN_nat {n i : Nat} (h : i < n) : ixN n (i : Int) = some i := by
  unfold ixN
  rw [if_pos (by omega), if_pos (by omega)]
  simp
theorem getI_nat {xs : List α} {i : Nat} {a : α} (h : xs[i]? = some a) : getI xs (i : Int) = .ok a := by
  unfold getI
  rw [atI_nat h]
theorem getI_int {xs : List α} {k : Int} {a : α} (h0 : 0 ≤ k) (h : xs[k.toNat]? = some a) : getI xs k = .ok a := by
  have : k = ((k.toNat : Nat) : Int) := by omega
  rw [this]
  exact getI_nat h
theorem getI_ex {xs : List α} {k : Int} (h0 : 0 ≤ k) (h : k < xs.length) : ∃ a, xs[k.toNat]? = some a ∧ getI xs k = .ok a :=
  ⟨xs[k.toNat]'(by omega), List.getElem?_eq_getElem (by omega), getI_int h0 (List.getElem?_eq_getElem (by omega))⟩
theorem setI_nat {xs : List α} {i : Nat} {a : α} (h : i < xs.length) : setI xs (i : Int) a = .ok (xs.set i a) := by
  unfold setI
  rw [ixN_nat h]
theorem appI_ok {xs : List α} {a : α} (h : xs.length < 16777216) : appI xs a = .ok (xs ++ [a]) := if_pos h
theorem catI_ok {xs ys : List α} (h : xs.length + ys.length ≤ 16777216) : catI xs ys = .ok (xs ++ ys) := if_pos h
theorem repI_ok {xs : List α} {k : Int} (h0 : 0 ≤ k) (h1 : k ≤ 16777216) (h : xs.length * k.toNat ≤ 16777216) : repI xs k = .ok (List.replicate k.toNat xs).flatten := if_pos ⟨by omega, by omega, h⟩
theorem repI_one {a : α} {k : Int} (h0 : 0 ≤ k) (h1 : k ≤ 16777216) : repI [a] k = .ok (List.replicate k.toNat a) := by
  rw [repI_ok h0 h1 (by show 1 * k.toNat ≤ _; omega)]
  congr 1
  induction k.toNat with
  | zero => rfl
  | succ n ih => rw [List.replicate_succ, List.replicate_succ, List.flatten_cons, ih]; rfl
theorem Rng_ok {lo hi : Int} (h0 : -4611686018427387904 ≤ lo) (h1 : lo ≤ 4611686018427387903) (h2 : -4611686018427387904 ≤ hi) (h3 : hi ≤ 4611686018427387903) : Rng lo hi = .ok (rng lo hi) := if_pos ⟨h0, h1, h2, h3⟩
theorem Rng_nat {n : Nat} (h : n ≤ 16777216) : Rng 0 (n : Int) = .ok (rng 0 n) := Rng_ok (by decide) (by decide) (by omega) (by omega)
theorem RngL_ok {lo hi : Int} (h0 : -4611686018427387904 ≤ lo) (h1 : lo ≤ 4611686018427387903) (h2 : -4611686018427387904 ≤ hi) (h3 : hi ≤ 4611686018427387903) (h : (hi - lo).toNat ≤ 16777216) : RngL lo hi = .ok (rng lo hi) := if_pos ⟨h0, h1, h2, h3, h⟩
theorem rng0_len (n : Nat) : (rng 0 (n : Int)).length = n := by rw [rng_len]; omega
theorem rng_at {lo hi : Int} {i : Nat} (h : i < (hi - lo).toNat) : (rng lo hi)[i]? = some (lo + i) := by
  unfold rng
  rw [List.getElem?_map, List.getElem?_range h]
  rfl
theorem mem_rng {lo hi a : Int} : a ∈ rng lo hi ↔ lo ≤ a ∧ a < hi := by
  unfold rng
  rw [List.mem_map]
  constructor
  · rintro ⟨i, hi', rfl⟩
    rw [List.mem_range] at hi'
    omega
  · rintro ⟨h1, h2⟩
    exact ⟨(a - lo).toNat, by rw [List.mem_range]; omega, by omega⟩
theorem CMul_l {i j : Int} (h0 : -1000000000000 ≤ i) (h1 : i ≤ 1000000000000) : CMul i j := .inl ⟨by omega, by omega⟩
theorem CMul_r {i j : Int} (h0 : -1000000000000 ≤ j) (h1 : j ≤ 1000000000000) : CMul i j := .inr ⟨by omega, by omega⟩
theorem CDiv_of {i j : Int} (h0 : 0 < j) (h1 : j < 1000000000) : CDiv i j := ⟨h0, by omega⟩
theorem chars_get {z : Str} {i : Nat} {c : Nat} (h : z.cps.toList[i]? = some c) : (chars z)[i]? = some ⟨#[c]⟩ := by
  unfold chars
  rw [List.getElem?_map, h]
  rfl
theorem chars_len (z : Str) : (chars z).length = z.length := by unfold chars; rw [List.length_map, Str.len_toList]
theorem leftG_inl {δ : Type} {r : Rs (γ ⊕ ρ)} {g : γ} {f : γ → Rs (δ ⊕ ρ)} (h : r = .ok (.inl g)) : Rs.leftG r f = f g := by rw [h]; rfl
theorem Str.ext' {a b : Str} (h : a.cps.toList = b.cps.toList) : a = b := by
  obtain ⟨x⟩ := a
  obtain ⟨y⟩ := b
  congr 1
  exact Array.ext' h
theorem app_list (a b : Str) : (a ++ b).cps.toList = a.cps.toList ++ b.cps.toList := by
  show (a.cps ++ b.cps).toList = _
  exact Array.toList_append
theorem app_len (a b : Str) : (a ++ b).length = a.length + b.length := by
  rw [Str.len_toList, Str.len_toList, Str.len_toList, app_list, List.length_append]
/-- one sign each -/
def One (x : Str) : Prop := ∃ c : Nat, x = ⟨#[c]⟩ ∧ c < 1114112
theorem catS_ok {a b : Str} (h : a.length + b.length ≤ 16777216) : catS a b = .ok (a ++ b) := if_pos h
theorem foldR_test {f : γ → α → Rs (γ ⊕ ρ)} {xs : List α} {g : γ} (p : α → Bool) {r : ρ} (h : ∀ x ∈ xs, f g x = .ok (if p x = true then .inr r else .inl g)) :
    Rs.foldR f g xs = .ok (if xs.any p = true then .inr r else .inl g) := by
  induction xs with
  | nil => rfl
  | cons x xs ih =>
    simp only [Rs.foldR]
    rw [h x List.mem_cons_self]
    cases e : p x with
    | true => simp [Rs.bind, e]
    | false => simpa [Rs.bind, e] using ih fun y hy => h y (List.mem_cons_of_mem _ hy)
/-- is some sign of x missing in z? -/
def misses (z : Str) (x : Str) : Bool := match oneCp x with | some c => !decide (c ∈ z.cps.toList) | none => false
theorem misses_chars {t z x : Str} (h : x ∈ chars t) : notInS x z = .ok (misses z x) := by
  unfold chars at h
  rw [List.mem_map] at h
  obtain ⟨c, hc, rfl⟩ := h
  rfl
theorem left_if {b : Bool} {r : ρ} {g : γ} {f : γ → Rs ρ} : Rs.left (.ok (if b = true then .inr r else .inl g)) f = if b = true then .ok r else f g := by cases b <;> rfl
theorem ok_if {b : Bool} {x y : α} : (if b = true then Rs.ok x else Rs.ok y) = Rs.ok (if b = true then x else y) := by cases b <;> rfl
end
end Wm
set_option Elab.async false
set_option linter.all false
set_option maxRecDepth 100000
set_option maxHeartbeats 4000000
namespace Wm
open PySem PySem.Spec PyProof.Rows L2
open Rep (rep)
open Own (own)
variable [TabT]
/-! ### none, or an object of one's own -/
def kQ {wd : Wd} {β : Type} [Own β] : Kd wd (Option β) :=
  ⟨fun B H G v b => match b with | none => v = .non | some b => ∃ p o, v = .ref p ∧ B p = none ∧ G p = none ∧ H p = some o ∧ own wd G o b,
   fun {B H G H' G' v a} h f => by
     cases a with
     | none => exact h
     | some b =>
       obtain ⟨p, o, e, n, g, h, w⟩ := h
       exact ⟨p, o, e, n, f.out h g, f.h.get h (Own.pl w), Own.mono f.g w⟩,
   fun {B B' H G v a} s h => by
     cases a with
     | none => exact h
     | some b =>
       obtain ⟨p, o, e, n, g, h, w⟩ := h
       exact ⟨p, o, e, s.free n, g, h, w⟩⟩
def kN {wd : Wd} {β : Type} [Own β] : Kd wd (Option β) :=
  ⟨fun _ H G v b => match b with | none => v = .non | some b => ∃ p o, v = .ref p ∧ H p = some o ∧ own wd G o b,
   fun {B H G H' G' v a} h f => by
     cases a with
     | none => exact h
     | some b =>
       obtain ⟨p, o, e, h, w⟩ := h
       exact ⟨p, o, e, f.h.get h (Own.pl w), Own.mono f.g w⟩,
   fun _ h => h⟩
omit [TabT] in
def theI {α : Type} (o : Option α) : Rs α := match o with | some a => .ok a | none => .no
section
variable {X : Cx} {F : Fx} {c c' : Ctx} {α β ρ : Type} {e : Expr} {pos : Pos}
theorem e_narF [Rep α] {m : Ctx.T c → Rs (Option α)} (h : PE X e (tX F kF c m)) : PE X e (tX F kF c fun γ => (m γ).bind theI) :=
  pe_mono h fun σ H Q ⟨H0, G0, G, os, γ, st, p⟩ => ⟨H0, G0, G, os, γ, st, p.step kF fun v H1 G1 a fr ra p1 => by
    cases a with
    | none => exact p1.elim
    | some b => exact p1 H1 G1 v (Fr.refl fr.gh) ra⟩
end
section
variable {X : Cx} {F : Fx} {c c' c1 : Ctx} {ρ : Type} {kr : Kd F.wd ρ} {sts : List Stmt}
end
end Wm
set_option Elab.async false
set_option linter.all false
set_option maxRecDepth 100000
set_option maxHeartbeats 4000000
namespace Wm
open PySem PySem.Spec PyProof.Rows L2
local instance : TabT := ⟨[]⟩
/-! ### more plain laws -/
section
variable {α β γ ρ : Type}
theorem theI_some (a : α) : theI (some a) = .ok a := rfl
theorem cutI_take {xs : List α} {k : Int} (h : 0 ≤ k) : cutI xs none (some k) = xs.take k.toNat := by
  unfold cutI
  have : k = ((k.toNat : Nat) : Int) := by omega
  rw [this, HT.sIx_nat, HT.sIx_none, List.drop_zero, Nat.sub_zero, Int.toNat_natCast]
  rcases Nat.le_total k.toNat xs.length with h1 | h1
  · rw [Nat.min_eq_left h1]
  · rw [Nat.min_eq_right h1, List.take_of_length_le (Nat.le_refl _), List.take_of_length_le h1]
theorem minI_two (a b : Int) : minI [a, b] = .ok (min a b) := by
  unfold minI
  rw [show [a, b].min? = some (min a b) from rfl]
/-- sums of the first ones -/
def pre (xs : List Int) (k : Nat) : Int := (xs.take k).sum
/-! ### signs, names -/
abbrev LET : Str := ("abcdefghijklmnopqrstuvwxyz0123456789" : Str)
/-- only the signs of a record -/
def Sg (t : Str) : Prop := ∀ c ∈ t.cps.toList, c ∈ LET.cps.toList
theorem Sg.app {a b : Str} (h : Sg a) (k : Sg b) : Sg (a ++ b) := fun c hc => by
  rw [app_list] at hc
  rcases List.mem_append.mp hc with z | z
  · exact h c z
  · exact k c z
theorem Sg.cut {a : Str} (h : Sg a) (lo hi : Option Int) : Sg (cutS a lo hi) := fun c hc => by
  unfold cutS at hc
  have hc' : c ∈ (List.toArray _).toList := hc
  rw [List.toList_toArray] at hc'
  exact h c (List.mem_of_mem_drop (List.mem_of_mem_take hc'))
theorem one_len (c : Nat) : (⟨#[c]⟩ : Str).length = 1 := rfl
theorem let_get {k : Int} (h0 : 0 ≤ k) (h1 : k < 36) : ∃ y, getI (chars LET) k = .ok y ∧ y.length = 1 ∧ Sg y := by
  obtain ⟨y, e, h'⟩ := getI_ex (xs := chars LET) h0 (by rw [chars_len]; exact h1)
  have hy := List.mem_of_getElem? e
  unfold chars at hy
  obtain ⟨c, hc, rfl⟩ := List.mem_map.mp hy
  exact ⟨_, h', rfl, fun d hd => by
    have : d = c := by simpa using hd
    rw [this]; exact hc⟩
theorem cut_to {a : Str} {k : Int} (h0 : 0 ≤ k) : (cutS a none (some k)).length ≤ k.toNat := by
  rw [Str.len_toList]
  unfold cutS
  show (List.toArray _).toList.length ≤ _
  have : k = ((k.toNat : Nat) : Int) := by omega
  rw [List.toList_toArray, List.length_take, this, HT.sIx_nat, HT.sIx_none]
  omega
/-- a record's text -/
structure IsRec (t : Str) : Prop where
  sg : Sg t
  lo : 1 ≤ t.length
  hi : t.length ≤ 8
theorem rep_get {xs : List α} : ∀ (n i : Nat), i < n * xs.length → ((List.replicate n xs).flatten)[i]? = xs[i % xs.length]?
  | 0, i, h => by omega
  | n + 1, i, h => by
    rw [List.replicate_succ, List.flatten_cons]
    by_cases hi : i < xs.length
    · rw [List.getElem?_append_left hi, Nat.mod_eq_of_lt hi]
    · rw [List.getElem?_append_right (by omega), rep_get n (i - xs.length) (by rw [Nat.add_mul] at h; omega), ← Nat.mod_eq_sub_mod (by omega)]
theorem rep_mem {xs : List α} {n : Nat} {a : α} (h : a ∈ (List.replicate n xs).flatten) : a ∈ xs := by
  obtain ⟨l, hl, ha⟩ := List.mem_flatten.mp h
  rw [(List.mem_replicate.mp hl).2] at ha
  exact ha
theorem rep_flen {xs : List α} (n : Nat) : ((List.replicate n xs).flatten).length = n * xs.length := by
  induction n with
  | zero => simp
  | succ n ih => rw [List.replicate_succ, List.flatten_cons, List.length_append, ih, Nat.add_mul]; omega
theorem getI_at {xs : List α} {k : Int} {i : Nat} {a : α} (hk : k = (i : Int)) (h : xs[i]? = some a) : getI xs k = .ok a := by rw [hk]; exact getI_nat h
/-- step by step: what is known behind the first part -/
theorem Rs.exb {r : Rs α} {f : α → Rs β} {P : β → Prop} (Q : α → Prop) (h : ∃ a, r = .ok a ∧ Q a) (k : ∀ a, Q a → ∃ b, f a = .ok b ∧ P b) : ∃ b, r.bind f = .ok b ∧ P b := by
  obtain ⟨a, rfl, q⟩ := h
  exact k a q
theorem Rs.exi {b : Bool} {x y : Rs α} {P : α → Prop} (h1 : b = true → ∃ a, x = .ok a ∧ P a) (h2 : b = false → ∃ a, y = .ok a ∧ P a) : ∃ a, (if b = true then x else y) = .ok a ∧ P a := by
  cases b with
  | true => exact h1 rfl
  | false => exact h2 rfl
theorem maxI_spec {xs : List Int} {m : Int} : maxI xs = .ok m ↔ m ∈ xs ∧ ∀ x ∈ xs, x ≤ m := by
  unfold maxI
  cases e : xs.max? with
  | none =>
    rw [List.max?_eq_none_iff] at e
    subst e
    simp
  | some a =>
    have h := List.max?_eq_some_iff.mp e
    constructor
    · intro h2; cases h2; exact h
    · rintro ⟨h1, h2⟩
      have q1 : m ≤ a := h.2 m h1
      have q2 : a ≤ m := h2 a h.1
      have q : a = m := by omega
      rw [q]
theorem maxI_ok {xs : List Int} (h : xs ≠ []) : ∃ m, maxI xs = .ok m ∧ m ∈ xs ∧ ∀ x ∈ xs, x ≤ m := by
  cases e : maxI xs with
  | ok m => exact ⟨m, rfl, maxI_spec.mp e⟩
  | no =>
    unfold maxI at e
    cases e2 : xs.max? with
    | none => exact absurd (List.max?_eq_none_iff.mp e2) h
    | some a => rw [e2] at e; cases e
  | ex x =>
    unfold maxI at e
    cases e2 : xs.max? with
    | none => exact absurd (List.max?_eq_none_iff.mp e2) h
    | some a => rw [e2] at e; cases e
/-- how many are below x -/
def below (s : List Int) (x : Int) : Int := ((s.filter fun y => decide (y < x)).length : Int)
/-- the low end of s, with a top t -/
structure IsFt (s : List Int) (t m : Int) : Prop where
  here : m = t - below s t ∨ ∃ x ∈ s, m = x - below s x
  top : t - below s t ≤ m
  all : ∀ x ∈ s, x - below s x ≤ m
/-- what stands at the places that are not set aside -/
def spareL (L X : List Int) : List Int := ((rng 0 (L.length : Int)).filter fun k => !decide (k ∈ X)).map fun k => L.getD k.toNat 0
theorem spareL_len (L X : List Int) : (spareL L X).length ≤ L.length := by
  unfold spareL
  rw [List.length_map]
  exact Nat.le_trans (List.length_filter_le _ _) (by rw [rng0_len]; exact Nat.le_refl _)
theorem getD_at {L : List Int} {k : Int} (h0 : 0 ≤ k) (h1 : k < L.length) : getI L k = .ok (L.getD k.toNat 0) := by
  obtain ⟨a, e, h⟩ := getI_ex h0 h1
  rw [h, List.getD_eq_getElem?_getD, e]
  rfl
end
end Wm
set_option Elab.async false
set_option linter.all false
set_option maxRecDepth 100000
set_option maxHeartbeats 4000000
namespace Wm
open PySem PySem.Spec PyProof.Rows L2
open Rep (rep)
open Own (own)
variable [TabT]
/-! ### own classes: calls of a method, making, where what is raised is wished for at the caller's slots -/
section
variable {X : Cx} {CX : CXT} {k : Nat} {f C : Addr} {fd : FuncData} {ps : List Str} {sp : Sp} {E : L2.St → XK} {x m : Str} {p pos apos : Pos} {e o : Expr} {es : List Expr} {ta : TE} {t : TA}
omit [TabT] in
def tMethW (C : Addr) (m : Str) (sp : Sp) (E : L2.St → XK) (ta : TE) (t : TA) : TE := fun σ H Q => ta σ H fun x H1 => ∃ a dx fs, x = .ref a ∧ H1 a = some (.ins C dx fs) ∧ fs.lookup m = none ∧ t σ H1 fun vs H2 => sp (x :: vs) H2 Q (E σ)
omit [TabT] in
theorem pe_methW {pl : Sem Bool} (he : PE X o ta) (c : Cls X.K C) (hm : Meth X.K C m f) (Fn : FnOk X.prog X.w X.K X.mg X.base CX k f fd ps sp) (room : Room k X.A) (hb : Binds X.K fd ps []) (hx : ∀ σ, PassesAt CX X σ (E σ)) (ha : PA X (e :: es) t)
    (hst : starEach (e :: es) X.env = (false, eval e X.env) :: starEach es X.env := by rfl) (hpl : (backTo pos (starEach es X.env)).any (·.1) = false := by rfl)
    (ht : eval (.Call (.Attribute o m apos) (e :: es) [] pos) X.env = (do let ov ← eval o X.env; standAt apos.atName; let (f, first) ← holding [ov] (getMethod ov m pl); callWith pos f first (backTo pos (starEach (e :: es) X.env)) (backToKw pos (keywordEach [] X.env))) := by rfl) :
    PE X (.Call (.Attribute o m apos) (e :: es) [] pos) (tMethW C m sp E ta t) := ⟨fun pins s σ H Q I h => by
  refine PySem.W.methodCall_KW (pl := pl) (thn (he.run pins s σ H _ I h) fun u s1 ⟨y, H1, I1, ry, a, dx, fs, ey, ea, l, q⟩ => ?_) ht
  subst ey; obtain rfl : u = Value.ref a := ry
  refine getmeth_ok I1 ea c hm l (PySem.W.callWith_K (first := [.ref a]) (h₀ := X.base) I1.ok.mod.kin hm.kp (thn (ha.run pos pins s1 σ H1 _ I1 q) fun us s2 ⟨vs, H2, I2, r, q2⟩ => ⟨I2.kIn, ?_⟩) hst hpl)
  exact run_fnSD (us := .ref a :: us) (vs := .ref a :: vs) (dvs := []) (ds := []) Fn room hb .nil (hx σ) I2 (.cons rfl r) (by rw [List.append_nil]; exact q2)⟩
omit [TabT] in
theorem pe_methW0 {pl : Sem Bool} (he : PE X o ta) (c : Cls X.K C) (hm : Meth X.K C m f) (Fn : FnOk X.prog X.w X.K X.mg X.base CX k f fd ps sp) (room : Room k X.A) (hb : Binds X.K fd ps []) (hx : ∀ σ, PassesAt CX X σ (E σ))
    (ht : eval (.Call (.Attribute o m apos) [] [] pos) X.env = (do let ov ← eval o X.env; standAt apos.atName; let (f, first) ← holding [ov] (getMethod ov m pl); callWith pos f first (backTo pos (starEach [] X.env)) (backToKw pos (keywordEach [] X.env))) := by rfl) :
    PE X (.Call (.Attribute o m apos) [] [] pos) (tMethW C m sp E ta tNil) := ⟨fun pins s σ H Q I h => by
  refine PySem.W.methodCall_KW (pl := pl) (thn (he.run pins s σ H _ I h) fun u s1 ⟨y, H1, I1, ry, a, dx, fs, ey, ea, l, q⟩ => ?_) ht
  subst ey; obtain rfl : u = Value.ref a := ry
  exact getmeth_ok I1 ea c hm l (PySem.W.callWith_K0 (first := [.ref a]) I1.kIn hm.kp (run_fnSD (us := [.ref a]) (vs := [.ref a]) (dvs := []) (ds := []) Fn room hb .nil (hx σ) I1 (.cons rfl .nil) q))⟩
omit [TabT] in
def tMakeW (C : Addr) (sp : Sp) (E : L2.St → XK) (t : TA) : TE := fun σ H Q => t σ H fun vs H1 => ∀ x dx, H1 x = none → H1 dx = none → dx ≠ x →
  sp (.ref x :: vs) (upd (upd H1 dx (.own x)) x (.ins C dx [])) (fun v H2 => v = .non ∧ Q (.ref x) H2) (E σ)
omit [TabT] in
theorem run_makeW {pins : List (Addr × Obj)} {σ : L2.St} {H : Hp} {s : Shared} {Q : VK} {us : List Value} {vs : List V} {E : XK} (M : Mk X.K C f) (Fn : FnOk X.prog X.w X.K X.mg X.base CX k f fd ps sp) (room : Room (k + 1) X.A) (hb : Binds X.K fd ps [])
    (hx : PassesAt CX X σ E) (I : Inv X pins σ H s) (r : Vals vs us) (h : ∀ x dx, H x = none → H dx = none → dx ≠ x → sp (.ref x :: vs) (upd (upd H dx (.own x)) x (.ins C dx [])) (fun v H2 => v = .non ∧ Q (.ref x) H2) E) :
    wpAny (model X.prog X.w) X.A (call (.ref C) us) (EP X pins σ Q) X.xe s := by
  have hq := h (s.heap.objs.size + 1) s.heap.objs.size (I.hok.fresh (Nat.le_succ _)) (I.hok.fresh (Nat.le_refl _)) (Nat.ne_of_lt (Nat.lt_succ_self _))
  have I2 := Inv.made (C := C) I
  have r2 : Vals (V.ref (s.heap.objs.size + 1) :: vs) (Value.ref (s.heap.objs.size + 1) :: us) := .cons rfl r
  have hl : (Value.ref (s.heap.objs.size + 1) :: us ++ []).length = ps.length := by rw [List.append_nil, ← r2.length]; exact Fn.len _ _ _ _ hq
  have bd := hb _ (Value.ref (s.heap.objs.size + 1) :: us) I2.kIn hl
  rw [List.append_nil] at bd
  refine wpAny_call (make_map (f := f) I.kIn M.makes M.init (beq_iff_eq.mp M.fn) (codeAny_mono (Fn.run _ X.stack _ _ ⟨Value.ref (s.heap.objs.size + 1) :: us, []⟩ _ _ _ E (room.make C us []) (I2.env0.make C us []) bd r2 hq) fun r s' hq' => ?_))
  match r, hq' with
  | .error e, hq' => exact hx pins _ _ e s' I2 hq'
  | .ok (.ret u), hq' =>
    obtain ⟨v, H', I3, rv, ev, q3⟩ := I2.after hq'
    subst ev; exact ⟨rv, ⟨V.ref (s.heap.objs.size + 1), H', I3, rfl, q3⟩⟩
omit [TabT] in
theorem pe_makeW (M : Mk X.K C f) (Fn : FnOk X.prog X.w X.K X.mg X.base CX k f fd ps sp) (room : Room (k + 1) X.A) (hg : Gl X x) (hm : X.mg x = some (.ref C)) (hb : Binds X.K fd ps []) (hx : ∀ σ, PassesAt CX X σ (E σ)) (ha : PA X (e :: es) t) (hdb : (x == ("__debug__" : Str)) = false := by decide)
    (he : starEach (e :: es) X.env = (false, eval e X.env) :: starEach es X.env := by rfl) (hpl : (backTo pos (starEach es X.env)).any (·.1) = false := by rfl) : PE X (.Call (.Name x p) (e :: es) [] pos) (tMakeW C sp E t) := ⟨fun pins s σ H Q I h => by
  refine wpAny_Call_Name_kw (ld_glob I hg hm ?_ hdb)
  exact PySem.W.callWith_K (h₀ := X.base) I.ok.mod.kin M.kp (thn (ha.run pos pins s σ H _ I h) fun us s1 ⟨vs, H1, I1, r, q⟩ => ⟨I1.kIn, run_makeW M Fn room hb (hx σ) I1 r q⟩) he hpl⟩
end
/-! ### objects of an own class -/
/-- the objects that stand for b are instances of the class C with these attributes -/
structure IsIns (C : String) (β : Type) [Own β] (fl : List Str) : Prop where
  ins : ∀ {wd G o} {b : β}, own wd G o b → ∃ dx fs, o = .ins (wd.cm C) dx fs ∧ fs.map (·.1) = fl
omit [TabT] in
theorem lookup_no {fs : List (Str × V)} {fl : List Str} {m : Str} (h : fs.map (·.1) = fl) (n : fl.contains m = false) : fs.lookup m = none := by
  subst h
  induction fs with
  | nil => rfl
  | cons p fs ih =>
    obtain ⟨a, v⟩ := p
    rw [List.map_cons, List.contains_cons, Bool.or_eq_false_iff] at n
    rw [List.lookup_cons, n.1]
    exact ih n.2
section
variable {X : Cx} {F : Fx} {c : Ctx} {α β ρ : Type} {e o : Expr} {es : List Expr} {pos apos : Pos}
/-- an attribute is read -/
theorem e_fld [Own β] [Rep α] {C : String} {a : Addr} {f : Str} {g : β → α} {m : Ctx.T c → Rs β} (hC : F.wd.cm C = a) (hc : Cls X.K a) (hn : NoAttr X.K a f) (hf : ∀ {wd G o} {b : β}, own wd G o b → ∃ dx fs v, o = .ins (wd.cm C) dx fs ∧ fs.lookup f = some v ∧ rep wd G v (g b))
    (h : PE X e (tX F kB c m)) (hb : attributeBase e f X.env (eval e X.env) = eval e X.env := by rfl) : PE X (.Attribute e f pos) (tX F kF c fun γ => (m γ).bind fun b => .ok (g b)) :=
  pe_mono (pe_fld h hb) fun σ H Q ⟨H0, G0, G, os, γ, st, p⟩ => ⟨H0, G0, G, os, γ, st, p.step kB fun v H1 G1 b f1 ⟨q, o, e1, e2, e3⟩ p1 => by
    obtain ⟨dx, fs, u, e4, e5, e6⟩ := hf e3
    subst e4; subst hC
    exact ⟨q, _, dx, fs, u, e1, e2, hc, hn, e5, p1 _ _ _ (Fr.refl f1.gh) e6⟩⟩
theorem e_meth0 [Own β] {C : String} {fl : List Str} {a f : Addr} {m : Str} {fd : FuncData} {ps : List Str} {k : Nat} {kr : Kd F.wd ρ} {mf : Ctx.T [.bo 0 β] → Rs ρ} {mo : Ctx.T c → Rs β} {pl : Sem Bool} (Ii : IsIns C β fl) (hC : F.wd.cm C = a) (hc : Cls X.K a) (hm : Meth X.K a m f) (hnl : fl.contains m = false) (tk : L2N.Takes X F.W)
    (Fn : FnOk X.prog X.w X.K X.mg X.base (L2N.CX X.prog X.w) k f fd ps (spF F.wd kr [.bo 0 β] mf)) (hr : Room k X.A) (hb : Binds X.K fd ps []) (he : PE X o (tX F kB c mo))
    (ht : eval (.Call (.Attribute o m apos) [] [] pos) X.env = (do let ov ← eval o X.env; standAt apos.atName; let (f, first) ← holding [ov] (getMethod ov m pl); callWith pos f first (backTo pos (starEach [] X.env)) (backToKw pos (keywordEach [] X.env))) := by rfl) :
    PE X (.Call (.Attribute o m apos) [] [] pos) (tX F kr c fun γ => (mo γ).bind fun s => mf (s, ())) :=
  pe_mono (pe_methW0 (pl := pl) he hc hm Fn hr hb (fun σ => L2N.passAt tk σ) ht) fun σ H Q ⟨H0, G0, G, os, γ, st, p⟩ => ⟨H0, G0, G, os, γ, st, p.step kB fun v H1 G1 b f1 ⟨q, o, e1, e2, e3⟩ p1 => by
    obtain ⟨dx, fs, e4, e5⟩ := Ii.ins e3
    subst hC
    refine ⟨q, dx, fs, e1, by rw [e2, e4], lookup_no e5 hnl, rfl, G1, (b, ()), f1.gh, f1.tb (st.f.tb st.t), ⟨q, o, [], by rw [e1], rfl, e2, e3, rfl⟩, ?_⟩
    cases em : mf (b, ()) with
    | no => rw [em] at p1; exact p1
    | ex z => rw [em] at p1; exact p1
    | ok z => rw [em] at p1; exact p1⟩
end
/-! ### making -/
/-- an object under way: no attribute yet -/
structure Ini (C : String) where
omit [TabT] in
instance {C : String} : Own (Ini C) where
  own := fun wd _ o _ => ∃ dx, o = .ins (wd.cm C) dx []
  pl := fun ⟨_, e⟩ => by subst e; exact Pl.ins
  mono := fun _ h => h
def spI (wd : Wd) {β : Type} [Own β] (C : String) (Γ : Ctx) (m : Ctx.T Γ → Rs β) : Sp := fun vs H Q E => ∃ x dx vs' H1 G γ, vs = .ref x :: vs' ∧ vs'.length = Γ.length ∧ H = upd (upd H1 dx (.own x)) x (.ins (wd.cm C) dx []) ∧ H1 x = none ∧ H1 dx = none ∧ dx ≠ x ∧ SameL G H1 ∧ LamX.Tabs TabT.T H1 ∧ RA wd H1 G 1 Γ γ vs' ∧
  match m γ with
  | .ok b => ∀ H' G' o, Fr H1 G H' G' → H' x = some o → G' x = none → own wd G' o b → Q .non H'
  | .ex z => ∀ d H' G', Fr H1 G H' G' → RepX G' d z → E (.ref (wd.cm z.cls)) d H'
  | .no => False
section
variable {X : Cx} {F : Fx} {c : Ctx} {α β ρ : Type} {e o : Expr} {es : List Expr} {pos apos p : Pos}
theorem e_make [Own β] {C : String} {a f : Addr} {x : Str} {fd : FuncData} {ps : List Str} {k : Nat} {Γ : Ctx} {mf : Ctx.T Γ → Rs β} {ma : Ctx.T c → Rs (Ctx.T Γ)} (hC : F.wd.cm C = a) (M : Mk X.K a f) (tk : L2N.Takes X F.W)
    (Fn : FnOk X.prog X.w X.K X.mg X.base (L2N.CX X.prog X.w) k f fd ps (spI F.wd C Γ mf)) (hr : Room (k + 1) X.A) (hm : X.mg x = some (.ref a)) (hb : Binds X.K fd ps []) (ha : PA X (e :: es) (tA F c 1 Γ ma)) (hg : Gl X x := by rfl) (hdb : (x == ("__debug__" : Str)) = false := by decide)
    (he : starEach (e :: es) X.env = (false, eval e X.env) :: starEach es X.env := by rfl) (hpl : (backTo pos (starEach es X.env)).any (·.1) = false := by rfl) : PE X (.Call (.Name x p) (e :: es) [] pos) (tX F kO c fun γ => (ma γ).bind mf) :=
  pe_mono (pe_makeW M Fn hr hg hm hb (fun σ => L2N.passAt tk σ) ha hdb he hpl) fun σ H Q h => tM_postT h fun vs H1 G1 g gh tb r p x dx hx hdx hne => by
    subst hC
    refine ⟨x, dx, vs, H1, G1, g, rfl, r.len, rfl, hx, hdx, hne, gh, tb, r, ?_⟩
    cases em : mf g with
    | no => rw [em] at p; exact p
    | ex z => rw [em] at p; exact p
    | ok z => rw [em] at p; exact fun H' G' o f1 h1 h2 w => ⟨rfl, p H' G' _ f1 ⟨x, o, rfl, hx, h2, h1, w⟩⟩
/-- an attribute of self is stored -/
theorem s_fld [Own α] [Own β] [Rep ρ] {C : String} {a y : Addr} {f x : Str} {p1 p2 : Pos} {put : α → ρ → β} {m : Ctx.T (.sf 0 α y :: c) → Rs ρ} (hC : F.wd.cm C = a) (hc : Cls X.K a) (hn : NoAttr X.K a f)
    (hp : ∀ {wd G o} {b : α} {v} {z : ρ}, own wd G o b → rep wd G v z → ∃ dx fs, o = .ins (wd.cm C) dx fs ∧ fs.length < 1000 ∧ own wd G (.ins (wd.cm C) dx (putF f v fs)) (put b z))
    (h : PE X e (tX F kF (.sf 0 α y :: c) m)) (hN : X.N[0]? = some x := by rfl) (hv : Vis X.env.scope x := by first | exact Or.inl rfl | exact Or.inr (Or.inl rfl) | exact Or.inr (Or.inr rfl)) (hd : (x == ("__debug__" : Str)) = false := by decide) (hcd : (x == ("__classdict__" : Str)) = false := by decide)
    (hs : swapsWith e (some (.Attribute (.Name x p1) f p2)) pos.line X.env = pure false := by rfl) : PS X (.Assign [.Attribute (.Name x p1) f p2] e pos) (tS F (.sf 0 α y :: c) (.sf 0 β y :: c) fun γ => (m γ).bind fun z => .ok (put γ.1 z, γ.2)) :=
  ps_mono (ps_fld (pe_var hN hv hd hcd) h hs) fun D σ H ⟨H0, G0, G, os, γ, st, p⟩ => ⟨H0, G0, G, os, γ, st, p.step st kF fun v H1 G1 z f1 r1 p1 => by
    have st1 := st.ext f1
    obtain ⟨o, os', e0, h1, h2, h3, h4⟩ := st1.r
    obtain ⟨dx, fs, e4, e5, e6⟩ := hp h3 r1
    subst hC
    refine ⟨.ref y, h1, y, _, dx, fs, rfl, by rw [h2, e4], hc, hn, e5, ?_⟩
    have fry := st1.fr y (by rw [e0]; exact List.mem_cons_self)
    exact p1 _ _ _ os ⟨st1.len, ⟨Same.upd' st1.f.h fry.2, st1.f.g, fun a u q => by rw [upd_ne (ne_of_none q fry.1)]; exact st1.f.gh a u q, st1.f.new, fun t => tabs_upd (st1.f.tb t) h2 (Own.pl h3)⟩, st1.nd, st1.fr, R.remake st1.nd st1.r e6, st1.t⟩⟩
end
section
variable {P : Program} {w : World} {K : PySem.W.Frag} {mg : Str → Option Value} {base : Heap}
theorem fn_okI {wd : Wd} {β : Type} [Own β] {C : String} {Γ : Ctx} {m : Ctx.T (.ow 0 (Ini C) :: Γ) → Rs (Ctx.T [.ow 0 β])} {x qual : Str} {st : Stmt} {f : Addr} {fd : FuncData} {N ps : List Str} {k : Nat} (F : Fun K x qual st f fd) (S : FnScope N ps (defScope st)) (hl : Γ.length + 1 = ps.length)
    (body : ∀ (y : Addr) (cdv : Value) (A : Around) (outer : List Env) (s : Shared) (H : Hp) (E : XK), Room k (A.deeper (envOfC qual (defScope st) s.heap.objs.size f cdv)) →
      PSs (cxOf (L2N.CX P w) P w K mg base N qual (defScope st) f cdv A outer s H E) (defBody st) (tS ⟨wd, Sl.all N.length, fun cls d _ H => E cls d H⟩ (.sf 0 (Ini C) y :: Γ) [.sf 0 β y] m)) : FnOk P w K mg base (L2N.CX P w) (k + 1) f fd ps (spI wd C Γ fun γ => (m (⟨⟩, γ)).bind fun g => .ok g.1) := by
  have hpl : ps.length ≤ N.length := by have := congrArg List.length S.pre; rw [List.length_take] at this; omega
  refine okN F S (fun vs H Q E h => ?_) (fun cdv A outer s H vs Q E hr h => ?_)
  · obtain ⟨x, dx, vs', H1, G, γ, e, l, _⟩ := h
    rw [e, List.length_cons, l]; exact hl
  · obtain ⟨y, dx, vs', H1, G, γ, rfl, l, rfl, hy, hdx, hne, gh, tb, ra, p⟩ := h
    have f0 : Fr H1 G (upd H1 dx (.own y)) G := Fr.alloc gh hdx
    have hy' : upd H1 dx (.own y) y = none := by rw [upd_ne (Ne.symm hne)]; exact hy
    have f1 : Fr (upd H1 dx (.own y)) G (upd (upd H1 dx (.own y)) y (.ins (wd.cm C) dx [])) G := Fr.alloc f0.gh hy'
    refine ⟨_, body y cdv A outer s _ E hr, upd H1 dx (.own y), G, G, [y], (⟨⟩, γ), ⟨?_, f1, (by simp), fun q hq => ?_, ?_, tabs_new tb hdx⟩, ?_⟩
    · refine ⟨?_, trivial⟩
      show _ = N.length
      unfold L2.start
      rw [List.length_append, List.length_map, List.length_replicate]
      rw [List.length_cons] at *
      omega
    · rw [List.mem_singleton.mp hq]
      exact ⟨gh.free hy, hy'⟩
    · have r0 := RA.r (H := upd H1 dx (.own y)) (σ := L2.start N (V.ref y :: vs')) (fun k v e => by
        have := start_get (N := N) (vs := V.ref y :: vs') (k := k + 1) (v := v) e
        rwa [Nat.zero_add, Nat.add_comm k 1] at this) (ra.ext f0.h (Same.refl G))
      exact ⟨_, [], rfl, by have := start_get (N := N) (vs := V.ref y :: vs') (k := 0) (v := V.ref y) rfl; exact this, upd_same, ⟨dx, rfl⟩, r0.mono (Same.refl G) fun q hq => by cases hq⟩
    · dsimp only at p
      cases e : m (⟨⟩, γ) with
      | no => rw [e] at p; exact p
      | ex z => rw [e] at p; exact fun d σ H' G' _ s1 r1 => p d H' G' (f0.trans s1) r1
      | ok g =>
        rw [e] at p
        exact fun σ' H' G' os st => by
          obtain ⟨o, os', e0, h1, h2, h3, h4⟩ := st.r
          exact p H' G' o (f0.trans st.f) h2 (st.fr y (by rw [e0]; exact List.mem_cons_self)).1 h3
end
/-! ### the Sheaf -/
omit [TabT] in
theorem ins_sheaf : IsIns "Sheaf" Sheaf ["_rows"] := ⟨fun {wd G o b} h => by
  obtain ⟨dx, v, e, _⟩ := h
  exact ⟨dx, _, e, rfl⟩⟩
omit [TabT] in
theorem fld_rows {wd : Wd} {G : Hp} {o : HO} {b : Sheaf} (h : own wd G o b) : ∃ dx fs v, o = .ins (wd.cm "Sheaf") dx fs ∧ fs.lookup ("_rows" : Str) = some v ∧ rep wd G v b.rows := by
  obtain ⟨dx, v, e, r⟩ := h
  exact ⟨dx, _, v, e, rfl, r⟩
omit [TabT] in
theorem put_rows {wd : Wd} {G : Hp} {o : HO} {b : Ini "Sheaf"} {v : V} {z : Tup (Int × Str)} (h : own wd G o b) (r : rep wd G v z) : ∃ dx fs, o = .ins (wd.cm "Sheaf") dx fs ∧ fs.length < 1000 ∧ own wd G (.ins (wd.cm "Sheaf") dx (putF ("_rows" : Str) v fs)) (Sheaf.mk z) := by
  obtain ⟨dx, e⟩ := h
  exact ⟨dx, [], e, by decide, dx, v, rfl, r⟩
/-! ### lists: backwards, without the first such item -/
omit [TabT] in
def remI (xs : List Int) (a : Int) : Rs (List Int) := match xs.findIdx? (fun x => x == a) with
  | some j => .ok (xs.eraseIdx j)
  | none => .no
section
variable {X : Cx} {F : Fx} {c : Ctx} {α : Type} {e : Expr}
end
/-! ### == of an own class -/
section
variable {X : Cx} {CX : CXT} {n : Nat} {f C : Addr} {fd : FuncData} {ps : List Str} {sp : Sp}
omit [TabT] in
def rEqW (C : Addr) (sp : Sp) : R2 := fun x y H Q => ∃ a b dx dy fs gs, x = .ref a ∧ y = .ref b ∧ H a = some (.ins C dx fs) ∧ H b = some (.ins C dy gs) ∧ sp [.ref a, .ref b] H (fun v H' => ∃ r, v = .bl r ∧ Q v H') fun _ _ _ => False
omit [TabT] in
theorem op_eqW (Fn : FnOk X.prog X.w X.K X.mg X.base (L2N.CX X.prog X.w) n f fd ps sp) (hs : PySem.W.findIn X.K (.ref C) "__eq__" = some (some (.ref f))) (hf : PySem.W.isFn X.K (.ref f) = true) (room : Room n X.A) (hb : Binds X.K fd ps []) : OpR X (compareOp .Eq) (rEqW C sp) := by
  intro pins s σ H x y v u Q I rx ry hq
  obtain ⟨a, b, dx, dy, fs, gs, rfl, rfl, ha, hb', hsp⟩ := hq
  cases rx; cases ry
  obtain ⟨mA, J, _⟩ := ins_get I.hok ha
  obtain ⟨mB, J', _⟩ := ins_get I.hok hb'
  obtain ⟨od, J, _⟩ := J.look
  obtain ⟨od', J', _⟩ := J'.look
  obtain ⟨m, hF⟩ := I.fr
  show wpAny (model X.prog X.w) X.A (richCompare .Eq (.ref a) (.ref b)) (EP X pins σ Q) X.xe s
  refine PySem.W.cmp_K (op := .Eq) (tb := .ref C) room.units0 hF I.ok.mod.kin J J'.type (by simp [PySem.W.notFirst]) hs hf ?_
  refine wpAny_mono (run_fnSD (us := [.ref a, .ref b]) (vs := [.ref a, .ref b]) (dvs := []) (ds := []) (E := fun _ _ _ _ => False) Fn room hb .nil (fun pins H s e s' I z => by
    obtain ⟨_, _, _, _, _, _, _, _, _, _, _, _, z⟩ := z
    exact z.elim) I (.cons rfl (.cons rfl .nil)) hsp) (fun r s' z => ?_) fun _ _ x => x
  obtain ⟨v, H', I', rv, r', ev, q⟩ := z
  subst ev
  cases rv
  exact ⟨.bl r', H', I', rfl, q⟩
theorem m_eqW {wd : Wd} {β : Type} [Own β] {Cn : String} {fl : List Str} {mf : Ctx.T [.bo 0 β, .bo 1 β] → Rs Bool} (Ii : IsIns Cn β fl) (hC : wd.cm Cn = C) : Sem2T (wd := wd) kB kB kF (rEqW C (spF wd (kF (α := Bool)) [.bo 0 β, .bo 1 β] mf)) fun a b => (mf (a, b, ())).nox := by
  intro W σ B1 B2 H G x y a b Q tb gh hx hy p
  obtain ⟨q, o, e1, e2, e3⟩ := hx
  obtain ⟨q', o', d1, d2, d3⟩ := hy
  obtain ⟨dx, fs, e4, e5⟩ := Ii.ins e3
  obtain ⟨dy, gs, d4, d5⟩ := Ii.ins d3
  subst hC
  refine ⟨q, q', dx, dy, fs, gs, e1, d1, by rw [e2, e4], by rw [d2, d4], rfl, G, (a, b, ()), gh, tb, ⟨q, o, _, rfl, rfl, e2, e3, q', o', _, rfl, rfl, d2, d3, rfl⟩, ?_⟩
  dsimp only at p
  cases em : mf (a, b, ()) with
  | no => rw [em] at p; exact p
  | ex z => rw [em] at p; exact p.elim
  | ok r =>
    rw [em] at p
    exact fun H' G' v f1 r1 => ⟨r, r1, p H' G' v f1 r1⟩
structure IsiC (K : PySem.W.Frag) (C : Addr) : Prop where
  cl : Cls K C
  ha : PySem.W.findIn K (.ref C) "__class__" = some (some (.builtin "object.__class__"))
  hn : PySem.W.specialIn K (.builtin "object.__class__") "__get__" = some (some (.builtin "getset_descriptor.__get__"))
  ht : PySem.W.takesIn K (.builtin "object.__class__") = some true
  hm : PySem.W.mroIn K C (.type "object") = some true
theorem ty_insB {wd : Wd} {K : PySem.W.Frag} {β : Type} [Own β] {Cn : String} {fl : List Str} {B H G : Hp} {v : V} {a : β} (Ii : IsIns Cn β fl) (hC : wd.cm Cn = C) (Is : IsiC K C) (_ : SameL G H) (h : (kB (wd := wd)).rel B H G v a) : TyX K H v (.ref C) := by
  obtain ⟨q, o, e1, e2, e3⟩ := h
  obtain ⟨dx, fs, e4, e5⟩ := Ii.ins e3
  subst hC
  subst e1
  exact .base (.ins (dx := dx) (fs := fs) (by rw [e2, e4]) Is.cl Is.ha Is.hn Is.ht Is.hm)
omit [TabT] in
theorem kit_self {K : PySem.W.Frag} : PySem.W.kitOne K (.ref C) (.ref C) = some true := by
  unfold PySem.W.kitOne
  exact if_pos (beq_self_eq_true _)
/-- the class itself, by its name -/
theorem e_cls {x : Str} {pos : Pos} (hg : Gl X x) (hm : X.mg x = some (.ref C)) (hd : (x == ("__debug__" : Str)) = false := by decide) : PE X (.Name x pos) (tC (.ref C)) := pe_glob hg hm (v := .ref C) rfl hd
end
/-! ### len of an own class -/
section
variable {X : Cx} {n : Nat} {f C : Addr} {fd : FuncData} {ps : List Str} {sp : Sp}
omit [TabT] in
def rLenW (C : Addr) (sp : Sp) : List V → Hp → VK → Prop := fun xs H Q => ∃ a dx fs, xs = [.ref a] ∧ H a = some (.ins C dx fs) ∧ sp [.ref a] H (fun v H' => ∃ i : Int, v = .int i ∧ 0 ≤ i ∧ i < 4611686018427387904 ∧ Q (.int i) H') fun _ _ _ => False
omit [TabT] in
theorem call_lenW (Fn : FnOk X.prog X.w X.K X.mg X.base (L2N.CX X.prog X.w) n f fd ps sp) (hs : PySem.W.findIn X.K (.ref C) "__len__" = some (some (.ref f))) (hf : PySem.W.isFn X.K (.ref f) = true) (room : Room (n + 1) X.A) (hb : Binds X.K fd ps []) : CallR X (.builtin "len") (rLenW C sp) := by
  intro pins s σ H xs us Q I r h
  obtain ⟨a, dx, fs, rfl, ha, hsp⟩ := h
  obtain ⟨u, rfl, rx⟩ := vals1 r
  cases rx
  obtain ⟨mA, J, _⟩ := ins_get I.hok ha
  obtain ⟨od, J, _⟩ := J.look
  obtain ⟨m, hF⟩ := I.fr
  have hl : ([Value.ref a] ++ []).length = ps.length := by rw [← Fn.len _ _ _ _ hsp]; rfl
  have bd := hb s [.ref a] I.kIn hl
  refine PySem.W.len_K hF I.ok.mod.kin J hs hf (wpAny_call (codeAny_mono (Fn.run X.A.in1 X.stack s H ⟨[.ref a], []⟩ [.ref a] [.ref a] _ _ room.in1 I.env0.in1 bd (.cons rfl .nil) hsp) fun r s' hq => ?_))
  match r, hq with
  | .error e, hq =>
    obtain ⟨_, _, _, _, _, _, _, _, _, _, _, _, z⟩ := hq
    exact z.elim
  | .ok (.ret w), hq =>
    obtain ⟨v, H', I3, rv, i, ev, h0, h1, q3⟩ := I.after hq
    subst ev
    obtain ⟨t, rfl⟩ := rv
    exact ⟨⟨h0, by omega⟩, .int i, H', I3.tok _, ⟨_, rfl⟩, q3⟩
theorem m_lenW {wd : Wd} {β : Type} [Own β] {Cn : String} {fl : List Str} {mf : Ctx.T [.bo 0 β] → Rs Int} (Ii : IsIns Cn β fl) (hC : wd.cm Cn = C) : Sem1T (wd := wd) kB kF (fun x => rLenW C (spF wd (kF (α := Int)) [.bo 0 β] mf) [x]) fun a => (mf (a, ())).nox.bind fun i => if 0 ≤ i ∧ i < 4611686018427387904 then .ok i else .no := by
  intro W σ B H G x a Q tb gh hx p
  obtain ⟨q, o, e1, e2, e3⟩ := hx
  obtain ⟨dx, fs, e4, e5⟩ := Ii.ins e3
  subst hC
  refine ⟨q, dx, fs, by rw [e1], by rw [e2, e4], rfl, G, (a, ()), gh, tb, ⟨q, o, _, rfl, rfl, e2, e3, rfl⟩, ?_⟩
  dsimp only at p
  cases em : mf (a, ()) with
  | no => rw [em] at p; exact p
  | ex z => rw [em] at p; exact p.elim
  | ok r =>
    rw [em] at p
    have p2 : Post W (kF (wd := wd)) σ H G Q (if 0 ≤ r ∧ r < 4611686018427387904 then .ok r else .no) := p
    by_cases hr : 0 ≤ r ∧ r < 4611686018427387904
    · rw [if_pos hr] at p2
      exact fun H' G' v f1 r1 => ⟨r, r1, hr.1, hr.2, by
        have z := p2 H' G' v f1 r1
        rw [show v = V.int r from r1] at z
        exact z⟩
    · rw [if_neg hr] at p2
      exact p2.elim
end
end Wm
set_option Elab.async false
set_option linter.all false
set_option maxRecDepth 100000
set_option maxHeartbeats 4000000
namespace Wm
open PySem PySem.Spec PyProof.Rows L2
open Rep (rep)
open Own (own)
variable [TabT]
/-! ### sorted(..) of ints -/
omit [TabT] in
def sortI (xs : List Int) : List Int := xs.mergeSort fun a b => decide (a ≤ b)
omit [TabT] in
theorem sortI_perm (xs : List Int) : (sortI xs).Perm xs := List.mergeSort_perm _ _
omit [TabT] in
theorem sortI_up (xs : List Int) : (sortI xs).Pairwise (· ≤ ·) := by
  have h := List.pairwise_mergeSort (le := fun a b : Int => decide (a ≤ b)) (fun a b c h1 h2 => by simp only [decide_eq_true_eq] at *; omega) (fun a b => by simp only [Bool.or_eq_true, decide_eq_true_eq]; omega) xs
  exact h.imp fun h => of_decide_eq_true h
omit [TabT] in
theorem sortI_is {xs ys : List Int} (p : ys.Perm xs) (u : ys.Pairwise (· ≤ ·)) : ys = sortI xs :=
  List.Perm.eq_of_pairwise (fun a b _ _ h1 h2 => by omega) u (sortI_up xs) (p.trans (sortI_perm xs).symm)
omit [TabT] in
theorem sortI_len (xs : List Int) : (sortI xs).length = xs.length := (sortI_perm xs).length_eq
theorem m_sorted {wd : Wd} {K : PySem.W.Frag} : Sem1 (wd := wd) kB kO (fun x => rSortedI K [x]) (fun (a : List Int) => .ok (sortI a)) := by
  intro W σ B H G x a Q gh ⟨q, o, e1, e2, vs, e3, e4, r⟩ p
  subst e1; subst e3
  refine ⟨q, a, rfl, by rw [← r.ints]; exact .of e2, fun ns' d hp hu nd => ?_⟩
  have e := sortI_is hp hu
  subst e
  exact p _ _ _ (Fr.alloc gh nd) ⟨d, _, rfl, nd, gh.free nd, upd_same, _, rfl, by rw [List.length_map, sortI_len, ← r.len]; exact e4, reps.of_ints⟩
omit [TabT] in
theorem bt_sorted : bootBuiltins "sorted" = some (.builtin "sorted") := by decide +kernel
/-! ### a value's truth as a test -/
section
variable {X : Cx} {F : Fx} {c : Ctx} {α : Type} {e : Expr}
end
/-! ### list.index -/
omit [TabT] in
def idxI (xs : List Int) (a : Int) : Rs Int := match xs.findIdx? (fun x => x == a) with
  | some j => .ok (j : Int)
  | none => .no
section
variable {X : Cx} {F : Fx} {c : Ctx} {e o : Expr}
end
end Wm
set_option Elab.async false
set_option linter.all false
set_option maxRecDepth 100000
set_option maxHeartbeats 4000000
namespace Wm
open PySem PySem.Spec PyProof.Rows L2
open Rep (rep)
open Own (own)
variable [TabT]
/-! ### a last parameter by keyword, with a default -/
omit [TabT] in
def Ctx.snoc {e : Ent} : (c : Ctx) → Ctx.T c → e.T → Ctx.T (c ++ [e])
  | [], _, a => (a, ())
  | _ :: c, g, a => (g.1, Ctx.snoc c g.2 a)
omit [TabT] in
theorem RA.snoc {wd : Wd} {H G : Hp} {α : Type} [Rep α] {v : V} {a : α} : ∀ {j n : Nat} {Γ : Ctx} {g : Ctx.T Γ} {vs : List V}, n = j + Γ.length → RA wd H G j Γ g vs → rep wd G v a → RA wd H G j (Γ ++ [.fz n α]) (Ctx.snoc Γ g a) (vs ++ [v])
  | j, n, [], g, vs, hn, h, r => by
    have e : vs = [] := h
    subst e
    exact ⟨v, [], rfl, hn, r, rfl⟩
  | j, n, @Ent.fz i β _ :: Γ, g, vs, hn, h, r => by
    obtain ⟨w, vs', rfl, e2, e3, h⟩ := h
    exact ⟨w, vs' ++ [v], rfl, e2, e3, RA.snoc (by simp only [List.length_cons] at hn; omega) h r⟩
  | j, n, @Ent.bo i β _ :: Γ, g, vs, hn, h, r => by
    obtain ⟨p, o, vs', rfl, e2, e3, e4, h⟩ := h
    exact ⟨p, o, vs' ++ [v], rfl, e2, e3, e4, RA.snoc (by simp only [List.length_cons] at hn; omega) h r⟩
  | j, n, @Ent.ow i β _ :: Γ, g, vs, hn, h, r => h.elim
  | j, n, @Ent.oo i β _ :: Γ, g, vs, hn, h, r => h.elim
  | j, n, @Ent.sf i β _ x :: Γ, g, vs, hn, h, r => h.elim
  | j, n, @Ent.ot i β t :: Γ, g, vs, hn, h, r => h.elim
section
variable {X : Cx} {F : Fx} {c : Ctx} {α β δ ρ : Type} {e : Expr} {es : List Expr}
theorem sp_snoc [Rep α] {kr : Kd F.wd ρ} {Γ : Ctx} {n : Nat} (hn : n = Γ.length) {d : V} {z : α} (hz : ∀ G, rep F.wd G d z) {m : Ctx.T (Γ ++ [.fz n α]) → Rs ρ} {ma : Ctx.T c → Rs (Ctx.T Γ)} {σ : L2.St} {H : Hp} {Q : VK} (h : tX F kr c (fun γ => (ma γ).bind fun g => m (Ctx.snoc Γ g z)) σ H Q) :
    tA F c 0 Γ ma σ H fun vs H1 => spF F.wd kr (Γ ++ [.fz n α]) m (vs ++ [d]) H1 Q (WE F.W σ) :=
  tM_postT h fun vs H1 G1 g gh tb r p => ⟨(RA.snoc (by rw [Nat.zero_add]; exact hn) r (hz G1)).len, G1, Ctx.snoc Γ g z, gh, tb, RA.snoc (by rw [Nat.zero_add]; exact hn) r (hz G1), by
    cases e : m (Ctx.snoc Γ g z) with
    | no => rw [e] at p; exact p
    | ex x => rw [e] at p; exact p
    | ok z => rw [e] at p; exact p⟩
/-- the default is taken -/
theorem e_callD [Rep α] {kr : Kd F.wd ρ} (Γ : Ctx) {n : Nat} {d : V} {z : α} {m : Ctx.T (Γ ++ [.fz n α]) → Rs ρ} {ma : Ctx.T c → Rs (Ctx.T Γ)} {x : Str} {p pos : Pos} {f : Addr} {fd : FuncData} {ps : List Str} {k : Nat} (tk : L2N.Takes X F.W) (Fn : FnOk X.prog X.w X.K X.mg X.base (L2N.CX X.prog X.w) k f fd ps (spF F.wd kr (Γ ++ [.fz n α]) m)) (hr : Room k X.A) (hm : X.mg x = some (.ref f)) (hk : PySem.W.keepIn X.K (.ref f) = true) (hb : ∃ ds, Vals [d] ds ∧ Binds X.K fd ps ds) (hz : ∀ G, rep F.wd G d z)
    (ha : PA X (e :: es) (tA F c 0 Γ ma)) (hn : n = Γ.length := by rfl) (hg : Gl X x := by rfl) (hdb : (x == ("__debug__" : Str)) = false := by decide) (he : starEach (e :: es) X.env = (false, eval e X.env) :: starEach es X.env := by rfl) (hpl : (backTo pos (starEach es X.env)).any (·.1) = false := by rfl) :
    PE X (.Call (.Name x p) (e :: es) [] pos) (tX F kr c fun γ => (ma γ).bind fun g => m (Ctx.snoc Γ g z)) := by
  obtain ⟨ds, hv, hb⟩ := hb
  exact pe_mono (pe_callSD (dvs := [d]) Fn hr hg hm hk hb hv (fun σ => L2N.passAt tk σ) ha hdb he hpl) fun σ H Q h => sp_snoc hn hz h
/-- it is given by its name -/
theorem a_kw1 [Rep α] {nm : Option Str} {kpos : Pos} {m : Ctx.T c → Rs α} (h : PE X e (tX F kF c m)) : PK X [⟨nm, e, kpos⟩] (tM F (fun _ G vs a => ∃ v, vs = [v] ∧ rep F.wd G v a) c m) := by
  have h2 := pk_cons (kpos := kpos) (nm := nm) h pk_nil
  refine ⟨fun pos pins s σ H Q I q => h2.run pos pins s σ H Q I ?_⟩
  obtain ⟨H0, G0, G, os, γ, st, p⟩ := q
  refine ⟨H0, G0, G, os, γ, st, ?_⟩
  cases e : m γ with
  | no => rw [e] at p; exact p
  | ex x => rw [e] at p; exact p
  | ok a =>
    rw [e] at p
    exact fun H1 G1 v f r => p H1 G1 [v] f ⟨v, rfl, r⟩
omit [TabT] in
def tKwS (n : Nat) (sp : Sp) (E : L2.St → XK) (t t2 : TA) : TE := fun σ H Q => t σ H fun vs H1 => t2 σ H1 fun zs H2 => vs.length = n ∧ zs.length = 1 ∧ sp (vs ++ zs) H2 Q (E σ)
omit [TabT] in
theorem pe_kwS {CX : CXT} {sp : Sp} {E : L2.St → XK} {n k : Nat} {kn : Str} {e2 : Expr} {kpos p pos : Pos} {x : Str} {f : Addr} {fd : FuncData} {ps : List Str} {t t2 : TA} (Fn : FnOk X.prog X.w X.K X.mg X.base CX k f fd ps sp) (room : Room k X.A) (hg : Gl X x) (hm : X.mg x = some (.ref f)) (hk : PySem.W.keepIn X.K (.ref f) = true)
    (hb : KBn X.K fd ps n [kn] (fun us ws => us ++ ws) (fun vs zs => vs ++ zs)) (hx : ∀ σ, PassesAt CX X σ (E σ)) (ha : PA X (e :: es) t) (h2 : PK X [⟨some kn, e2, kpos⟩] t2) (hall : (backToKw pos (keywordEach [⟨some kn, e2, kpos⟩] X.env)).all (·.1.isSome) = true) (hks : (backToKw pos (keywordEach [⟨some kn, e2, kpos⟩] X.env)).filterMap (·.1) = [kn])
    (hdb : (x == ("__debug__" : Str)) = false) (he : starEach (e :: es) X.env = (false, eval e X.env) :: starEach es X.env) (hpl : ((backTo pos (starEach (e :: es) X.env)).any (·.1) || (backToKw pos (keywordEach [⟨some kn, e2, kpos⟩] X.env)).any (·.1.isNone)) = false) :
    PE X (.Call (.Name x p) (e :: es) [⟨some kn, e2, kpos⟩] pos) (tKwS n sp E t t2) := ⟨fun pins s σ H Q I h => by
  refine wpAny_Call_Name_kw (ld_glob I hg hm (PySem.W.callWith_KW (h₀ := X.base) I.ok.mod.kin hk hall (thn (ha.run pos pins s σ H _ I h) fun us s1 ⟨vs, H1, I1, r, q⟩ => ?_) hpl he) hdb)
  refine thn (h2.run pos pins s1 σ H1 _ I1 q) fun ws s2 ⟨zs, H2, I2, rz, l1, l2, q2⟩ => ⟨I2.kIn, ?_⟩
  rw [hks]
  refine wpAny_call (codeAny_mono (Fn.run X.A X.stack s2 H2 ⟨us, [kn].zip ws⟩ (us ++ ws) (vs ++ zs) Q (E σ) room I2.env0 (hb.to s2 us ws I2.kIn (r.length.symm.trans l1) (rz.length.symm.trans l2)) (hb.rel r rz) q2) fun r' s' hq => ?_)
  match r', hq with
  | .error e, hq => exact hx σ pins _ _ e s' I2 hq
  | .ok (.ret u), hq => exact I2.after hq⟩
theorem e_callK [Rep α] {kr : Kd F.wd ρ} (Γ : Ctx) {n : Nat} {kn : Str} {e2 : Expr} {kpos : Pos} {m : Ctx.T (Γ ++ [.fz n α]) → Rs ρ} {ma : Ctx.T c → Rs (Ctx.T Γ)} {mk : Ctx.T c → Rs α} {x : Str} {p pos : Pos} {f : Addr} {fd : FuncData} {ps : List Str} {k : Nat} (tk : L2N.Takes X F.W) (Fn : FnOk X.prog X.w X.K X.mg X.base (L2N.CX X.prog X.w) k f fd ps (spF F.wd kr (Γ ++ [.fz n α]) m)) (hr : Room k X.A) (hm : X.mg x = some (.ref f)) (hk : PySem.W.keepIn X.K (.ref f) = true)
    (hb : KBn X.K fd ps n [kn] (fun us ws => us ++ ws) (fun vs zs => vs ++ zs))
    (ha : PA X (e :: es) (tA F c 0 Γ ma)) (h2 : PE X e2 (tX F kF c mk)) (hn : n = Γ.length := by rfl) (hg : Gl X x := by rfl) (hall : (backToKw pos (keywordEach [⟨some kn, e2, kpos⟩] X.env)).all (·.1.isSome) = true := by rfl) (hks : (backToKw pos (keywordEach [⟨some kn, e2, kpos⟩] X.env)).filterMap (·.1) = [kn] := by rfl) (hdb : (x == ("__debug__" : Str)) = false := by decide) (he : starEach (e :: es) X.env = (false, eval e X.env) :: starEach es X.env := by rfl)
    (hpl : ((backTo pos (starEach (e :: es) X.env)).any (·.1) || (backToKw pos (keywordEach [⟨some kn, e2, kpos⟩] X.env)).any (·.1.isNone)) = false := by rfl) :
    PE X (.Call (.Name x p) (e :: es) [⟨some kn, e2, kpos⟩] pos) (tX F kr c fun γ => (ma γ).bind fun g => (mk γ).bind fun a => m (Ctx.snoc Γ g a)) :=
  pe_mono (pe_kwS Fn hr hg hm hk hb (fun σ => L2N.passAt tk σ) ha (a_kw1 h2) hall hks hdb he hpl) fun σ H Q ⟨H0, G0, G, os, γ, st, p⟩ => ⟨H0, G0, G, os, γ, st, by
    dsimp only at p
    cases e : ma γ with
    | no => rw [e] at p; exact p
    | ex x => rw [e] at p; exact p
    | ok g =>
      rw [e] at p
      refine fun H1 G1 vs f1 r => ⟨H0, G0, G1, os, γ, st.ext f1, ?_⟩
      have p1 := Post.ext (show Post F.W kr σ H G Q ((mk γ).bind fun a => m (Ctx.snoc Γ g a)) from p) f1
      cases e2 : mk γ with
      | no => rw [e2] at p1; exact p1
      | ex x => rw [e2] at p1; exact p1
      | ok a =>
        rw [e2] at p1
        intro H2 G2 zs f2 hz
        obtain ⟨v, rfl, hv⟩ := hz
        have p2 := Post.ext (show Post F.W kr σ H1 G1 Q (m (Ctx.snoc Γ g a)) from p1) f2
        have ra : RA F.wd H2 G2 0 (Γ ++ [.fz n α]) (Ctx.snoc Γ g a) (vs ++ [v]) := RA.snoc (by rw [Nat.zero_add]; exact hn) (r.ext f2.h f2.g) hv
        refine ⟨r.len.trans hn.symm, rfl, ra.len, G2, _, f2.gh, f2.tb (f1.tb (st.f.tb st.t)), ra, ?_⟩
        cases e3 : m (Ctx.snoc Γ g a) with
        | no => rw [e3] at p2; exact p2
        | ex x => rw [e3] at p2; exact p2
        | ok z => rw [e3] at p2; exact p2⟩
/-! ### how such defs bind -/
section
variable {K : PySem.W.Frag} {x qual : Str} {st : Stmt} {f : Addr} {oc : Value} {od : Option Addr} {D : Addr} {doc pm cdv ct : Value} {an : Option Addr} {osl : Array (Option Value)} {ps : List Str}
omit [TabT] in
abbrev kwFn (x qual : Str) (st : Stmt) (D : Addr) (doc pm : Value) (an : Option Addr) (cdv ct : Value) : FuncData := PySem.W.fnOf x qual (defArgs st) (defBody st) (defScope st) .none (.ref D) doc pm an cdv ct
omit [TabT] in
theorem kw_dflt {kn : Str} {v : V} {u : Value} (n : Nat) (hu : PySem.W.nsIn K D kn = some (some u)) (hv : RelV v u) (hl : ps.length = n + 1)
    (h : ∀ (us : List Value) (u : Value), us.length = n → KwChain D [(kn, u)] (bindArgs (kwFn x qual st D doc pm an cdv ct) ⟨us, []⟩) (ps.zip (us ++ [u]))) : ∃ ds, Vals [v] ds ∧ Binds K (kwFn x qual st D doc pm an cdv ct) ps ds :=
  ⟨[u], .cons hv .nil, fun s us X hlen => BindsTo.of_looks fun M => KwChain.looks X (fun q hq => by
    rw [List.mem_singleton.mp hq]; exact hu) (h us u (by rw [List.length_append, hl] at hlen; simp only [List.length_cons, List.length_nil] at hlen; omega))⟩
omit [TabT] in
theorem kw_given {kn : Str} (n : Nat) (h : ∀ (us : List Value) (w : Value), us.length = n → bindArgs (kwFn x qual st D doc pm an cdv ct) ⟨us, [(kn, w)]⟩ = pure (ps.zip (us ++ [w]))) : KBn K (kwFn x qual st D doc pm an cdv ct) ps n [kn] (fun us ws => us ++ ws) (fun vs zs => vs ++ zs) where
  to := fun s us ws _ l1 l2 => by
    match ws, l2 with
    | [w], _ => exact .of_eq (h us w l1)
  rel := fun r1 r2 => r1.append r2
end
end
end Wm
set_option Elab.async false
set_option linter.all false
set_option maxRecDepth 100000
set_option maxHeartbeats 4000000
namespace Wm
open PySem PySem.Spec PyProof.Rows L2
open Rep (rep)
open Own (own)
variable [TabT]
section
variable {X : Cx} {F : Fx} {c : Ctx} {α β δ : Type} {tg e : Expr}
/-! ### a < b < c -/
/-! ### enumerate of a borrowed list -/
theorem wk_enum {K : PySem.W.Frag} {wd : Wd} [Rep α] {p : Addr} {vs : List V} {B G1 : Hp} {xs : List α} (hp : B p = some (.lst vs)) (r : reps wd G1 vs xs) : Wk wd (Ite K p) B G1 (enumI xs) where
  stop := fun i H s hi => ⟨vs, .of (s.v hp), by rw [r.len]; rw [enumI_len] at hi; exact hi⟩
  go := fun i H a s ha => by
    obtain ⟨v, hv, _⟩ := r.get (enumI_get.mp ha).2
    exact ⟨vs, v, .of (s.v hp), hv⟩
  yld := fun i H G x H' a s g gh ha ⟨T, y, ex, nT, eH, hy⟩ => by
    subst eH
    obtain ⟨a1, a2⟩ := enumI_get.mp ha
    obtain ⟨v, hv, hr⟩ := r.get a2
    obtain rfl : v = y := Option.some.inj (hv.symm.trans (hy vs (.of (s.v hp))))
    have gT : G T = none := gh.free nT
    exact ⟨upd G T _, (Fr.alloc gh nT).freeze nT gT upd_same, T, _, ex, upd_same, .int (i : Nat), v, rfl, by rw [a1]; rfl, Rep.mono (Same.upd' g (g.free gT)) hr⟩
theorem i_enumBo [Rep α] {i : Nat} (v : Var c (.bo i (List α))) {x : Str} {p pos tpos npos : Pos} {elts : List Expr} {kk : Nat} (hK : F.wd.K = X.K) (hg : Gl X "enumerate") (hm : X.mg "enumerate" = none) (hN : X.N[i]? = some x := by rfl) (hv : Vis X.env.scope x := by first | exact Or.inl rfl | exact Or.inr (Or.inl rfl) | exact Or.inr (Or.inr rfl))
    (hd : (x == ("__debug__" : Str)) = false := by decide) (hcd : (x == ("__classdict__" : Str)) = false := by decide) (he : starEach ((Expr.Name x npos) :: []) X.env = (false, eval (.Name x npos) X.env) :: starEach [] X.env := by rfl) (hs : starEach [Expr.Name x npos] X.env = [(false, eval (.Name x npos) X.env)] := by rfl) :
    PI X (.Tuple elts kk tpos) (.Call (.Name "enumerate" p) [.Name x npos] [] pos) (tI F .z c fun γ => .ok (enumI (v.get γ))) :=
  pi_mono (pi_enum hg hm (pa_cons (pe_var hN hv hd hcd) pa_nil he) hs) fun σ H Rr ⟨H0, G0, G, os, γ, st, p⟩ => by
    obtain ⟨q, o, h1, h2, vs, e3, e4, r⟩ := v.bo st.r
    subst e3
    exact ⟨.ref q, h1, q, vs, rfl, .of (st.f.h.v h2), p H G _ (Fr.refl st.f.gh) (wk_enum h2 r)⟩
/-! ### range(a, b, -1) -/
omit [TabT] in
def rngD (hi lo : Int) : List Int := (List.range (hi - lo).toNat).map fun (i : Nat) => hi - (i : Int)
omit [TabT] in
def RngD (hi lo : Int) : Rs (List Int) := if -4611686018427387904 ≤ hi ∧ hi ≤ 4611686018427387903 ∧ -4611686018427387904 ≤ lo ∧ lo ≤ 4611686018427387903 then .ok (rngD hi lo) else .no
end
end Wm
set_option Elab.async false
set_option linter.all false
set_option maxRecDepth 100000
set_option maxHeartbeats 4000000
namespace Wm
open PySem PySem.Spec PyProof.Rows L2
local instance : TabT := ⟨[]⟩
/-! ### plain laws for simp -/
section
variable {α β γ ρ : Type}
theorem comp_okk (p : α → Bool) (g : α → β) (xs : List α) : Rs.comp (fun x => Rs.ok (p x)) (fun x => Rs.ok (g x)) xs = Rs.ok ((xs.filter p).map g) := comp_filter (fun _ _ => rfl) fun _ _ _ => rfl
theorem comp_oki (p : α → Bool) (xs : List α) : Rs.comp (fun x => Rs.ok (p x)) (fun x => Rs.ok x) xs = Rs.ok (xs.filter p) := by rw [comp_okk p (fun x => x), List.map_id']
theorem comp_okt (g : α → β) (xs : List α) : Rs.comp (fun _ => Rs.ok true) (fun x => Rs.ok (g x)) xs = Rs.ok (xs.map g) := Wm.comp_map (fun _ _ => rfl) fun _ _ => rfl
theorem comp_okid (xs : List α) : Rs.comp (fun _ => Rs.ok true) (fun x => Rs.ok x) xs = Rs.ok xs := by rw [comp_okt fun x => x, List.map_id']
theorem filter_tt (xs : List α) : (xs.filter fun _ => true) = xs := List.filter_eq_self.mpr fun _ _ => rfl
/-- a comprehension that is known item by item -/
theorem comp_on {t : α → Rs Bool} {f : α → Rs β} {xs : List α} (p : α → Bool) (g : α → β) (h : ∀ x ∈ xs, t x = .ok (p x) ∧ (p x = true → f x = .ok (g x))) : Rs.comp t f xs = .ok ((xs.filter p).map g) := comp_filter (fun x hx => (h x hx).1) fun x hx => (h x hx).2
theorem Rs.okl (r : Rs α) : r.bind Rs.ok = r := by cases r <;> rfl
theorem nox_ok (a : α) : (Rs.ok a).nox = .ok a := rfl
theorem left_okl (g : γ) (f : γ → Rs ρ) : Rs.left (.ok (.inl g)) f = f g := Eq.trans (Eq.refl _) (Eq.refl _)
theorem left_okr (x : ρ) (f : γ → Rs ρ) : Rs.left (.ok (.inr x)) f = .ok x := Eq.trans (Eq.refl _) (Eq.refl _)
theorem getI_mem {xs : List α} {k : Int} (h0 : 0 ≤ k) (h1 : k < xs.length) : ∃ a, getI xs k = .ok a ∧ a ∈ xs ∧ xs[k.toNat]? = some a := by
  obtain ⟨a, e, h⟩ := getI_ex h0 h1
  exact ⟨a, h, List.mem_of_getElem? e, e⟩
theorem getI_0 (a : α) (xs : List α) : getI (a :: xs) 0 = .ok a := getI_nat (i := 0) rfl
theorem getI_1 (a b : α) (xs : List α) : getI (a :: b :: xs) 1 = .ok b := getI_nat (i := 1) rfl
theorem setI_in {xs : List α} {k : Int} {a : α} (h0 : 0 ≤ k) (h1 : k < xs.length) : setI xs k a = .ok (xs.set k.toNat a) := by
  obtain ⟨n, rfl⟩ := Int.eq_ofNat_of_zero_le h0
  rw [Int.toNat_natCast]
  exact setI_nat (by omega)
theorem rng_mapn (n : Int) : (rng 0 n).length = n.toNat := by rw [rng_len]; omega
theorem dtrue {p : Prop} [Decidable p] (h : p) : decide p = true := decide_eq_true h
theorem least_ex {p : Nat → Prop} (h : ∃ n, p n) : ∃ n, p n ∧ ∀ m, m < n → ¬ p m := by
  obtain ⟨n, hn⟩ := h
  induction n using Nat.strongRecOn with
  | _ n ih =>
    by_cases hx : ∃ m, m < n ∧ p m
    · obtain ⟨m, h1, h2⟩ := hx
      exact ih m h1 h2
    · exact ⟨n, hn, fun m h1 h2 => hx ⟨m, h1, h2⟩⟩
/-- a while that runs through known stands -/
theorem whl_count {t : γ → Rs Bool} {b : γ → Rs γ} (st : Nat → γ) (n : Nat) (ht : ∀ i, i < n → t (st i) = .ok true) (hb : ∀ i, i < n → b (st i) = .ok (st (i + 1))) (he : t (st n) = .ok false) : Rs.whl t b (st 0) = .ok (st n) := by
  have key : ∀ k, k ≤ n → Rs.whl t b (st (n - k)) = .ok (st n) := by
    intro k
    induction k with
    | zero =>
      intro _
      rw [Rs.whl_eq, Nat.sub_zero, he]
      rfl
    | succ k ih =>
      intro hk
      rw [Rs.whl_eq, ht _ (by omega)]
      simp only [Rs.bo, if_true]
      rw [hb _ (by omega), Rs.bo, show n - (k + 1) + 1 = n - k by omega]
      exact ih (by omega)
  have := key n (Nat.le_refl _)
  rwa [Nat.sub_self] at this
/-- a while by its invariant and a measure -/
theorem whl_inv {t : γ → Rs Bool} {b : γ → Rs γ} (I : γ → Prop) (μ : γ → Nat) (h : ∀ g, I g → ∃ c, t g = .ok c ∧ (c = true → ∃ g', b g = .ok g' ∧ I g' ∧ μ g' < μ g)) {g : γ} (h0 : I g) : ∃ g', Rs.whl t b g = .ok g' ∧ I g' ∧ t g' = .ok false := by
  have key : ∀ (n : Nat) (g : γ), μ g = n → I g → ∃ g', Rs.whl t b g = .ok g' ∧ I g' ∧ t g' = .ok false := by
    intro n
    induction n using Nat.strongRecOn with
    | _ n ih =>
      intro g hn hg
      obtain ⟨c, e, hc⟩ := h g hg
      rw [Rs.whl_eq, e]
      simp only [Rs.bo]
      cases c with
      | false => exact ⟨g, rfl, hg, e⟩
      | true =>
        obtain ⟨g', e2, i2, m2⟩ := hc rfl
        simp only [if_true]
        rw [e2, Rs.bo]
        exact ih _ (by omega) g' rfl i2
  exact key _ g rfl h0
/-- all turns go on -/
theorem foldR_all {f : γ → α → Rs (γ ⊕ ρ)} {g : γ} : ∀ {xs : List α}, (∀ x ∈ xs, f g x = .ok (.inl g)) → Rs.foldR f g xs = .ok (.inl g)
  | [], _ => rfl
  | x :: xs, h => by
    show (f g x).bind _ = _
    rw [h x List.mem_cons_self]
    exact foldR_all fun y hy => h y (List.mem_cons_of_mem _ hy)
/-! ### numbers below, caps, reaches -/
def atmost (s : List Int) (x : Int) : Int := ((s.filter fun y => decide (y ≤ x)).length : Int)
theorem perm_sum {xs ys : List Int} (p : xs.Perm ys) : xs.sum = ys.sum := by
  induction p with
  | nil => rfl
  | cons x _ ih => rw [List.sum_cons, List.sum_cons, ih]
  | swap x y l => simp only [List.sum_cons]; omega
  | trans _ _ h1 h2 => exact h1.trans h2
def capE (w x e : Int) : Int := if x < e then 0 else (w + 1) ^ (x - e).toNat
def reachE (w : Int) (L : List Int) (e : Int) : Int := (L.map fun x => capE w x e).sum
theorem pow_pos' {b : Int} (h : 1 ≤ b) : ∀ n : Nat, 1 ≤ b ^ n
  | 0 => by rw [Int.pow_zero]; exact Int.le_refl _
  | n + 1 => by
    rw [Int.pow_succ]
    have := pow_pos' h n
    have h2 : 1 * 1 ≤ b ^ n * b := Int.mul_le_mul this h (by decide) (by omega)
    omega
theorem pow_mono {b : Int} (h : 1 ≤ b) {m n : Nat} (hmn : m ≤ n) : b ^ m ≤ b ^ n := by
  obtain ⟨k, rfl⟩ := Nat.exists_eq_add_of_le hmn
  rw [Int.pow_add]
  have h1 := pow_pos' h m
  have h2 := pow_pos' h k
  have h3 : b ^ m * 1 ≤ b ^ m * b ^ k := Int.mul_le_mul_of_nonneg_left h2 (by omega)
  omega
theorem pow_base {a b : Int} (h0 : 0 ≤ a) (h : a ≤ b) : ∀ n : Nat, a ^ n ≤ b ^ n
  | 0 => by rw [Int.pow_zero, Int.pow_zero]; exact Int.le_refl _
  | n + 1 => by
    rw [Int.pow_succ, Int.pow_succ]
    exact Int.mul_le_mul (pow_base h0 h n) h h0 (Int.pow_nonneg (by omega))
theorem capE_nn {w : Int} (hw : 0 ≤ w) (x e : Int) : 0 ≤ capE w x e := by
  unfold capE
  split
  · exact Int.le_refl _
  · exact Int.pow_nonneg (by omega)
/-- rows of levels near to 0 -/
structure IsBook (rs : List (Int × Str)) (n : Nat) : Prop where
  ne : 1 ≤ rs.length
  le : rs.length ≤ n
  rec' : ∀ r ∈ rs, IsRec r.2
  lo : ∀ r ∈ rs, -2000 ≤ r.1
  hi : ∀ r ∈ rs, r.1 ≤ 2000
end
end Wm
set_option Elab.async false
set_option linter.all false
set_option maxRecDepth 100000
set_option maxHeartbeats 4000000
namespace Wm
open PySem PySem.Spec PyProof.Rows L2
open Rep (rep)
open Own (own)
variable [TabT]
/-! ### own exceptions are made -/
/-- the base class, whose __init__ is ValueError's -/
structure BaseX (K : PySem.W.Frag) (W : Addr) : Prop where
  rd : PySem.W.readsIn K W (.type "type") = true
  ga : PySem.W.specialIn K (.ref W) "__getattribute__" = some (some (.builtin "type.__getattribute__"))
  vi : PySem.W.findCls K (.ref W) (.type "type") "__init__" = some (.val (.builtin "ValueError.__init__"))
/-- an own exception class with an __init__ of its own -/
structure OwnX (K : PySem.W.Frag) (C fI : Addr) : Prop where
  oex : OexC K C
  iC : PySem.W.findIn K (.ref C) "__init__" = some (some (.ref fI))
  tI : PySem.W.typeIn K (.ref fI) = some (.type "function")
omit [TabT] in
omit [TabT] in
/-- what may stand in an exception's text -/
def Msg (v : V) : Prop := (∃ i : Int, v = .int i ∧ i.natAbs.log2 < 64) ∨ ∃ y : Str, v = .str y ∧ y.length ≤ 1000
section
variable {X : Cx} {e : Expr} {es : List Expr} {ta : TA} {p1 p2 pos : Pos}
omit [TabT] in
theorem pe_weinit {x : Str} {W : Addr} {pl : Sem Bool} (B : BaseX X.K W) (hg : Gl X x) (hm : X.mg x = some (.ref W)) (ha : PA X (e :: es) ta) (hdb : (x == ("__debug__" : Str)) = false := by decide)
    (hc : eval (.Call (.Attribute (.Name x p1) "__init__" p2) (e :: es) [] pos) X.env = (do let ov ← eval (.Name x p1) X.env; standAt p2.atName; let (f, first) ← holding [ov] (getMethod ov "__init__" pl); callWith pos f first (backTo pos (starEach (e :: es) X.env)) (backToKw pos (keywordEach [] X.env))) := by rfl)
    (he : starEach (e :: es) X.env = (false, eval e X.env) :: starEach es X.env := by rfl) (hpl : (backTo pos (starEach es X.env)).any (·.1) = false := by rfl) :
    PE X (.Call (.Attribute (.Name x p1) "__init__" p2) (e :: es) [] pos) (tVeI X.K ta) := ⟨fun pins s σ H Q I h => by
  refine PySem.W.methodCall_KW (ld_glob I hg hm ?_ hdb) hc
  refine PySem.W.method_cls I.kIn B.ga (PySem.W.cls_value I.kIn B.rd B.vi (by decide +kernel) ?_)
  refine PyProof.Rows.callWith_method1 (thn (ha.run pos pins _ σ H _ (I.tok _) h) fun us s1 ⟨vs, H1, I1, r1, a, C, ws, ev, hl, T, ea, q⟩ => ?_) he hpl
  subst ev
  cases r1 with
  | @cons _ u0 _ ur ra rw' =>
    obtain rfl : u0 = Value.ref a := ra
    exact oinit_ok T I1 ea (by rw [← Paired.length rw', sizeLine_eq]; omega) fun s' J => ⟨.non, H1, J, rfl, q⟩⟩
omit [TabT] in
theorem emp_app (a : Str) : (Str.empty ++ a).length = a.length := by
  rw [Str.len_toList, Str.len_toList]
  have h : (Str.empty ++ a).cps = Str.empty.cps ++ a.cps := rfl
  rw [h, Array.toList_append, List.length_append]
  show 0 + _ = _
  omega
omit [TabT] in
theorem app_len' (a b : Str) : (a ++ b).length = a.length + b.length := by
  rw [Str.len_toList, Str.len_toList, Str.len_toList]
  have h : (a ++ b).cps = a.cps ++ b.cps := rfl
  rw [h, Array.toList_append, List.length_append]
omit [TabT] in
theorem fmt_var {i : Nat} {v : V} {σ : L2.St} {H : Hp} {Q : VK} (hy : σ[i]? = some (some v)) (h : Msg v) (q : ∀ y : Str, y.length ≤ 1000 → Q (.str y) H) : tFmt (tVar i) σ H Q := by
  refine ⟨v, hy, ?_⟩
  rcases h with ⟨i, rfl, hi⟩ | ⟨y, rfl, hl⟩
  · refine .inr ⟨i, rfl, Nat.lt_trans hi (by decide), q _ ?_⟩
    have e := PySem.int_text_length_le (k := 64) (by decide) hi
    show (Str.ofString (toString i)).length ≤ _
    rw [PyProof.Rows.ofString_length, String.length_toList]
    omega
  · exact .inl ⟨y, rfl, by rw [sizeLine_eq]; omega, q y hl⟩
end
/-! ### its __init__ -/
def spE (C : Addr) (f : Str) : Sp := fun vs H Q _ => ∃ (a : Addr) (y : V), vs = [.ref a, y] ∧ H a = some (exo a C none) ∧ Msg y ∧ ∀ dx, H dx = none → dx ≠ a → Q .non (upd (upd H dx (exd dx [(f, y)])) a (exo a C (some dx)))
theorem j3 {a b : Str} (la : a.length ≤ 100) (lb : b.length ≤ 100) : ∀ (σ : L2.St) (H : Hp) (Q : Str → Hp → Prop) (y : V), σ[1]? = some (some y) → Msg y → (∀ out, out.length ≤ 3000 → Q out H) → tJs [tC (.str a), tFmt (tVar 1), tC (.str b)] Str.empty σ H Q := fun σ H Q y hy hm q => by
  refine ⟨a, rfl, by rw [emp_app, sizeLine_eq]; omega, fmt_var hy hm fun z hz => ⟨z, rfl, by rw [app_len', emp_app, sizeLine_eq]; omega, b, rfl, by rw [app_len', app_len', emp_app, sizeLine_eq]; omega, q _ ?_⟩⟩
  rw [app_len', app_len', emp_app]; omega
theorem ini_ok {P : Program} {w : World} {K : PySem.W.Frag} {mg : Str → Option Value} {base : Heap} {x qual f : Str} {st : Stmt} {fI C : Addr} {fd : FuncData} {ts : List TE} (O : OexC K C) (hno : PySem.W.findIn K (.ref C) f = some none) (F : Fun K x qual st fI fd) (S : FnScope ["self", f] ["self", f] (defScope st))
    (hj : ∀ (σ : L2.St) (H : Hp) (Q : Str → Hp → Prop) (y : V), σ[1]? = some (some y) → Msg y → (∀ out, out.length ≤ 3000 → Q out H) → tJs ts Str.empty σ H Q)
    (body : ∀ (cdv : Value) (A : Around) (outer : List Env) (s : Shared) (H : Hp) (E : XK), PSs (cxOf (L2N.CX P w) P w K mg base ["self", f] qual (defScope st) fI cdv A outer s H E) (defBody st)
      (tSeq (tDrop (tVeI K (tCons (tVar 0) (tCons (fun σ H Q => tJs ts Str.empty σ H fun out H1 => Q (.str out) H1) tNil)))) (tOst K f (tVar 0) (tVar 1)))) : FnOk P w K mg base (L2N.CX P w) 1 fI fd ["self", f] (spE C f) := by
  refine okN F S (fun vs H Q E h => ?_) (fun cdv A outer s H vs Q E hr h => ⟨_, body cdv A outer s H E, ?_⟩)
  · obtain ⟨a, y, rfl, _⟩ := h
    rfl
  · obtain ⟨a, y, rfl, ha, hm, q⟩ := h
    refine ⟨.ref a, rfl, hj _ _ _ y rfl hm fun out ho => ⟨a, C, [.str out], rfl, Nat.le_of_ble_eq_true rfl, O, ha, ?_⟩⟩
    exact ⟨y, rfl, .ref a, rfl, a, C, rfl, O, hno, .inl ⟨ha, fun dx hd hne => q dx hd hne⟩⟩
/-! ### an own exception is made -/
omit [TabT] in
omit [TabT] in
/-- C(e): the class's exception, its context None, its dict {f: e} -/
def tMkE (C : Addr) (f : Str) (te : TE) : L2.St → Hp → XK → Prop := fun σ H Q => te σ H fun y H1 => Msg y ∧ ∀ d, H1 d = none → Q (.ref C) (some d) (upd H1 d (.xd [(f, y)]))
omit [TabT] in
theorem heap_eq {H1 : Hp} {b dx : Addr} {o : Option Addr → HO} {u z : HO} (hb : H1 b = none) : upd (del (upd (upd (upd H1 b (o none)) dx u) b (o (some dx))) b) dx z = upd H1 dx z := by
  funext i
  by_cases h1 : i = dx
  · rw [h1, upd_same, upd_same]
  · rw [upd_ne h1, upd_ne h1]
    by_cases h2 : i = b
    · rw [h2, del_same, hb]
    · rw [del_ne h2, upd_ne h2, upd_ne h1, upd_ne h2]
theorem mk_own {X : Cx} {e : Expr} {te : TE} {x f : Str} {p pos : Pos} {C fI : Addr} {k : Nat} {fd : FuncData} (O : OwnX X.K C fI) (F1 : FnOk X.prog X.w X.K X.mg X.base (L2N.CX X.prog X.w) k fI fd ["self", f] (spE C f)) (hr : Room (k + 1) X.A) (hb : Binds X.K fd ["self", f] []) (hg : Gl X x) (hm : X.mg x = some (.ref C)) (he : PE X e te)
    (hdb : (x == ("__debug__" : Str)) = false := by decide) (hs : starEach (e :: []) X.env = (false, eval e X.env) :: starEach [] X.env := by rfl) (hpl : (backTo pos (starEach [] X.env)).any (·.1) = false := by rfl) : L2N.PMk X (.Call (.Name x p) [e] [] pos) (tMkE C f te) := fun pins s σ H Q I h => by
  obtain ⟨nm, q, N, bs, bm, sn, sub, ab, col, dd, k0, k1, k2, k3, k5, hC, hbm⟩ := O.oex.cls
  have hA : PA X [e] (tCons te tNil) := pa_cons he pa_nil hs
  refine wpAny_Call_Name_kw (ld_glob I hg hm (PySem.W.callWith_K (h₀ := X.base) I.ok.mod.kin O.oex.kC (thn (hA.run pos pins s σ H (fun vs H1 => ∃ y, vs = [y] ∧ Msg y ∧ ∀ d, H1 d = none → Q (.ref C) (some d) (upd H1 d (.xd [(f, y)]))) I ?_) fun us s1 ⟨vs, H1, I1, r1, y, ev, hm1, q1⟩ => ⟨I1.kIn, ?_⟩) hs hpl) hdb)
  · have e0 : (fun y H1 => Msg y ∧ ∀ d, H1 d = none → Q (.ref C) (some d) (upd H1 d (.xd [(f, y)]))) = fun y H1 => ∃ z, [y] = [z] ∧ Msg z ∧ ∀ d, H1 d = none → Q (.ref C) (some d) (upd H1 d (.xd [(f, z)])) := by
      funext y H1
      exact propext ⟨fun w => ⟨y, rfl, w⟩, fun ⟨z, e, w⟩ => by cases e; exact w⟩
    show te σ H fun y H1 => ∃ z, [y] = [z] ∧ Msg z ∧ ∀ d, H1 d = none → Q (.ref C) (some d) (upd H1 d (.xd [(f, z)]))
    rw [← e0]
    exact h
  subst ev
  obtain ⟨u, rfl, ru⟩ := vals1 r1
  obtain ⟨hp, g, dr, tk, os⟩ := s1
  generalize hbq : hp.objs.size + 1 = b
  have nb : H1 b = none := hbq ▸ I1.hok.fresh (Nat.le_succ _)
  have hget : ((hp.push (PySem.W.kdv_tup [u])).push (PySem.HandSPX.excO C hp.objs.size)).get? b = some (PySem.HandSPX.excO C hp.objs.size) := by
    subst hbq; heap_get
  have kk : ∀ z o, hp.get? z = some o → ((hp.push (PySem.W.kdv_tup [u])).push (PySem.HandSPX.excO C hp.objs.size)).get? z = some o := fun z o e => Heap.get?_push_of_some _ (Heap.get?_push_of_some _ e)
  have I2 : Inv X pins σ (upd H1 b (exo b C none)) ⟨(hp.push (PySem.W.kdv_tup [u])).push (PySem.HandSPX.excO C hp.objs.size), g, dr, tk, os⟩ :=
    I1.laid (t' := tk) kk (by show hp.objs.size ≤ b; omega) (exo_ok hget)
  have hsp : spE C f [.ref b, y] (upd H1 b (exo b C none)) (fun v H2 => v = .non ∧ ∃ dx, H2 b = some (exo b C (some dx)) ∧ H2 dx = some (exd dx [(f, y)]) ∧ H1 dx = none ∧ upd (del H2 b) dx (.xd [(f, y)]) = upd H1 dx (.xd [(f, y)])) (fun _ _ _ => False) :=
    ⟨b, y, rfl, upd_same, hm1, fun dx hd hne => ⟨rfl, dx, upd_same, (upd_ne hne).trans upd_same, (upd_ne (H := H1) hne).symm.trans hd, heap_eq (o := exo b C) nb⟩⟩
  refine wpAny_call (PySem.HandSPX.call_own F.excBase_ValueError (fun Y => PySem.HandSPX.refsVE_contains Y bm hbm) (I1.kIn _ _ hC) (PySem.W.looks_findIn I1.kIn O.iC) (fun self => PySem.W.bind_fn I1.kIn self O.tI) (by rw [sizeLine_eq]; exact Nat.le_of_ble_eq_true rfl) ?_)
  rw [hbq]
  have bd := hb ⟨(hp.push (PySem.W.kdv_tup [u])).push (PySem.HandSPX.excO C hp.objs.size), g, dr, tk, os⟩ [.ref b, u] I2.kIn rfl
  refine codeAny_mono (F1.run _ X.stack _ _ ⟨[.ref b, u], []⟩ _ _ _ _ (hr.make C [u] []) (I2.env0.make C [u] []) bd (.cons (show RelV (.ref b) (.ref b) from rfl) (.cons ru .nil)) hsp) fun r s' hq => ?_
  match r, hq with
  | .error er, hq =>
    obtain ⟨_, _, _, _, _, _, _, _, _, _, _, _, z⟩ := hq
    exact z.elim
  | .ok (.ret v), hq =>
    obtain ⟨v1, H2, os2, bare, un, hok, rv, ev, dx, e1, e2, e3, e4⟩ := hq
    subst ev
    obtain ⟨h2, g2, d2, t2, os'⟩ := s'
    obtain ⟨t0, G, J, kG, ge, hoe, na⟩ := mk_end0 (d2 := d2) (t2 := t2) I1 (a := b) (by omega) kk un hok os2 bare e1 e2 e3
    rw [e4] at J na
    exact ⟨rv, b, _, _, ⟨G, g2, d2, t2, os'⟩, _, .ref C, some dx, rfl, J, kG, ge, hoe, ⟨rfl, rfl, fun vs e => by cases e; rfl⟩, rfl, rfl, na, rfl, bare, raises_own O.oex.exC O.oex.tyC, q1 dx e3⟩
  | .ok .next, hq => exact hq.elim
  | .ok .brk, hq => exact hq.elim
  | .ok .cont, hq => exact hq.elim
/-! ### what is raised -/
omit [TabT] in
theorem log2_small {n : Nat} (h : n < 1000000000000) : n.log2 < 64 := by
  by_cases h0 : n = 0
  · subst h0; decide
  · exact (Nat.log2_lt h0).mpr (Nat.lt_trans h (by decide))
class XV (α : Type) [Rep α] where
  pd : α → PD
  fit : α → Bool
  msg : ∀ {wd G v} {a : α}, rep wd G v a → fit a = true → Msg v
  rp : ∀ {wd G v} {a : α}, rep wd G v a → RepPD G v (pd a)
omit [TabT] in
instance : XV Int := ⟨.int, fun i => decide (i.natAbs < 1000000000000), fun {wd G v a} h q => .inl ⟨a, h, log2_small (of_decide_eq_true q)⟩, fun h => h⟩
omit [TabT] in
instance : XV Str := ⟨.str, fun y => decide (y.length ≤ 1000), fun {wd G v a} h q => .inr ⟨a, h.1, of_decide_eq_true q⟩, fun h => h.1⟩
section
variable {X : Cx} {F : Fx} {c c' : Ctx} {α ρ : Type} {kr : Kd F.wd ρ} {e : Expr} {x f : Str} {p pos pos' : Pos} {fd : FuncData} {fI : Addr} {n : String} {k : Nat}
omit [TabT] in
def Rs.rai {α β : Type} [Rep α] [XV α] (n : String) (f : Str) (r : Rs α) : Rs β := r.bind fun a => if XV.fit a = true then .ex ⟨n, [(f, XV.pd a)]⟩ else .no
theorem raise_sp [Rep α] [XV α] {m : Ctx.T c → Rs α} {σ : L2.St} {H : Hp} {D : Ends} (h : tT F kr c (fun γ => Rs.rai n f (m γ)) D σ H) : tMkE (F.wd.cm n) f (tX F kF c m) σ H fun cls d H' => F.W cls d σ H' := by
  obtain ⟨H0, G0, G, os, γ, st, p⟩ := h
  refine ⟨H0, G0, G, os, γ, st, p.step st kF fun v H1 G1 a f1 r1 p1 => ?_⟩
  by_cases hf : XV.fit a = true
  · rw [if_pos hf] at p1
    refine ⟨XV.msg r1 hf, fun dx hd => ?_⟩
    have gd : G1 dx = none := f1.gh.free hd
    have f2 : Fr H G (upd H1 dx (.xd [(f, v)])) (upd G1 dx (.xd [(f, v)])) := Fr.freeze (f1.trans (Fr.alloc f1.gh hd)) (f1.h.free hd) gd upd_same
    refine p1 (some dx) σ _ _ st.len (st.f.trans f2) ?_
    show RepX _ _ ⟨n, [(f, XV.pd a)]⟩
    unfold RepX
    rw [if_neg (by simp)]
    refine ⟨dx, [(f, v)], rfl, upd_same, rfl, fun g pv hg => ?_⟩
    rw [List.lookup_cons] at hg ⊢
    by_cases hgf : (g == f) = true
    · rw [hgf] at hg ⊢
      cases hg
      exact ⟨v, rfl, XV.rp (Rep.mono (Same.upd' (Same.refl _) gd) r1)⟩
    · rw [Bool.not_eq_true] at hgf
      rw [hgf] at hg
      cases hg
  · rw [if_neg hf] at p1
    exact p1.elim
/-- raise C(e), C an own exception with an __init__ of its own -/
theorem t_raise [Rep α] [XV α] {C : Addr} {m : Ctx.T c → Rs α} (n : String) (hcm : F.wd.cm n = C) (O : OwnX X.K C fI) (F1 : FnOk X.prog X.w X.K X.mg X.base (L2N.CX X.prog X.w) k fI fd ["self", f] (spE C f)) (hb : Binds X.K fd ["self", f] []) (tk : L2N.Takes X F.W) (hr : Room (k + 1) X.A) (hm : X.mg x = some (.ref C)) (he : PE X e (tX F kF c m))
    (hc : X.calm = true := by rfl) (hg : Gl X x := by rfl) (hdb : (x == ("__debug__" : Str)) = false := by decide) (hs : starEach (e :: []) X.env = (false, eval e X.env) :: starEach [] X.env := by rfl) (hpl : (backTo pos (starEach [] X.env)).any (·.1) = false := by rfl) :
    PSs X [.Raise (some (.Call (.Name x p) [e] [] pos)) none pos'] (tT F kr c fun γ => Rs.rai n f (m γ)) := by
  subst hcm
  exact pss_mono (pss_one (L2N.ps_raise hc tk (mk_own O F1 hr hb hg hm he hdb hs hpl))) fun D σ H h => raise_sp (kr := kr) h
end
end Wm
set_option Elab.async false
set_option linter.all false
set_option maxRecDepth 100000
set_option maxHeartbeats 4000000
namespace Wm
open PySem PySem.Spec PyProof.Rows L2
open Rep (rep)
open Own (own)
/-! ### what an exception's fields keep -/
mutual
theorem RepPD.mono {G G' : Hp} (s : Same G G') : ∀ {v : V} {x : PD}, RepPD G v x → RepPD G' v x
  | _, .non, h => h
  | _, .bl _, h => h
  | _, .int _, h => h
  | _, .str _, h => h
  | _, .tup xs, ⟨p, vs, e, h, g⟩ => ⟨p, vs, e, s.v h, RepPD.mono_go s g⟩
theorem RepPD.mono_go {G G' : Hp} (s : Same G G') : ∀ {vs : List V} {xs : List PD}, RepPD.go G vs xs → RepPD.go G' vs xs
  | [], [], h => h
  | _ :: _, _ :: _, ⟨h, t⟩ => ⟨RepPD.mono s h, RepPD.mono_go s t⟩
  | [], _ :: _, h => h
  | _ :: _, [], h => h
end
theorem RepX.mono {G G' : Hp} (s : Same G G') {d : Option Addr} {x : Exc} (h : RepX G d x) : RepX G' d x := by
  unfold RepX at h ⊢
  split
  · rename_i hf
    rw [if_pos hf] at h
    exact h
  · rename_i hf
    rw [if_neg hf] at h
    obtain ⟨a, fs, e, h1, h2, h3⟩ := h
    exact ⟨a, fs, e, s.v h1, h2, fun f v hv => by
      obtain ⟨u, e1, e2⟩ := h3 f v hv
      exact ⟨u, e1, RepPD.mono s e2⟩⟩
/-- the caught exception: at a, its dict d -/
@[reducible] def repEx (a : Addr) (d : Option Addr) : Rep Exc where
  rep := fun _ G v x => v = .ref a ∧ RepX G d x
  mono := fun s ⟨e, h⟩ => ⟨e, RepX.mono s h⟩
/-- .. as the mirrors name it -/
instance : Rep Exc := repEx 0 none
/-! ### the slots that a try may set -/
def Sl.hold (n : Sl) (vs : List Nat) (σ0 : L2.St) : Sl where
  n := n.n
  ok := fun j => n.ok j ∧ j ∈ vs
  keep := fun σ => n.keep σ ∧ ∀ j, j ∉ vs → σ[j]? = σ0[j]?
  put := fun σ j x hj h => ⟨n.put σ j x hj.1 h.1, fun i hi => by
    rw [List.getElem?_set_ne (fun e => hi (by rw [← e]; exact hj.2))]
    exact h.2 i hi⟩
theorem Sl.hold_P {n : Sl} {vs : List Nat} {σ0 σ : L2.St} (h : (n.hold vs σ0).P σ) : n.P σ := ⟨h.1, h.2.1⟩
section
variable [TabT]
omit [TabT] in
/-- only frozen or borrowed names, none of vs -/
def Ctx.still (vs : List Nat) : Ctx → Bool
  | [] => true
  | @Ent.fz i _ _ :: c => !vs.contains i && Ctx.still vs c
  | @Ent.bo i _ _ :: c => !vs.contains i && Ctx.still vs c
  | _ => false
omit [TabT] in
theorem R.still {wd : Wd} {H0 H G H' G' : Hp} {σ σ' : L2.St} {vs : List Nat} (g : Same G G') (k : ∀ j, j ∉ vs → σ'[j]? = σ[j]?) : ∀ {c : Ctx} {γ : Ctx.T c} {os : List Addr}, Ctx.still vs c = true → R wd H0 σ H G c γ os → R wd H0 σ' H' G' c γ []
  | [], _, _, _, _ => rfl
  | @Ent.fz i α _ :: c, γ, os, hs, h => by
    obtain ⟨h1, h2⟩ := Bool.and_eq_true_iff.mp hs
    obtain ⟨⟨v, e, r⟩, t⟩ := h
    exact ⟨⟨v, (k i (fun z => by rw [List.contains_iff_mem.mpr z] at h1; cases h1)).trans e, Rep.mono g r⟩, R.still g k h2 t⟩
  | @Ent.bo i α _ :: c, γ, os, hs, h => by
    obtain ⟨h1, h2⟩ := Bool.and_eq_true_iff.mp hs
    obtain ⟨⟨p, o, e, e2, r⟩, t⟩ := h
    exact ⟨⟨p, o, (k i (fun z => by rw [List.contains_iff_mem.mpr z] at h1; cases h1)).trans e, e2, Own.mono g r⟩, R.still g k h2 t⟩
  | @Ent.ow i α _ :: c, γ, os, hs, h => nomatch hs
  | @Ent.oo i α _ :: c, γ, os, hs, h => nomatch hs
  | @Ent.sf i α _ x :: c, γ, os, hs, h => nomatch hs
  | @Ent.ot i α t :: c, γ, os, hs, h => nomatch hs
/-! ### try -/
omit [TabT] in
abbrev Fx.cut (F : Fx) : Fx := { F with W := fun _ _ _ _ => False }

omit [TabT] in
/-- a body, and what is done with an exception of the class n; the classes of oth pass -/
def Rs.try {α : Type} (n : String) (oth : List String) (r : Rs α) (h : Exc → Rs α) : Rs α := match r with
  | .ex x => if x.cls = n then h x else if x.cls ∈ oth then .ex x else .no
  | .ok a => .ok a
  | .no => .no
section
variable {X : Cx} {F : Fx} {ρ : Type} {kr : Kd F.wd ρ} {c c1 c2 c' : Ctx} {x en : Str} {C : Addr} {i : Nat} {body suite : List Stmt} {b₀ : Stmt} {np pos pos' : Pos} {n : String} {oth : List String} {vs : List Nat}
theorem PostG.gone {H0 G0 : Hp} {D : Ends} {r : Rs (Ctx.T c1 ⊕ ρ)} (hi : F.n.lt i) (hn : Ctx.not i c1 = true) (h : PostG F kr H0 G0 c1 D r) :
    PostG F kr H0 G0 c1 { nx := fun σ' H' => D.nx (σ'.set i none) H', rt := D.rt, bk := fun σ' H' => D.bk (σ'.set i none) H', ct := fun σ' H' => D.ct (σ'.set i none) H' } r := by
  match r, h with
  | .no, h => exact h
  | .ex x, h => exact h
  | .ok (.inr z), h => exact h
  | .ok (.inl γ), h => exact fun σ H G os st => h _ _ _ _ ⟨st.len.set hi, st.f, st.nd, st.fr, st.r.set hn, st.t⟩
/-- the body's reading, from the whole's -/
theorem try_body {W' : WX} {σ : L2.St} {H H0 G0 G : Hp} {D : Ends} {os : List Addr} {γ : Ctx.T c} {r : Rs (Ctx.T c1 ⊕ ρ)} {h : Exc → Rs (Ctx.T c1 ⊕ ρ)} (st : Stt F.wd F.n H0 G0 σ H G os c γ) (p : PostG F kr H0 G0 c1 D (Rs.try n oth r h))
    (hyes : ∀ (x : Exc) d σ' H' G', x.cls = n → F.n.P σ' → (∀ j, j ∉ vs → σ'[j]? = σ[j]?) → Fr H0 G H' G' → RepX G' d x → PostG F kr H0 G0 c1 D (h x) → W' (.ref (F.wd.cm x.cls)) d σ' H')
    (hno : ∀ (x : Exc) d σ' H', x.cls ∈ oth → F.W (.ref (F.wd.cm x.cls)) d σ' H' → W' (.ref (F.wd.cm x.cls)) d σ' H') :
    PostG ⟨F.wd, F.n.hold vs σ, W'⟩ kr H0 G c1 D r := by
  match r, p with
  | .ok (.inl z), p => exact fun σ1 H1 G1 os1 s1 => p σ1 H1 G1 os1 ⟨Sl.hold_P s1.len, st.f.base s1.f, s1.nd, s1.fr, s1.r, s1.t⟩
  | .ok (.inr z), p => exact fun H1 G1 v f1 k1 => p H1 G1 v (st.f.base f1) k1
  | .no, p => exact p
  | .ex y, p =>
    intro d σ1 H1 G1 l1 f1 r1
    unfold Rs.try at p
    dsimp only at p
    by_cases h1 : y.cls = n
    · rw [if_pos h1] at p
      exact hyes y d σ1 H1 G1 h1 (Sl.hold_P l1) l1.2.2 f1 r1 p
    · rw [if_neg h1] at p
      by_cases h2 : y.cls ∈ oth
      · rw [if_pos h2] at p
        exact hno y d σ1 H1 h2 (p d σ1 H1 G1 (Sl.hold_P l1) (st.f.base f1) r1)
      · rw [if_neg h2] at p
        exact p.elim
theorem nox_post {H0 G0 : Hp} {D : Ends} {r : Rs (Ctx.T c1 ⊕ ρ)} (h : PostG F kr H0 G0 c1 D r.nox) : PostG F.cut kr H0 G0 c1 D r := by
  match r, h with
  | .no, h => exact h
  | .ex x, h => exact h.elim
  | .ok (.inr z), h => exact h
  | .ok (.inl γ), h => exact h
/-- try: body, except C as e: suite -/
theorem g_tryA {mb : Ctx.T c → Rs (Ctx.T c1 ⊕ ρ)} {mh : Exc × Ctx.T c2 → Rs (Ctx.T c1 ⊕ ρ)} (vs : List Nat) (s : Sub c c2) (hcm : F.wd.cm n = C) (hN : X.N.Nodup) (hi : X.N[i]? = some en) (hln : X.env.kindOf en = some .local) (hm : X.mg x = some (.ref C)) (tk : L2N.Takes X F.W)
    (hil : F.n.lt i) (h1 : Ctx.not i c1 = true) (h2 : Ctx.not i c2 = true) (hst : Ctx.still vs c2 = true)
    (xy : PySem.W.exmOne X.K (.ref C) (.ref C) = some true) (xn : ∀ o ∈ oth, PySem.W.exmOne X.K (.ref (F.wd.cm o)) (.ref C) = some false)
    (hb : ∀ (W : WX) (pn : List (Addr × Obj)) (xe : Value → Shared → Prop) (σ0 : L2.St), L2N.Takes (X.tr pn xe) W → PassesOwn (model X.prog X.w) X.A X.env xe → PSs (X.tr pn xe) body (tG ⟨F.wd, F.n.hold vs σ0, W⟩ kr c c1 mb))
    (hsu : ∀ (a : Addr) (oe : Obj) (d : Option Addr) (pn : List (Addr × Obj)), L2N.Zn (.ref C) d oe → (∃ vs, oe.data = .fields vs) → L2H.HotC (X.suite a ((a, oe) :: pn)) → PSs (X.suite a ((a, oe) :: pn)) (b₀ :: suite) (tG F.cut kr (@Ent.fz i Exc (repEx a d) :: c2) c1 mh))
    (hs : X.stack = X.env :: X.outer := by rfl) (hf : X.env.frame = some X.env.locals := by rfl) (hg : Gl X x := by rfl) (hdb : (x == ("__debug__" : Str)) = false := by decide) :
    PS X (.Try body [.ExceptHandler (some (.Name x np)) (some en) (b₀ :: suite) pos'] [] [] pos) (tG F kr c c1 fun γ => Rs.try n oth (mb γ) fun x => (mh (x, s.proj γ)).nox) := by
  refine ps_mono (L2N.ps_try_as (c := .ref C) (tb := fun W D σ H => tG ⟨F.wd, F.n.hold vs σ, W⟩ kr c c1 mb D σ H) (ts := fun a cls d D σ H => cls = .ref C ∧ tG F.cut kr (@Ent.fz i Exc (repEx a d) :: c2) c1 mh D σ H) hs hf hN hi hln ⟨hg, hdb, .inl hm⟩ tk
    (fun W pn xe tw pw => ⟨fun pins s σ H D I q => (hb W pn xe σ tw pw).run pins s σ H D I q⟩)
    (fun a oe cls d pn hz hd => ⟨fun pins s σ H D I ⟨e, q⟩ => by
      subst e
      obtain ⟨vs, hv⟩ := id hd
      exact (hsu a oe d pn hz hd ⟨(a, oe), ⟨rfl, vs, hv, hz.2.2 vs hv⟩, List.mem_cons_self⟩).run pins s σ H D I q⟩)) fun D σ H ⟨H0, G0, G, os, γ, st, p⟩ => ?_
  refine ⟨H0, G, G, os, γ, ⟨⟨st.len.1, st.len.2, fun _ _ => rfl⟩, st.rebase.f, st.nd, st.fr, st.r, st.t⟩, try_body st p (fun y d σ1 H1 G1 e1 l1 k1 f1 r1 p1 => ?_) fun y d σ1 H1 e1 w1 => ⟨false, xn _ e1, fun z => Bool.noConfusion z, fun _ => w1⟩⟩
  refine ⟨true, by rw [e1, hcm]; exact xy, fun _ a ha => ⟨by rw [e1, hcm], H0, G0, G1, [], (y, s.proj γ), ?_, PostG.gone (F := F.cut) hil h1 (nox_post p1)⟩, fun z => Bool.noConfusion z⟩
  obtain ⟨os2, _, q2⟩ := st.sub s
  have q3 : Stt F.wd F.n H0 G0 σ1 H1 G1 [] c2 (s.proj γ) := ⟨l1, st.f.base f1, List.nodup_nil, fun _ z => (by cases z), R.still f1.g k1 hst q2.r, st.t⟩
  exact @R.push _ _ F.wd H0 G0 H1 G1 σ1 F.n Exc (repEx a d) i (.ref a) y [] (s.proj γ) q3 hil h2 ⟨rfl, r1⟩
omit [TabT] in
/-- a statement that always returns; one that never does -/
def Rs.ret {γ ρ : Type} (r : Rs (γ ⊕ ρ)) : Rs ρ := r.bind fun z => match z with | .inl _ => .no | .inr x => .ok x
omit [TabT] in
def Rs.fall {γ ρ : Type} (r : Rs (γ ⊕ ρ)) : Rs γ := r.bind fun z => match z with | .inl g => .ok g | .inr _ => .no
end
/-! ### in the suite -/
structure CatC (K : PySem.W.Frag) (C : Addr) : Prop where
  xf : XfC K C
  ha : PySem.W.findIn K (.ref C) "__class__" = some (some (.builtin "object.__class__"))
  hn : PySem.W.specialIn K (.builtin "object.__class__") "__get__" = some (some (.builtin "getset_descriptor.__get__"))
  ht : PySem.W.takesIn K (.builtin "object.__class__") = some true
  hm : PySem.W.mroIn K C (.type "object") = some true
structure ClsX (K : PySem.W.Frag) (C : Addr) : Prop where
  hd : PySem.W.hasDictIn K C = true
  ex : PySem.W.subIn K (.ref C) (.type "BaseException") = some true
  ty : PySem.W.typeIn K (.ref C) = some (.type "type")
  sf : PySem.W.subIn K (.ref C) (.ref C) = some true
omit [TabT] in
theorem ClsX.exm {K : PySem.W.Frag} {C D : Addr} {b : Bool} (h : ClsX K C) (s : PySem.W.subIn K (.ref D) (.ref C) = some b) : PySem.W.exmOne K (.ref D) (.ref C) = some b := PySem.W.exm_ref h.ex h.hd h.ty s
omit [TabT] in
theorem ClsX.kit {K : PySem.W.Frag} {C D : Addr} {b : Bool} (h : ClsX K C) (s : PySem.W.subIn K (.ref D) (.ref C) = some b) : PySem.W.kitOne K (.ref D) (.ref C) = some b := by
  obtain ⟨cd, hc, _⟩ := PySem.W.any_some h.hd
  unfold PySem.W.kitOne
  split
  · rename_i e
    have e2 : D = C := Value.ref.inj (beq_iff_eq.mp e)
    subst e2
    rw [h.sf] at s
    exact s
  · show (if ((PySem.W.clsIn K C).isSome && PySem.W.typeIn K (.ref C) == some (.type "type")) = true then PySem.W.subIn K (.ref D) (.ref C) else none) = some b
    rw [if_pos (by rw [hc, h.ty]; rfl)]
    exact s
omit [TabT] in
theorem kit_VE {K : PySem.W.Frag} {D : Addr} (s : PySem.W.subIn K (.ref D) (.type "ValueError") = some true) : PySem.W.kitOne K (.ref D) (.type "ValueError") = some true := by
  unfold PySem.W.kitOne
  split
  · rfl
  · show (if PySem.W.kitMeta "ValueError" = true then PySem.W.subIn K (.ref D) (.type "ValueError") else none) = _
    rw [if_pos (by decide +kernel)]
    exact s
section
variable {X : Cx} {F : Fx} {α ρ : Type} {kr : Kd F.wd ρ} {c : Ctx} {x y f : Str} {C a : Addr} {oe : Obj} {d : Option Addr} {pn : List (Addr × Obj)} {i : Nat} {p p2 p3 pos : Pos}
omit [TabT] in
theorem inst_of {P : Program} {w : World} {H : Hp} {h : Heap} (hok : HOk P w H h) (hg : h.get? a = some oe) (hz : Zc (.ref C) d oe) (hf : ∃ vs, oe.data = .fields vs) (hd : d = none ∨ ∃ dd fs, d = some dd ∧ H dd = some (.xd fs)) : ∃ od, PySem.W.InstAt h a oe C od := by
  obtain ⟨vs, hv⟩ := hf
  have nc : PySem.W.notCls oe = true := by unfold PySem.W.notCls; rw [hv] <;> rfl
  rcases hd with e | ⟨dd, fs, e, hx⟩
  · subst e
    exact ⟨none, hg, hz.1, nc, by rw [hz.2] <;> trivial⟩
  · subst e
    have hx2 : ObjOk P w H h dd (.xd fs) := hok dd _ hx
    obtain ⟨mA, hns, _⟩ := hx2
    obtain ⟨od, ho, _⟩ := lookIn_ns hns
    exact ⟨some od, hg, hz.1, nc, by rw [hz.2]; exact ho⟩
omit [TabT] in
def rIsX (K : PySem.W.Frag) (C a : Addr) (d : Option Addr) : List V → Hp → VK → Prop := fun xs H Q => ∃ (c : V) (cv : Value) (b : Bool), xs = [.ref a, c] ∧ (∀ u, RelV c u → u = cv) ∧ (d = none ∨ ∃ dd fs, d = some dd ∧ H dd = some (.xd fs)) ∧ PySem.W.kitOne K (.ref C) cv = some b ∧ Q (.bl b) H
/-- what a field holds -/
class FV (α : Type) [Rep α] where
  get : PD → Rs α
  rp : ∀ {wd G v x} {y : α}, get x = .ok y → RepPD G v x → rep wd G v y
  ex : ∀ {x e}, get x ≠ .ex e
omit [TabT] in
instance : FV Int := ⟨fun x => match x with | .int i => .ok i | _ => .no, fun {wd G v x y} h r => by
  cases x with
  | int i => cases h; exact r
  | _ => (cases h), fun {x e} h => by cases x <;> cases h⟩
open Classical in
noncomputable instance : FV Str := ⟨fun x => match x with | .str s => if SOk s then .ok s else .no | _ => .no, fun {wd G v x y} h r => by
  cases x with
  | str s =>
    dsimp only at h
    split at h
    · rename_i hs; cases h; exact ⟨r, hs⟩
    · cases h
  | _ => (cases h), fun {x e} h => by
  cases x with
  | str s =>
    dsimp only at h
    split at h <;> cases h
  | _ => cases h⟩
omit [TabT] in
def Exc.at {α : Type} [Rep α] [FV α] (x : Exc) (f : Str) : Rs α := match x.fld with
  | [] => .no
  | y :: ys => match List.lookup f (y :: ys) with
    | some z => FV.get z
    | none => .no
/-- e.f -/
theorem e_fldE [Rep α] [FV α] (T : CatC X.K C) (hz : L2N.Zn (.ref C) d oe) (hf : ∃ vs, oe.data = .fields vs) (v : Var c (@Ent.fz i Exc (repEx a d))) (hno : PySem.W.findIn X.K (.ref C) f = some none) (hN : X.N[i]? = some x)
    (hv : Vis X.env.scope x := by first | exact Or.inl rfl | exact Or.inr (Or.inl rfl) | exact Or.inr (Or.inr rfl)) (hd : (x == ("__debug__" : Str)) = false := by decide) (hcd : (x == ("__classdict__" : Str)) = false := by decide) (hb : attributeBase (.Name x p3) f X.env (eval (.Name x p3) X.env) = eval (.Name x p3) X.env := by rfl) :
    PE (X.suite a ((a, oe) :: pn)) (.Attribute (.Name x p3) f pos) (tX F (kF (α := α)) c fun γ => Exc.at (v.get γ) f) :=
  pe_mono (pe_xf T.xf hno hz.zc hf (pe_var (X := X.suite a ((a, oe) :: pn)) hN hv hd hcd) hb) fun σ H Q ⟨H0, G0, G, os, γ, st, p⟩ => by
    obtain ⟨v1, e1, e2, r1⟩ := @Var.fz _ _ _ _ _ i Exc (repEx a d) _ v _ _ st.r
    subst e2
    refine ⟨_, e1, rfl, rfl, ?_⟩
    unfold Exc.at at p
    dsimp only at p
    cases hfl : (v.get γ).fld with
    | nil => rw [hfl] at p; exact p.elim
    | cons y0 ys =>
      rw [hfl] at p
      dsimp only at p
      unfold RepX at r1
      rw [if_neg (by rw [hfl]; exact fun z => nomatch z)] at r1
      obtain ⟨dd, fs, g1, g2, _, g3⟩ := r1
      cases hl : List.lookup f (y0 :: ys) with
      | none => rw [hl] at p; exact p.elim
      | some z =>
        rw [hl] at p
        dsimp only at p
        obtain ⟨u, k1, k2⟩ := g3 f z (by rw [hfl]; exact hl)
        refine ⟨dd, fs, u, g1, st.f.gh.v g2, k1, ?_⟩
        cases hgz : (FV.get z : Rs α) with
        | no => rw [hgz] at p; exact p.elim
        | ex e => exact (FV.ex hgz).elim
        | ok r => rw [hgz] at p; exact p H G u (Fr.refl st.f.gh) (FV.rp hgz k2)
/-! ### calls where an exception is handled -/
omit [TabT] in
theorem takes_cut {X : Cx} : L2N.Takes X (fun _ _ _ _ => False) := fun _ _ ⟨_, _, _, _, _, _, _, _, _, _, _, _, _, _, _, _, w⟩ => w.elim
end
omit [TabT] in
theorem bt_ValueError : bootBuiltins "ValueError" = some (.type "ValueError") := by decide +kernel
section
variable {X : Cx} {F : Fx} {ρ : Type} {kr : Kd F.wd ρ} {c c' : Ctx} {sts : List Stmt}
/-- a block that always raises, where one is wanted that goes on -/
theorem b_ts {m : Ctx.T c → Rs ρ} (h : PSs X sts (tT F kr c m)) : PSs X sts (tS F c c' fun γ => (m γ).bind fun _ => .no) :=
  pss_mono h fun D σ H ⟨H0, G0, G, os, γ, st, p⟩ => ⟨H0, G0, G, os, γ, st, by
    dsimp only at p
    cases e : m γ with
    | no => rw [e] at p; exact p
    | ex x => rw [e] at p; exact p
    | ok z => rw [e] at p; exact p.elim⟩
end
omit [TabT] in
theorem room_mark {j k : Nat} {A : Around} {h : Option Value} (r : Room k A) (hj : j ≤ k) : L2H.RoomH j (A.mark h) :=
  ⟨by have := r.dp; show A.depth + 3 * j + 5 < _; omega, by have := r.un; show A.units + 16 * j + 200 < _; omega⟩
/-! ### builtins of two -/
section
variable {X : Cx} {F : Fx} {c : Ctx} {α β δ : Type} {k1 : Kd F.wd α} {k2 : Kd F.wd β} {k3 : Kd F.wd δ} {a b : Expr} {ma : Ctx.T c → Rs α} {mb : Ctx.T c → Rs β} {pos p : Pos}
theorem e_b2 {x : Str} {id : String} {r : List V → Hp → VK → Prop} {f : α → β → Rs δ} (hc : CallR X (.builtin id) r) (hs : Sem2 k1 k2 k3 (fun x y => r [x, y]) f) (hg : Gl X x) (hm : X.mg x = none) (hv : bootBuiltins x = some (.builtin id)) (ha : PE X a (tX F k1 c ma)) (hb : PE X b (tX F k2 c mb)) (hn : x ≠ "__name__" := by decide)
    (hdb : (x == ("__debug__" : Str)) = false := by decide) (he : starEach (a :: b :: []) X.env = (false, eval a X.env) :: starEach (b :: []) X.env := by rfl) (he2 : starEach (b :: []) X.env = (false, eval b X.env) :: starEach [] X.env := by rfl) (hpl : (backTo pos (starEach (b :: []) X.env)).any (·.1) = false := by rfl) :
    PE X (.Call (.Name x p) [a, b] [] pos) (tX F k3 c fun γ => (ma γ).bind fun x => (mb γ).bind fun y => f x y) :=
  pe_mono (pe_callB hc hg hm hv (pa_cons ha (pa_cons hb pa_nil he2) he) hn hdb he hpl) fun σ H Q h => tX2 hs h
theorem m_min2 {wd : Wd} : Sem2 (wd := wd) kF kF kF (fun x y => (fun xs H Q => ∃ i j, xs = [V.int i, V.int j] ∧ Q (.int (if j < i then j else i)) H : List V → Hp → VK → Prop) [x, y]) (fun (a b : Int) => .ok (min a b)) := by
  intro W σ B1 B2 H G x y a b Q gh hx hy p
  rw [show x = .int a from hx, show y = .int b from hy]
  refine ⟨a, b, rfl, p H G _ (Fr.refl gh) ?_⟩
  show V.int _ = V.int _
  congr 1
  split <;> omega
end
/-! ### in -/
omit [TabT] in
def memB {α : Type} [DecidableEq α] (a : α) (as : List α) : Bool := decide (a ∈ as)
/-! ### is, of bools -/
/-! ### isinstance of a caught error, several classes -/
omit [TabT] in
def tCs (vs : List V) : TA := fun _ H Q => Q vs H
section
variable {X : Cx} {F : Fx} {c : Ctx} {x : Str} {C a : Addr} {oe : Obj} {d : Option Addr} {pn : List (Addr × Obj)} {i : Nat} {p p2 p3 pos : Pos}
omit [TabT] in
def rIsXt (K : PySem.W.Frag) (C a : Addr) (d : Option Addr) : List V → Hp → VK → Prop := fun xs H Q => ∃ (q : Addr) (cs : List Addr) (b : Bool), xs = [.ref a, .ref q] ∧ H q = some (.tup (cs.map V.ref)) ∧ (d = none ∨ ∃ dd fs, d = some dd ∧ H dd = some (.xd fs)) ∧ PySem.W.kitAny K (.ref C) (cs.map Value.ref) = some b ∧ Q (.bl b) H
end
/-! ### None is None -/
/-! ### what is never come to -/
end
end Wm
set_option Elab.async false
set_option linter.all false
set_option maxRecDepth 100000
set_option maxHeartbeats 4000000
namespace Wm
open PySem PySem.Spec PyProof.Rows L2
open Rep (rep)
open Own (own)
variable [TabT]
/-! ### sorted(..) of texts -/
omit [TabT] in
theorem ltc_asymm : ∀ {a b : List Nat}, ltCps a b = true → ltCps b a = false
  | [], [], h => by cases h
  | [], _ :: _, _ => rfl
  | _ :: _, [], h => by cases h
  | a :: r, b :: t, h => by
    simp only [ltCps, Bool.or_eq_true, Bool.and_eq_true, decide_eq_true_eq, beq_iff_eq] at h
    simp only [ltCps, Bool.or_eq_false_iff, Bool.and_eq_false_iff, decide_eq_false_iff_not, beq_eq_false_iff_ne]
    rcases h with h | ⟨h1, h2⟩
    · exact ⟨by omega, .inl (by omega)⟩
    · exact ⟨by omega, .inr (ltc_asymm h2)⟩
omit [TabT] in
theorem ltc_anti : ∀ {a b : List Nat}, ltCps a b = false → ltCps b a = false → a = b
  | [], [], _, _ => rfl
  | [], _ :: _, h, _ => by cases h
  | _ :: _, [], _, h => by cases h
  | a :: r, b :: t, h, k => by
    simp only [ltCps, Bool.or_eq_false_iff, Bool.and_eq_false_iff, decide_eq_false_iff_not, beq_eq_false_iff_ne] at h k
    obtain ⟨h1, h2⟩ := h
    obtain ⟨k1, k2⟩ := k
    have e : a = b := by omega
    subst e
    rcases h2 with z | h2
    · exact absurd rfl z
    · rcases k2 with z | k2
      · exact absurd rfl z
      · rw [ltc_anti h2 k2]
omit [TabT] in
theorem ltc_trans : ∀ {a b c : List Nat}, ltCps b a = false → ltCps c b = false → ltCps c a = false
  | [], [], [], _, _ => rfl
  | [], [], _ :: _, _, h => rfl
  | [], _ :: _, [], _, h => by cases h
  | [], _ :: _, _ :: _, _, _ => rfl
  | _ :: _, [], [], h, _ => by cases h
  | _ :: _, [], _ :: _, h, _ => by cases h
  | _ :: _, _ :: _, [], _, h => by cases h
  | a :: r, b :: t, c :: u, h, k => by
    simp only [ltCps, Bool.or_eq_false_iff, Bool.and_eq_false_iff, decide_eq_false_iff_not, beq_eq_false_iff_ne] at h k ⊢
    obtain ⟨h1, h2⟩ := h
    obtain ⟨k1, k2⟩ := k
    refine ⟨by omega, ?_⟩
    by_cases e : c = a
    · refine .inr ?_
      have e1 : b = a := by omega
      subst e1
      subst e
      rcases h2 with z | h2
      · exact absurd rfl z
      · rcases k2 with z | k2
        · exact absurd rfl z
        · exact ltc_trans h2 k2
    · exact .inl e
omit [TabT] in
def leS (a b : Str) : Bool := !ltCps b.cps.toList a.cps.toList
omit [TabT] in
theorem leS_trans {a b c : Str} (h : leS a b = true) (k : leS b c = true) : leS a c = true := by
  unfold leS at *
  rw [Bool.not_eq_true'] at *
  exact ltc_trans h k
omit [TabT] in
theorem leS_total (a b : Str) : (leS a b || leS b a) = true := by
  unfold leS
  cases e : ltCps b.cps.toList a.cps.toList with
  | false => rfl
  | true => rw [ltc_asymm e]; rfl
omit [TabT] in
theorem leS_anti {a b : Str} (h : leS a b = true) (k : leS b a = true) : a = b := by
  unfold leS at *
  rw [Bool.not_eq_true'] at *
  exact Str.ext' (ltc_anti k h)
omit [TabT] in
def sortStr (xs : List Str) : List Str := xs.mergeSort leS
omit [TabT] in
theorem sortStr_perm (xs : List Str) : (sortStr xs).Perm xs := List.mergeSort_perm _ _
omit [TabT] in
theorem sortStr_up (xs : List Str) : (sortStr xs).Pairwise (fun a b => leS a b = true) := List.pairwise_mergeSort (le := leS) (fun _ _ _ h k => leS_trans h k) leS_total xs
omit [TabT] in
theorem sortStr_len (xs : List Str) : (sortStr xs).length = xs.length := (sortStr_perm xs).length_eq
omit [TabT] in
theorem risingS_up : ∀ {xs : List Str} {p : Str}, risingS p xs = true → (p :: xs).Pairwise (fun a b => leS a b = true)
  | [], p, _ => List.pairwise_singleton _ _
  | x :: xs, p, h => by
    have h' : (!ltCps x.cps.toList p.cps.toList && risingS x xs) = true := h
    rw [Bool.and_eq_true] at h'
    have ih := risingS_up h'.2
    refine List.pairwise_cons.mpr ⟨fun y hy => ?_, ih⟩
    rcases List.mem_cons.mp hy with e | e
    · rw [e]; exact h'.1
    · exact leS_trans h'.1 ((List.pairwise_cons.mp ih).1 y e)
omit [TabT] in
theorem sortedS_up : ∀ {xs : List Str}, sortedS xs = true → xs.Pairwise (fun a b => leS a b = true)
  | [], _ => List.Pairwise.nil
  | x :: xs, h => risingS_up h
omit [TabT] in
theorem sortStr_is {xs ys : List Str} (p : ys.Perm xs) (u : ys.Pairwise (fun a b => leS a b = true)) : ys = sortStr xs :=
  List.Perm.eq_of_pairwise (fun a b _ _ h1 h2 => leS_anti h1 h2) u (sortStr_up xs) (p.trans (sortStr_perm xs).symm)
omit [TabT] in
theorem reps.strs_ok {wd : Wd} {G : Hp} : ∀ {vs : List V} {as : List Str}, reps wd G vs as → ∀ a ∈ as, SOk a
  | [], [], _, _, h => by cases h
  | _ :: _, _ :: _, ⟨h, t⟩, a, m => by
    rcases List.mem_cons.mp m with e | e
    · rw [e]; exact h.2
    · exact reps.strs_ok t a e
  | [], _ :: _, h, _, _ => h.elim
  | _ :: _, [], h, _, _ => h.elim
omit [TabT] in
theorem reps.of_strs {wd : Wd} {G : Hp} : ∀ {as : List Str}, (∀ a ∈ as, SOk a) → reps wd G (as.map V.str) as
  | [], _ => trivial
  | a :: as, h => ⟨⟨rfl, h a List.mem_cons_self⟩, reps.of_strs fun b hb => h b (List.mem_cons_of_mem _ hb)⟩
omit [TabT] in
def sortS (xs : List Str) : Rs (List Str) := if xs.length < 64 then .ok (sortStr xs) else .no
theorem m_sortedS {wd : Wd} {K : PySem.W.Frag} : Sem1 (wd := wd) kB kO (fun x => rSortedS K [x]) sortS := by
  intro W σ B H G x a Q gh ⟨q, o, e1, e2, vs, e3, e4, r⟩ p
  subst e1; subst e3
  unfold sortS at p
  by_cases hl : a.length < 64
  · rw [if_pos hl] at p
    refine ⟨q, a, rfl, by rw [← r.strs]; exact .of e2, hl, fun ys d hp hu nd => ?_⟩
    have e := sortStr_is hp (sortedS_up hu)
    subst e
    exact p _ _ _ (Fr.alloc gh nd) ⟨d, _, rfl, nd, gh.free nd, upd_same, _, rfl, by rw [List.length_map, sortStr_len, ← r.len]; exact e4, reps.of_strs fun z hz => r.strs_ok z ((sortStr_perm a).mem_iff.mp hz)⟩
  · rw [if_neg hl] at p
    exact p.elim
/-! ### dicts -/
class KeyT (κ : Type) [Rep κ] where
  key : κ → Key
  inj : ∀ {a b : κ}, key a = key b → a = b
  to : ∀ {wd G v a}, rep wd G v a → v = kV (key a)
  any : ∀ {wd G wd' G' v} {a : κ}, rep wd G v a → rep wd' G' v a
omit [TabT] in
instance : KeyT Int := ⟨.inl, fun h => Sum.inl.inj h, fun h => h, fun h => h⟩
omit [TabT] in
instance : KeyT Str := ⟨.inr, fun h => Sum.inr.inj h, fun h => h.1, fun h => h⟩
structure Dct (κ α : Type) where
  es : List (κ × α)
/-- a dict that is only looked at -/
structure DV (κ α : Type) where
  d : Dct κ α
section
variable {κ α : Type} [Rep κ] [KeyT κ] [Rep α] {wd : Wd} {G G' : Hp}
omit [TabT] in
def rkv (wd : Wd) (G : Hp) : List (Key × V) → List (κ × α) → Prop
  | [], [] => True
  | p :: ps, e :: es => (p.1 = KeyT.key e.1 ∧ rep wd G (kV p.1) e.1 ∧ rep wd G p.2 e.2) ∧ rkv wd G ps es
  | _, _ => False
omit [TabT] in
theorem rkv.mono (s : Same G G') : ∀ {ps : List (Key × V)} {es : List (κ × α)}, rkv wd G ps es → rkv wd G' ps es
  | [], [], _ => trivial
  | _ :: _, _ :: _, ⟨⟨h1, h2, h3⟩, t⟩ => ⟨⟨h1, Rep.mono s h2, Rep.mono s h3⟩, rkv.mono s t⟩
  | [], _ :: _, h => h.elim
  | _ :: _, [], h => h.elim
omit [TabT] in
theorem rkv.len : ∀ {ps : List (Key × V)} {es : List (κ × α)}, rkv wd G ps es → ps.length = es.length
  | [], [], _ => rfl
  | _ :: _, _ :: _, ⟨_, t⟩ => congrArg (· + 1) (rkv.len t)
  | [], _ :: _, h => h.elim
  | _ :: _, [], h => h.elim
omit [TabT] in
theorem rkv.keyv : ∀ {ps : List (Key × V)} {es : List (κ × α)}, rkv wd G ps es → reps wd G (ps.map fun p => kV p.1) (es.map (·.1))
  | [], [], _ => trivial
  | _ :: _, _ :: _, ⟨⟨_, h2, _⟩, t⟩ => ⟨h2, rkv.keyv t⟩
  | [], _ :: _, h => h.elim
  | _ :: _, [], h => h.elim
end
namespace Dct
variable {κ α : Type} [DecidableEq κ]
omit [TabT] in
def get? (d : Dct κ α) (k : κ) : Option α := (d.es.find? fun e => decide (e.1 = k)).map (·.2)
omit [TabT] in
def put (d : Dct κ α) (k : κ) (a : α) : Dct κ α := ⟨if (d.es.any fun e => decide (e.1 = k)) = true then d.es.map (fun e => if e.1 = k then (e.1, a) else e) else d.es ++ [(k, a)]⟩
end Dct
section
variable {κ α : Type} [DecidableEq κ] [Rep κ] [KeyT κ] [Rep α] {wd : Wd} {G : Hp}
omit [TabT] in
theorem key_iff {a b : κ} : KeyT.key a = KeyT.key b ↔ a = b := ⟨KeyT.inj, fun h => by rw [h]⟩
omit [TabT] in
theorem rkv.get : ∀ {ps : List (Key × V)} {es : List (κ × α)} (k : κ), rkv wd G ps es → match (Dct.mk es).get? k with | none => valV ps (KeyT.key k) = none | some a => ∃ v, valV ps (KeyT.key k) = some v ∧ rep wd G v a
  | [], [], _, _ => rfl
  | p :: ps, e :: es, k, ⟨⟨h1, h2, h3⟩, t⟩ => by
    unfold Dct.get?
    dsimp only
    rw [List.find?_cons]
    by_cases c : e.1 = k
    · rw [decide_eq_true c]
      exact ⟨p.2, valV_pos (by rw [h1, c]), h3⟩
    · rw [decide_eq_false c]
      have := rkv.get k t
      unfold Dct.get? at this
      dsimp only at this ⊢
      rw [valV_neg (fun z => c (KeyT.inj (h1.symm.trans z)))]
      exact this
  | [], _ :: _, _, h => h.elim
  | _ :: _, [], _, h => h.elim
omit [TabT] in
theorem rkv.anyk : ∀ {ps : List (Key × V)} {es : List (κ × α)} (k : κ), rkv wd G ps es → (ps.any fun p => decide (p.1 = KeyT.key k)) = es.any fun e => decide (e.1 = k)
  | [], [], _, _ => rfl
  | p :: ps, e :: es, k, ⟨⟨h1, h2, h3⟩, t⟩ => by
    rw [List.any_cons, List.any_cons, rkv.anyk k t, h1]
    congr 1
    rw [decide_eq_decide]
    exact key_iff
  | [], _ :: _, _, h => h.elim
  | _ :: _, [], _, h => h.elim
omit [TabT] in
theorem rkv.repl {k : κ} {v : V} {a : α} (hv : rep wd G v a) : ∀ {ps : List (Key × V)} {es : List (κ × α)}, rkv wd G ps es → rkv wd G (ps.map fun p => if p.1 = KeyT.key k then (p.1, v) else p) (es.map fun e => if e.1 = k then (e.1, a) else e)
  | [], [], _ => trivial
  | p :: ps, e :: es, ⟨⟨h1, h2, h3⟩, t⟩ => by
    refine ⟨?_, rkv.repl hv t⟩
    dsimp only
    by_cases c : e.1 = k
    · rw [if_pos c, if_pos (by rw [h1, c])]
      exact ⟨h1, h2, hv⟩
    · rw [if_neg c, if_neg fun z => c (KeyT.inj (h1.symm.trans z))]
      exact ⟨h1, h2, h3⟩
  | [], _ :: _, h => h.elim
  | _ :: _, [], h => h.elim
omit [TabT] in
theorem rkv.snoc {k : κ} {v : V} {a : α} (hk : rep wd G (kV (KeyT.key k)) k) (hv : rep wd G v a) : ∀ {ps : List (Key × V)} {es : List (κ × α)}, rkv wd G ps es → rkv wd G (ps ++ [(KeyT.key k, v)]) (es ++ [(k, a)])
  | [], [], _ => ⟨⟨rfl, hk, hv⟩, trivial⟩
  | _ :: _, _ :: _, ⟨h, t⟩ => ⟨h, rkv.snoc hk hv t⟩
  | [], _ :: _, h => h.elim
  | _ :: _, [], h => h.elim
omit [TabT] in
theorem rkv.put {ps : List (Key × V)} {es : List (κ × α)} {k : κ} {v : V} {a : α} (h : rkv wd G ps es) (hk : rep wd G (kV (KeyT.key k)) k) (hv : rep wd G v a) : rkv wd G (putK ps (KeyT.key k) v) ((Dct.mk es).put k a).es := by
  unfold putK Dct.put
  dsimp only
  rw [h.anyk k]
  by_cases c : (es.any fun e => decide (e.1 = k)) = true
  · rw [if_pos c, if_pos c]; exact h.repl hv
  · rw [if_neg c, if_neg c]; exact h.snoc hk hv
end
omit [TabT] in
instance {κ α : Type} [Rep κ] [KeyT κ] [Rep α] : Own (Dct κ α) where
  own := fun wd G o d => ∃ ps, o = .dK ps ∧ ps.length ≤ sizeLine ∧ rkv wd G ps d.es
  pl := fun ⟨_, e, _⟩ => by subst e; exact ⟨(fun _ z => nomatch z), (fun _ z => nomatch z)⟩
  mono := fun s ⟨ps, e, l, h⟩ => ⟨ps, e, l, h.mono s⟩
omit [TabT] in
instance {κ α : Type} [Rep κ] [KeyT κ] [Rep α] : Own (DV κ α) where
  own := fun wd G o d => ∃ ps, (o = .dK ps ∨ ∃ ob, o = .frz ob (.dK ps)) ∧ ps.length ≤ sizeLine ∧ rkv wd G ps d.d.es
  pl := fun ⟨_, e, _⟩ => by
    rcases e with e | ⟨_, e⟩ <;> subst e <;> exact ⟨(fun _ z => nomatch z), (fun _ z => nomatch z)⟩
  mono := fun s ⟨ps, e, l, h⟩ => ⟨ps, e, l, h.mono s⟩
omit [TabT] in
instance {κ α : Type} [Rep κ] [KeyT κ] [Rep α] : LkO (DV κ α) := ⟨fun ⟨ps, e, l, h⟩ z => by
  rcases e with e | ⟨_, e⟩ <;> rw [e] at z <;> cases z
  exact ⟨_, .inr ⟨_, rfl⟩, l, h⟩⟩
section
variable {X : Cx} {F : Fx} {c : Ctx} {κ α β : Type} [Rep κ] [KeyT κ] [Rep α] {e o i f : Expr} {pos p apos cpos : Pos}
/-- an owned dict, looked at -/
theorem e_dv {m : Ctx.T c → Rs (Dct κ α)} (h : PE X e (tX F kB c m)) : PE X e (tX F (kB (β := DV κ α)) c fun γ => (m γ).bind fun d => .ok (DV.mk d)) :=
  pe_mono h fun σ H Q ⟨H0, G0, G, os, γ, st, p⟩ => ⟨H0, G0, G, os, γ, st, by
    cases e : m γ with
    | no => dsimp only at p; rw [e] at p; exact p
    | ex x => dsimp only at p; rw [e] at p; exact p
    | ok b =>
      dsimp only at p; rw [e] at p
      exact fun H' G' v f ⟨q, o, e1, e2, ps, e3, e4, e5⟩ => p H' G' v f ⟨q, o, e1, e2, ps, .inl e3, e4, e5⟩⟩
theorem e_dnew : PE X (.Dict [] [] pos) (tX F kO c fun _ => .ok (⟨[]⟩ : Dct κ α)) :=
  pe_mono pe_dnewK fun σ H Q ⟨H0, G0, G, os, γ, st, p⟩ => fun d nd => p _ _ _ (Fr.alloc st.f.gh nd) ⟨d, _, rfl, nd, st.f.gh.free nd, upd_same, [], rfl, Nat.zero_le _, trivial⟩
omit [TabT] in
theorem rd_dv {H : Hp} {q : Addr} {o : HO} {ps : List (Key × V)} (h : H q = some o) (e : o = .dK ps ∨ ∃ ob, o = .frz ob (.dK ps)) : Rd H q (.dK ps) := by
  rcases e with e | ⟨ob, e⟩
  · subst e; exact .inl h
  · subst e; exact .inr ⟨ob, h⟩
omit [TabT] in
theorem rd_up {H H' : Hp} {q : Addr} {u : HO} (r : Rd H q u) (s : Same H H') (n : ∀ ps, u ≠ .tbl ps := by intro _ z; cases z) : Rd H' q u := by
  rcases r with r | ⟨ob, r⟩
  · exact .inl (s.v r n)
  · exact .inr ⟨ob, s.v r⟩
variable [DecidableEq κ]
omit [TabT] in
def dgetR (d : Dct κ α) (k : κ) : Rs α := match d.get? k with | some a => .ok a | none => .no
/-- d[k], there -/
theorem e_dget {m : Ctx.T c → Rs (DV κ α)} {mk : Ctx.T c → Rs κ} (hu : X.A.units + 1 < cLine) (h : PE X o (tX F kB c m)) (hk : PE X i (tX F kF c mk)) (hs : NoSl i := by exact fun _ _ => rfl) :
    PE X (.Subscript o i pos) (tX F kF c fun γ => (m γ).bind fun d => (mk γ).bind fun k => dgetR d.d k) :=
  pe_mono (pe_dget hu h hk hs) fun σ H Q ⟨H0, G0, G, os, γ, st, p⟩ => ⟨H0, G0, G, os, γ, st, p.step kB fun x H1 G1 d f1 ⟨q, ob, e1, e2, ps, e3, e4, e5⟩ p1 => ⟨H0, G0, G1, os, γ, st.ext f1, p1.step kF fun y H2 G2 k f2 r2 p2 => by
    have g := (e5.mono f2.g).get k
    unfold dgetR at p2
    change Post F.W kF σ H2 G2 Q (match d.d.get? k with | some a => .ok a | none => .no) at p2
    cases eg : d.d.get? k with
    | none => rw [eg] at p2; exact p2.elim
    | some a =>
      rw [eg] at p2 g
      obtain ⟨v, hv, rv⟩ := g
      exact ⟨q, v, e1, .inl ⟨ps, KeyT.key k, rd_up (rd_dv e2 e3) f2.h, KeyT.to r2, hv.symm⟩, p2 _ _ _ (Fr.refl f2.gh) rv⟩⟩⟩
/-- d.get(k, z) -/
theorem e_dget2 {m : Ctx.T c → Rs (DV κ α)} {mk : Ctx.T c → Rs κ} {mz : Ctx.T c → Rs α} (hu : X.A.units + 1 < cLine) (h : PE X o (tX F kB c m)) (hk : PE X e (tX F kF c mk)) (hz : PE X f (tX F kF c mz)) (mm : M2 X o "get" apos e f cpos := by exact ⟨by rfl, by rfl, by rfl, by rfl⟩) :
    PE X (.Call (.Attribute o "get" apos) [e, f] [] cpos) (tX F kF c fun γ => (m γ).bind fun d => (mk γ).bind fun k => (mz γ).bind fun z => .ok ((d.d.get? k).getD z)) :=
  pe_mono (pe_dget2 hu h hk hz mm) fun σ H Q ⟨H0, G0, G, os, γ, st, p⟩ => ⟨H0, G0, G, os, γ, st, p.step kB fun x H1 G1 d f1 ⟨q, ob, e1, e2, ps, e3, e4, e5⟩ p1 => ⟨q, e1, .inl ⟨ps, rd_dv e2 e3⟩, H0, G0, G1, os, γ, st.ext f1, p1.step kF fun y H2 G2 k f2 r2 p2 =>
    ⟨H0, G0, G2, os, γ, (st.ext f1).ext f2, p2.step kF fun w H3 G3 z f3 r3 p3 => by
    have g := (e5.mono (f2.g.trans f3.g)).get k
    refine ⟨valV ps (KeyT.key k), .inl ⟨ps, KeyT.key k, rd_up (rd_dv e2 e3) (f2.h.trans f3.h), KeyT.to r2, rfl⟩, ?_⟩
    change Post F.W kF σ H3 G3 Q (.ok ((d.d.get? k).getD z)) at p3
    cases eg : d.d.get? k with
    | none =>
      rw [eg] at p3 g
      dsimp only at g
      rw [g]
      exact p3 _ _ _ (Fr.refl f3.gh) r3
    | some a =>
      rw [eg] at p3 g
      obtain ⟨v, hv, rv⟩ := g
      rw [hv]
      exact p3 _ _ _ (Fr.refl f3.gh) rv⟩⟩⟩
omit [TabT] in
omit [TabT] in
/-- d[k] = a -/
def dputR {κ α : Type} [DecidableEq κ] (d : Dct κ α) (k : κ) (a : α) : Rs (Dct κ α) := if d.es.length < 16777216 then .ok (d.put k a) else .no
theorem s_dput {j : Nat} {m : Ctx.T c → Rs α} {mi : Ctx.T c → Rs κ} {x : Str} {p1 p2 : Pos} (hu : X.A.units + 1 < cLine) (v : Var c (.ow j (Dct κ α))) (h : PE X e (tX F kF c m)) (hi : PE X i (tX F kF c mi)) (hN : X.N[j]? = some x := by rfl) (hv : Vis X.env.scope x := by first | exact Or.inl rfl | exact Or.inr (Or.inl rfl) | exact Or.inr (Or.inr rfl))
    (hd : (x == ("__debug__" : Str)) = false := by decide) (hcd : (x == ("__classdict__" : Str)) = false := by decide)
    (hs : swapsWith e (some (.Subscript (.Name x p1) i p2)) pos.line X.env = pure false := by rfl) :
    PS X (.Assign [.Subscript (.Name x p1) i p2] e pos) (tS F c c fun γ => (m γ).bind fun a => (mi γ).bind fun k => (dputR (v.get γ) k a).bind fun ys => .ok (v.put γ ys)) :=
  ps_mono (ps_dput hu (pe_var hN hv hd hcd) hi h hs) fun D σ H ⟨H0, G0, G, os, γ, st, p⟩ => ⟨H0, G0, G, os, γ, st, p.step st kF fun va H1 G1 a f1 r1 p1 => by
    have st1 := st.ext f1
    obtain ⟨q, o, e1, e2, e3, e4⟩ := st1.write v
    refine ⟨.ref q, e1, H0, G0, G1, os, γ, st1, p1.step st1 kF fun vk H2 G2 k f2 r2 p2 => ?_⟩
    have st2 := st1.ext f2
    obtain ⟨q2, o2, d1, d2, ⟨ps, d3, d5, d6⟩, d4⟩ := st2.write v
    subst d3
    have eq : q2 = q := by rw [e1] at d1; injection d1 with d1; injection d1 with d1; injection d1 with d1; exact d1.symm
    subst eq
    have p3 : PostN F H0 G0 c D ((dputR (v.get γ) k a).bind fun ys => .ok (v.put γ ys)) := p2
    unfold dputR at p3
    by_cases hl : (v.get γ).es.length < 16777216
    · rw [if_pos hl] at p3
      have hps : ps.length < sizeLine := by rw [d6.len, sizeLine_eq]; exact hl
      have hk : vk = kV (KeyT.key k) := KeyT.to r2
      refine ⟨q2, _, rfl, .inl ⟨ps, KeyT.key k, d2, hk, hps, rfl⟩, p3 _ _ _ _ (d4 _ _ ⟨_, rfl, ?_, d6.put (by rw [← hk]; exact r2) (Rep.mono f2.g r1)⟩)⟩
      have := length_putK ps (KeyT.key k) va
      omega
    · rw [if_neg hl] at p3
      exact p3.elim⟩
end
section
variable {wd : Wd} {κ α : Type} [Rep κ] [KeyT κ] [Rep α]
omit [TabT] in
def rLenDV : List V → Hp → VK → Prop := fun xs H Q => ∃ a kvs, xs = [V.ref a] ∧ Rd H a (.dK kvs) ∧ Q (.int kvs.length) H
theorem m_lenDV : Sem1 (wd := wd) kB kF (fun x => rLenDV [x]) (fun (d : DV κ α) => .ok (d.d.es.length : Int)) := by
  intro W σ B H G x d Q gh ⟨q, o, e1, e2, ps, e3, e4, e5⟩ p
  subst e1
  refine ⟨q, ps, rfl, rd_dv e2 e3, ?_⟩
  rw [e5.len]
  exact p _ _ _ (Fr.refl gh) rfl
theorem m_listDV : Sem1 (wd := wd) kB kO (fun x => (fun xs H Q => ∃ (a : Addr) (kvs : List (Key × V)), xs = [.ref a] ∧ Rd H a (.dK kvs) ∧ ∀ p, H p = none → Q (.ref p) (upd H p (.lst (kvs.map fun kv => kV kv.1))) : List V → Hp → VK → Prop) [x]) (fun (d : DV κ α) => .ok (d.d.es.map (·.1))) := by
  intro W σ B H G x d Q gh ⟨q, o, e1, e2, ps, e3, e4, e5⟩ p
  subst e1
  exact ⟨q, ps, rfl, rd_dv e2 e3, fun a nd => p _ _ _ (Fr.alloc gh nd) ⟨a, _, rfl, nd, gh.free nd, upd_same, _, rfl, by rw [List.length_map]; exact e4, e5.keyv⟩⟩
theorem m_dictDV : Sem1 (wd := wd) kB kO (fun x => (fun xs H Q => ∃ (a : Addr) (kvs : List (Key × V)), xs = [.ref a] ∧ Rd H a (.dK kvs) ∧ ∀ p, H p = none → Q (.ref p) (upd H p (.dK kvs)) : List V → Hp → VK → Prop) [x]) (fun (d : DV κ α) => .ok d.d) := by
  intro W σ B H G x d Q gh ⟨q, o, e1, e2, ps, e3, e4, e5⟩ p
  subst e1
  exact ⟨q, ps, rfl, rd_dv e2 e3, fun a nd => p _ _ _ (Fr.alloc gh nd) ⟨a, _, rfl, nd, gh.free nd, upd_same, ps, rfl, e4, e5⟩⟩
omit [TabT] in
theorem keysS {G : Hp} : ∀ {ps : List (Key × V)} {es : List (Str × α)}, rkv wd G ps es → ps.map (·.1) = (es.map (·.1)).map Sum.inr
  | [], [], _ => rfl
  | _ :: _, _ :: _, ⟨⟨h1, _⟩, t⟩ => by rw [List.map_cons, List.map_cons, List.map_cons, h1, keysS t]; rfl
  | [], _ :: _, h => h.elim
  | _ :: _, [], h => h.elim
omit [TabT] in
theorem keys_sok {G : Hp} : ∀ {ps : List (Key × V)} {es : List (Str × α)}, rkv wd G ps es → ∀ k ∈ es.map (·.1), SOk k
  | [], [], _, _, h => by cases h
  | _ :: _, _ :: _, ⟨⟨_, h2, _⟩, t⟩, k, m => by
    rcases List.mem_cons.mp m with e | e
    · rw [e]; exact h2.2
    · exact keys_sok t k e
  | [], _ :: _, h, _, _ => h.elim
  | _ :: _, [], h, _, _ => h.elim
theorem m_sortedDS : Sem1 (wd := wd) kB kO (fun x => (fun xs H Q => ∃ (a : Addr) (kvs : List (Key × V)) (ks : List Str), xs = [.ref a] ∧ Rd H a (.dK kvs) ∧ kvs.map (·.1) = ks.map Sum.inr ∧ ks.length < 64 ∧
    ∀ ys p, ys.Perm ks → sortedS ys = true → H p = none → Q (.ref p) (upd H p (.lst (ys.map V.str))) : List V → Hp → VK → Prop) [x]) (fun (d : DV Str α) => sortS (d.d.es.map (·.1))) := by
  intro W σ B H G x d Q gh ⟨q, o, e1, e2, ps, e3, e4, e5⟩ p
  subst e1
  unfold sortS at p
  dsimp only at p
  by_cases hl : (d.d.es.map (·.1)).length < 64
  · rw [if_pos hl] at p
    refine ⟨q, ps, _, rfl, rd_dv e2 e3, keysS e5, hl, fun ys a hp hu nd => ?_⟩
    have e := sortStr_is hp (sortedS_up hu)
    subst e
    exact p _ _ _ (Fr.alloc gh nd) ⟨a, _, rfl, nd, gh.free nd, upd_same, _, rfl, by rw [List.length_map, sortStr_len, sizeLine_eq]; omega, reps.of_strs fun z hz => keys_sok e5 z ((sortStr_perm _).mem_iff.mp hz)⟩
  · rw [if_neg hl] at p
    exact p.elim
omit [TabT] in
def sortID (xs : List Int) : Rs (List Int) := if xs.length < 64 then .ok (sortI xs) else .no
/-! ### + of an own class -/
variable {X : Cx} {n : Nat} {f C : Addr} {fd : FuncData} {ps : List Str} {sp : Sp}
omit [TabT] in
def rAddW (C : Addr) (sp : Sp) : R2 := fun x y H Q => ∃ a b dx dy fs gs, x = .ref a ∧ y = .ref b ∧ H a = some (.ins C dx fs) ∧ H b = some (.ins C dy gs) ∧ sp [.ref a, .ref b] H (fun v H' => (∃ p, v = .ref p) ∧ Q v H') fun _ _ _ => False
end
omit [TabT] in
theorem room2 {k : Nat} {A : Around} (r : Room k A) : A.units + 1 < cLine := by have := r.un; omega
section
variable {X : Cx} {F : Fx} {c : Ctx} {κ α : Type} [Rep κ] [KeyT κ] [Rep α] [DecidableEq κ] {e o : Expr} {pos : Pos} {m : Ctx.T c → Rs (DV κ α)} {mk : Ctx.T c → Rs κ}
end
end Wm
set_option Elab.async false
set_option linter.all false
set_option maxRecDepth 100000
set_option maxHeartbeats 4000000
namespace Wm
open PySem PySem.Spec PyProof.Rows L2
open Rep (rep)
open Own (own)
variable [TabT]
/-! ### enumerate of a tuple -/
omit [TabT] in
abbrev itO (l : Addr) : Obj := { cls := .type "tuple_iterator", data := .fields #[.ref l, .int 0 0] }
omit [TabT] in
abbrev enO (n : Addr) : Obj := { cls := .type "enumerate", data := .fields #[.none, .bool false, .ref n, rawInt 0, .none, .none] }
section
variable {prog : Program} {w : World} {A : Around} {E : Value → Shared → Prop} {s : Shared}
end
section
variable {prog : Program} {w : World} {A : Around} {E : Value → Shared → Prop} {s : Shared}
end
omit [TabT] in
omit [TabT] in
/-- the tuple at a, each item in a new pair -/
def ItT (K : PySem.W.Frag) (a : Addr) : It :=
  ⟨fun i H => ∃ (xs : List V) (x : V), SqT K H a xs ∧ xs[i]? = some x, fun i H v H' => ∃ t x, v = .ref t ∧ H t = none ∧ H' = upd H t (.tup [.int (i : Nat), x]) ∧ ∀ xs, SqT K H a xs → xs[i]? = some x, fun i H => ∃ xs : List V, SqT K H a xs ∧ xs.length ≤ i⟩
omit [TabT] in
def iEnT (K : PySem.W.Frag) (ta : TA) : TI := fun σ H R => ta σ H fun vs H1 => ∃ a xs, vs = [.ref a] ∧ SqT K H1 a xs ∧ R (ItT K a) H1
/-! ### list(range(a, b, -1)) -/
omit [TabT] in
def downV (a b : Int) : List V := (List.range (a - b).toNat).map fun i => V.int (a + (i : Nat) * (-1))
omit [TabT] in
def tDown (t : TA) : TE := fun σ H Q => t σ H fun vs H1 => ∃ a b : Int, vs = [.int a, .int b, .int (-1)] ∧ -(2 ^ 62) ≤ a ∧ a < 2 ^ 62 ∧ -(2 ^ 62) ≤ b ∧ b < 2 ^ 62 ∧ (a - b).toNat ≤ 2 ^ 24 ∧ ∀ q, H1 q = none → Q (.ref q) (upd H1 q (.lst (downV a b)))
omit [TabT] in
def RngDL (a b : Int) : Rs (List Int) := if -4611686018427387904 ≤ a ∧ a ≤ 4611686018427387903 ∧ -4611686018427387904 ≤ b ∧ b ≤ 4611686018427387903 ∧ (a - b).toNat ≤ 16777216 then .ok (rngD a b) else .no
end Wm
set_option Elab.async false
set_option linter.all false
set_option maxRecDepth 100000
set_option maxHeartbeats 4000000
namespace L2
open PySem PySem.Spec PyProof.Rows
/-! ### xs[1::-1] -/
def rev2 {α : Type} (xs : List α) : List α := (xs.take 2).reverse
def tRev2L (K : PySem.W.Frag) (te : TE) : TE := fun σ H Q => te σ H fun x H1 => ∃ a xs, x = .ref a ∧ SqL K H1 a xs ∧ ∀ p, H1 p = none → Q (.ref p) (upd H1 p (.lst (rev2 xs)))
variable {X : Cx}
end L2
namespace Wm
open PySem PySem.Spec PyProof.Rows L2
open Rep (rep)
open Own (own)
variable [TabT]
section
variable {X : Cx} {F : Fx} {c : Ctx} {α : Type} {e : Expr}
/-! ### tuple + tuple -/
omit [TabT] in
def catA {α : Type} (a b : Tup α) : Rs (Tup α) := if a.items.length + b.items.length ≤ 16777216 then .ok (Tup.mk (a.items ++ b.items)) else .no
variable {wd : Wd} {K : PySem.W.Frag}
end
end Wm
set_option Elab.async false
set_option linter.all false
set_option maxRecDepth 100000
set_option maxHeartbeats 4000000
/-! break and continue -/
namespace Wm
open PySem PySem.Spec PyProof.Rows L2
open Rep (rep)
open Own (own)
variable [TabT]
/-- a block in a loop with the context cl: what follows; (true, γ): a break; (false, γ): a continue -/
def PostE (F : Fx) (cl : Ctx) (H0 G0 : Hp) (c : Ctx) (D : Ends) : Rs (Ctx.T c ⊕ (Bool × Ctx.T cl)) → Prop
  | .ok (.inl γ) => ∀ σ H G os, Stt F.wd F.n H0 G0 σ H G os c γ → D.nx σ H
  | .ok (.inr (b, γ)) => ∀ σ H G os, Stt F.wd F.n H0 G0 σ H G os cl γ → if b = true then D.bk σ H else D.ct σ H
  | .ex x => ∀ d σ H G, F.n.P σ → Fr H0 G0 H G → RepX G d x → F.W (.ref (F.wd.cm x.cls)) d σ H
  | .no => False
def tE (F : Fx) (cl c c' : Ctx) (m : Ctx.T c → Rs (Ctx.T c' ⊕ (Bool × Ctx.T cl))) : TS := fun D σ H => ∃ H0 G0 G os γ, Stt F.wd F.n H0 G0 σ H G os c γ ∧ PostE F cl H0 G0 c' D (m γ)
section
variable {F : Fx} {α : Type} {k : Kd F.wd α} {H0 G0 H G : Hp} {σ : L2.St} {cl c c' : Ctx} {D D' : Ends} {Q : VK} {r : Rs α}
end
section
variable {X : Cx} {F : Fx} {α ρ : Type} {cl c c1 c' : Ctx} {st : Stmt} {rest sts : List Stmt}
/-! ### the loop -/
omit [TabT] in
def Rs.foldC {γ α : Type} (f : γ → α → Rs (γ ⊕ (Bool × γ))) : γ → List α → Rs γ
  | g, [] => .ok g
  | g, x :: xs => (f g x).bind fun z => match z with
    | .inl g' => Rs.foldC f g' xs
    | .inr (false, g') => Rs.foldC f g' xs
    | .inr (true, g') => .ok g'
end
end Wm
set_option Elab.async false
set_option linter.all false
set_option maxRecDepth 100000
set_option maxHeartbeats 4000000
/-! values of one type or another -/
namespace Wm
open PySem PySem.Spec PyProof.Rows L2
open Rep (rep)
open Own (own)
variable [TabT]
omit [TabT] in
instance {α β : Type} [Rep α] [Rep β] : Rep (α ⊕ β) where
  rep := fun wd G v a => match a with
    | .inl a => rep wd G v a
    | .inr b => rep wd G v b
  mono := fun {wd G G' v a} s h => by
    cases a with
    | inl a => exact Rep.mono (α := α) s h
    | inr b => exact Rep.mono (α := β) s h
omit [TabT] in
def theL {α β : Type} (o : α ⊕ β) : Rs α := match o with | .inl a => .ok a | .inr _ => .no
omit [TabT] in
def theR {α β : Type} (o : α ⊕ β) : Rs β := match o with | .inr a => .ok a | .inl _ => .no
structure Cst (α β : Type) [Rep α] [Rep β] where
  go : α → β
  ok : ∀ {wd : Wd} {G : Hp} {v : V} {a : α}, rep wd G v a → rep wd G v (go a)
omit [TabT] in
def Cst.i {α : Type} [Rep α] : Cst α α := ⟨fun a => a, fun h => h⟩
omit [TabT] in
def Cst.l {α β : Type} [Rep α] [Rep β] : Cst α (α ⊕ β) := ⟨.inl, fun h => h⟩
omit [TabT] in
def Cst.r {α β γ : Type} [Rep α] [Rep β] [Rep γ] (k : Cst α β) : Cst α (γ ⊕ β) := ⟨fun a => .inr (k.go a), fun h => k.ok h⟩
omit [TabT] in
def Cst.p {α β α' β' : Type} [Rep α] [Rep β] [Rep α'] [Rep β'] (k : Cst α α') (j : Cst β β') : Cst (α × β) (α' × β') :=
  ⟨fun a => (k.go a.1, j.go a.2), fun ⟨p, o, e, g, v, w, e2, h1, h2⟩ => ⟨p, o, e, g, v, w, e2, k.ok h1, j.ok h2⟩⟩
omit [TabT] in
omit [TabT] in
/-- a pair, three things, as a tuple of one kind -/
def Cst.pt {α : Type} [Rep α] : Cst (α × α) (Tup α) :=
  ⟨fun a => ⟨[a.1, a.2]⟩, fun ⟨p, o, e, g, v, w, e2, h1, h2⟩ => ⟨p, o, e, g, [v, w], e2, by rw [sizeLine_eq]; show (2 : Nat) ≤ _; decide, h1, h2, trivial⟩⟩
omit [TabT] in
def Cst.tt {α : Type} [Rep α] : Cst (T3 α α α) (Tup α) :=
  ⟨fun a => ⟨[a.a, a.b, a.c]⟩, fun ⟨p, o, e, g, v, w, u, e2, h1, h2, h3⟩ => ⟨p, o, e, g, [v, w, u], e2, by rw [sizeLine_eq]; show (3 : Nat) ≤ _; decide, h1, h2, h3, trivial⟩⟩
section
variable {X : Cx} {F : Fx} {c : Ctx} {α β : Type} {e : Expr}
theorem e_theR [Rep α] [Rep β] {m : Ctx.T c → Rs (α ⊕ β)} (h : PE X e (tX F kF c m)) : PE X e (tX F kF c fun γ => (m γ).bind theR) :=
  pe_mono h fun σ H Q ⟨H0, G0, G, os, γ, st, p⟩ => ⟨H0, G0, G, os, γ, st, p.step kF fun v H1 G1 a fr ra p1 => by
    cases a with
    | inl b => exact p1.elim
    | inr b => exact p1 H1 G1 v (Fr.refl fr.gh) ra⟩
theorem e_cst [Rep α] [Rep β] (k : Cst α β) {m : Ctx.T c → Rs α} (h : PE X e (tX F kF c m)) : PE X e (tX F kF c fun γ => (m γ).bind fun a => .ok (k.go a)) :=
  pe_mono h fun σ H Q ⟨H0, G0, G, os, γ, st, p⟩ => ⟨H0, G0, G, os, γ, st, p.step kF fun v H1 G1 a fr ra p1 => p1 H1 G1 v (Fr.refl fr.gh) (k.ok ra)⟩
end
end Wm
set_option Elab.async false
set_option linter.all false
set_option maxRecDepth 100000
set_option maxHeartbeats 4000000
/-! sorted(xs) and sorted(xs, reverse=True) of items that are data -/
namespace L2
open PySem PySem.Spec PyProof.Rows
open PySem.W (EachIs AllAlike Sortable dataLe)
section
variable {X : Cx} {pins : List (Addr × Obj)} {σ : St} {H : Hp} {s : Shared} {β : Type}
def rSortD (K : PySem.W.Frag) (rev : Bool) (enc : β → PyData) : Addr → Hp → VK → Prop := fun a H Q => ∃ (xs : List V) (bs : List β), SqL K H a xs ∧ EachIs (fun x b => Dp K H x (enc b)) xs bs ∧ AllAlike (bs.map enc) ∧ Sortable (bs.map enc) ∧ (∀ b, b ∈ bs → (enc b).depth ≤ 60) ∧
  ∀ p, H p = none → Q (.ref p) (upd H p (.lst (((xs.zip bs).mergeSort (dataLe rev fun z => enc z.2)).map Prod.fst)))
end
end L2
namespace Wm
open PySem PySem.Spec PyProof.Rows L2
open PySem.W (EachIs AllAlike Sortable dataLe)
open Rep (rep)
open Own (own)
variable [TabT]
class SortT (α : Type) [Rep α] [DecidableEq α] [PyEq α] where
  al : ∀ a b : α, PySem.W.alike (PyEq.d a) (PyEq.d b) = true
  so : ∀ xs : List α, Sortable (xs.map PyEq.d)
  le : α → α → Bool
  up : ∀ a b : α, dataLe false PyEq.d a b = le a b
  dn : ∀ a b : α, dataLe true PyEq.d a b = le b a
omit [TabT] in
instance : SortT Int where
  al := fun _ _ => by simp [PyEq.d, PySem.W.alike]
  so := fun xs => Sortable.others fun b => ⟨by simp [PyEq.d], by simp [PyEq.d]⟩
  le := fun a b => decide (a ≤ b)
  up := fun a b => congrFun (congrFun (PySem.W.dataLe_int (β := Int) fun x => x) a) b
  dn := fun a b => congrFun (congrFun (PySem.W.dataGe_int (β := Int) fun x => x) a) b
omit [TabT] in
def leP (a b : Int × Int) : Bool := decide (a.1 < b.1 ∨ (a.1 = b.1 ∧ a.2 ≤ b.2))
omit [TabT] in
instance : SortT (Int × Int) where
  al := fun _ _ => by simp [PyEq.d, PySem.W.alike, PySem.W.alikeAll]
  so := fun xs => Sortable.tuples fun b => ⟨_, _, rfl⟩
  le := leP
  up := fun a b => congrFun (congrFun (PySem.W.dataLe_ii (β := Int × Int) (fun x => x.1) fun x => x.2) a) b
  dn := fun a b => by
    rw [PySem.W.dataLe_eq]
    show (!PySem.W.dataLt (.tuple [.int a.1, .int a.2]) (.tuple [.int b.1, .int b.2])) = leP b a
    rw [PySem.W.dataLt_ii]
    unfold leP
    by_cases c : a.1 < b.1 ∨ (a.1 = b.1 ∧ a.2 < b.2)
    · rw [decide_eq_true c, decide_eq_false (by omega)]; rfl
    · rw [decide_eq_false c, decide_eq_true (by omega)]; rfl
section
variable {α : Type} [Rep α] [DecidableEq α] [PyEq α] [SortT α] {wd : Wd} {K : PySem.W.Frag}
section
variable {X : Cx} {F : Fx} {c : Ctx} {ma : Ctx.T c → Rs (List α)} {e : Expr} {p pos : Pos} {x : Str} {j : Nat} {p1 p2 : Pos}
end
end
/-! ### not xs -/
section
variable {X : Cx} {F : Fx} {c : Ctx} {α : Type} {e : Expr}
end
end Wm
set_option Elab.async false
set_option linter.all false
set_option maxRecDepth 100000
set_option maxHeartbeats 4000000
namespace Wm
open PySem PySem.Spec PyProof.Rows L2
open Rep (rep)
open Own (own)
variable [TabT]
/-! ### any(xs), all(xs) of truth values -/
/-! ### xs or [], xs a list or None -/
section
variable {X : Cx} {F : Fx} {c : Ctx} {α : Type} {a b : Expr}
end
/-! ### isinstance of a text or None, a number or None -/
end Wm
set_option Elab.async false
set_option linter.all false
set_option maxRecDepth 100000
set_option maxHeartbeats 4000000
/-! sorted(xs, key=lambda y: (-r[y][0], y)): r a captured list of pairs -/
namespace L2
open PySem PySem.Spec PyProof.Rows
section
variable {P : Program} {w : World} {A : Around} {s : Shared}
/-- what the lambda's scope must be -/
structure KeyScope (scope : Scope) (y r : Str) : Prop where
  kind : scope.kind = .function
  co : scope.isCoroutine = false
  gen : scope.isGenerator = false
  nc : ∀ z ∈ scope.names, z.2 ≠ .cell
  par : scope.names.lookup y = some .local
  cap : scope.names.lookup r = some .free
  fr : ∀ z ∈ scope.names, z.2 = .free → z.1 = r
def keyScopeB (scope : Scope) (y r : Str) : Bool := decide (scope.kind = .function) && !scope.isCoroutine && !scope.isGenerator && (scope.names.all fun z => !decide (z.2 = .cell) && (!decide (z.2 = .free) || decide (z.1 = r))) && decide (scope.names.lookup y = some .local) && decide (scope.names.lookup r = some .free)
theorem keyScope_by {scope : Scope} {y r : Str} (h : keyScopeB scope y r = true) : KeyScope scope y r := by
  unfold keyScopeB at h
  simp only [Bool.and_eq_true, Bool.or_eq_true, Bool.not_eq_true', decide_eq_true_eq, decide_eq_false_iff_not, List.all_eq_true] at h
  obtain ⟨⟨⟨⟨⟨h1, h2⟩, h3⟩, h4⟩, h5⟩, h6⟩ := h
  exact ⟨h1, h2, h3, fun z hz => (h4 z hz).1, h5, h6, fun z hz e => ((h4 z hz).2).resolve_left fun n => n e⟩
/-- one call of the key: it keeps all and gives the pair -/
theorem key_call {f c' cr tp : Addr} {q y r : Str} {params : Arguments} {scope : Scope} {clos : List (Str × Addr)} {pm ctv : Value} {p : Addr} {us its : List Value} {i a : Int} {t ta : Tok} {ps1 ps2 ps3 ps4 ps5 ps6 ps7 ps8 : Pos} {jj : Nat} {x1 : Nat}
    (hd : A.depth < recursionLimit) (nl : s.heap.NoLimit) (S : KeyScope scope y r)
    (hf : s.heap.get? f = some (PySem.W.kla_obj "<lambda>" q params (.Tuple [.UnaryOp .USub (.Subscript (.Subscript (.Name r ps1) (.Name y ps2) ps3) (.Constant (.int 0) jj ps4) ps5) ps6, .Name y ps7] x1 ps8) scope clos pm c' ctv)) (hc : s.heap.CodeRec (.ref c') q)
    (hb : bindArgs (PySem.W.kla_fn "<lambda>" q params (.Tuple [.UnaryOp .USub (.Subscript (.Subscript (.Name r ps1) (.Name y ps2) ps3) (.Constant (.int 0) jj ps4) ps5) ps6, .Name y ps7] x1 ps8) scope clos pm (.ref c') ctv) ⟨[.int i t], []⟩ = pure [(y, .int i t)])
    (hcl : clos.lookup r = some cr) (hcell : s.heap.IsCell cr (some (.ref p))) (hp : s.heap.IsList p us.toArray) (h0 : 0 ≤ i) (hi : us[i.toNat]? = some (.ref tp)) (hl : us.length ≤ 16777216) (ht : IsTup s.heap tp its.toArray) (hits : its[0]? = some (.int a ta)) (hit2 : its.length ≤ 16777216)
    (hdy : (y == ("__debug__" : Str)) = false := by decide) (hdr : (r == ("__debug__" : Str)) = false := by decide) (hcr : (r == ("__classdict__" : Str)) = false := by decide) :
    wpAny (model P w) A (call (.ref f) [.int i t]) (PySem.W.KeyPure (.tuple [.int (-a), .int i]) s) (fun _ _ => False) s := by
  have rc : codeAny (model P w) A (.call (.ref f) ⟨[.int i t], []⟩) (fun z s' => match z with | .ok (.ret u) => PySem.W.KeyPure (.tuple [.int (-a), .int i]) s u s' | _ => False) s := by
    refine PySem.W.kla_callFunE hd hf rfl S.co S.gen rfl hc ?_
    rw [hb]
    refine wpAny_pure (wpAny_newFunctionEnv S.nc (fun z hz => by rw [List.mem_singleton.mp hz]; exact S.par) (fun h₁ hns hsb => ⟨nl.fresh _ hsb, ?_⟩) S.kind)
    have kp : ∀ b o, s.heap.get? b = some o → h₁.get? b = some o := fun b o e => hsb.extBut b o (Nat.ne_of_lt (Heap.lt_size e)) (Heap.get?_push_of_some _ e)
    have e0 : [(y, Value.int i t)].reverse.lookup y = some (.int i t) := by simp
    have ir : (its.toArray)[0]? = some (.int a ta) := by simpa using hits
    refine PySem.W.kla_codeExpr (wpAny_Tuple_spliced (Calls.spliced_cons (UnaryOp_ (Subscript_ (Subscript_ (wpAny_Name (wpAny_loadName_free S.kind S.cap hcl (hcell.keeps kp) (wpAny_Name (wpAny_loadName_local S.kind S.par hns e0 ?_) hdy) hcr) hdr))))))
    have hp' : h₁.IsList p us.toArray := let ⟨o, e, r⟩ := hp; ⟨o, kp _ _ e, r⟩
    have hlt := (List.getElem?_eq_some_iff.mp hi).1
    refine item_listR hp' h0 (by omega) (x := .ref tp) (by simpa using hi) (wpAny_Constant_int ?_) (by rfl)
    refine tail_any (ht.keeps kp).typeIs slot_tuple_getitem.lookup (getItem_tuple (j := 0) (ht.keeps kp) (by omega) (by omega) ?_ ir ?_) (by rfl)
    · have := (List.getElem?_eq_some_iff.mp hits).1
      rw [seqIndex_of (by omega) (by rw [List.size_toArray]; omega)]
      rfl
    refine neg_int (Calls.spliced_cons (wpAny_Name (wpAny_loadName_local S.kind S.par hns e0 (Calls.spliced_nil ⟨by show 2 ≤ sizeLine; decide, ?_⟩)) hdy))
    refine ⟨_, _, rfl, fun b o e => Heap.get?_push_of_some _ (kp b o e), ?_⟩
    exact .tuple (as := [] ++ ([] ++ [])) (Heap.get?_push_size _ rfl) rfl rfl (.cons (.int _ _) (.cons (.int _ _) .nil))
  refine wpAny_call (codeAny_mono rc fun z s' hq => ?_)
  cases z with
  | error e => exact hq.elim
  | ok fl =>
    cases fl with
    | ret u => exact hq
    | next => exact hq.elim
    | brk => exact hq.elim
    | cont => exact hq.elim
end
end L2
namespace Wm
open PySem PySem.Spec PyProof.Rows L2
open Rep (rep)
open Own (own)
variable [TabT]
section
variable {X : Cx} {pins : List (Addr × Obj)} {σ : L2.St} {H : Hp} {s : Shared}
/-- a lambda is made; the table may have grown, all else stays -/
theorem lam_mk {c P : Addr} {params : Arguments} {body : Expr} {scope : Scope} {pos : Pos} {E : Value → Shared → Prop} {Q : Value → Shared → Prop} (I : Inv X pins σ H s) (TB : LamX.TabB X.base X.mg c P) (hcode : X.env.code = .ref c)
    (hm : (P, X.env.qual ++ "<lambda>") ∈ TabT.T) (hu : ∀ p ∈ TabT.T, p.1 = P → p.2 = X.env.qual ++ "<lambda>") (hT : LamX.Tabs TabT.T H) (hdef : defaultsOf params X.env = ([], [])) (hfree : ∀ y ∈ scope.names, y.2 = .free → ∃ c, X.env.cells.lookup y.1 = some c)
    (h : ∀ (f c' : Addr) (pm ctv : Value) (H1 : Hp) (s' : Shared), Inv X pins σ H1 s' → Same H H1 → LamX.Tabs TabT.T H1 →
      s'.heap.get? f = some (PySem.W.kla_obj "<lambda>" (X.env.qual ++ "<lambda>") params body scope (cloFrom X.env.cells scope.names []) pm c' ctv) → s'.heap.CodeRec (.ref c') (X.env.qual ++ "<lambda>") → Q (.ref f) s') :
    wpAny (model X.prog X.w) X.A (eval (.Lambda params body scope pos) X.env) Q E s := by
  obtain ⟨ps, hP, ht, ha⟩ := hT _ hm
  have oP := I.hok P _ hP
  refine PySem.W.kla_eval hdef ?_
  cases hc : codeAmong pos ps.toList with
  | some cv =>
    obtain ⟨c', e, hco⟩ := ha pos cv hc
    subst e
    obtain ⟨⟨oc, vs, t, k1, k2, k3⟩, _, _⟩ := I.hok c' _ hco
    refine PySem.W.kla_makeFunctionHit (mg := X.mg) (c := c) (P := P) (ps := ps) (closure_ok hfree) I.ok.glob (I.mod.glob.keeps I.bk) hcode (TB.code.keeps I.bk) oP ht hc (TB.bm.keeps I.bk) fun ctv h' tk hx hsz => ?_
    have up : ∀ {o : Obj} (b : Addr) (u : Obj), s.heap.get? b = some u → (h'.push o).get? b = some u := fun b u e => Heap.get?_push_of_some _ (hx b u e)
    exact h _ c' _ ctv H _ (I.kept up) (Same.refl H) hT (Heap.get?_push_size _ rfl) ⟨c', oc, vs, t, rfl, up _ _ k1, k2, k3⟩
  | none =>
    refine PySem.W.kla_makeFunction (mg := X.mg) (c := c) (P := P) (ps := ps) (closure_ok hfree) I.ok.glob (I.mod.glob.keeps I.bk) hcode (TB.code.keeps I.bk) oP ht hc TB.gP (TB.bm.keeps I.bk) fun c' ctv h' tk hx hge hlt hrec htb => ?_
    obtain ⟨c2, oc, vs, t, e2, k1, k2, k3⟩ := hrec
    cases e2
    have nC : H c' = none := I.hok.fresh hge
    have nPc : P ≠ c' := ne_of_none hP nC
    have J := LamX.inv_table (q := X.env.qual ++ "<lambda>") (t' := tk) (more := #[rawInt pos.line, rawInt pos.col, .ref c']) (h' := h'.push (PySem.W.kla_obj "<lambda>" (X.env.qual ++ "<lambda>") params body scope (cloFrom X.env.cells scope.names []) ((X.mg "__name__").getD .none) c' ctv)) I hP
      (fun b o hb e => Heap.get?_push_of_some _ (hx b o hb e)) (Heap.get?_push_of_some _ htb) hge ⟨oc, vs, t, Heap.get?_push_of_some _ k1, k2, k3⟩
    have to : ∀ b o, H b = some o → b ≠ P → upd (upd H P (.tbl (ps ++ #[rawInt pos.line, rawInt pos.col, .ref c']))) c' (LamX.CodeO c' (X.env.qual ++ "<lambda>")) b = some o := fun b o e n => by
      rw [upd_ne (ne_of_none e nC), upd_ne n]
      exact e
    have atP : upd (upd H P (.tbl (ps ++ #[rawInt pos.line, rawInt pos.col, .ref c']))) c' (LamX.CodeO c' (X.env.qual ++ "<lambda>")) P = some (.tbl (ps ++ #[rawInt pos.line, rawInt pos.col, .ref c'])) := by rw [upd_ne nPc, upd_same]
    have coP : ∀ b z, H b = some (LamX.CodeO b z) → b ≠ P := fun b z e k => LamX.codeO_ne ps (Option.some.inj (e.symm.trans (by rw [k]; exact hP)))
    refine h _ c' _ ctv _ _ J (fun b o e => ?_) (fun p hp => ?_) (Heap.get?_push_size _ rfl) ⟨c', oc, vs, t, rfl, Heap.get?_push_of_some _ k1, k2, k3⟩
    · by_cases hb : b = P
      · subst hb
        rw [hP] at e
        exact .inr ⟨⟨ps, (Option.some.inj e).symm⟩, _, atP⟩
      · exact .inl (to b o e hb)
    · obtain ⟨ps2, a1, a2, a3⟩ := hT p hp
      by_cases hb : p.1 = P
      · rw [hu p hp hb, hb]
        have eL : (ps ++ #[rawInt pos.line, rawInt pos.col, .ref c']).toList = ps.toList ++ [rawInt pos.line, rawInt pos.col, .ref c'] := by simp
        refine ⟨_, atP, by rw [eL]; exact PySem.TriplesOk_snoc _ _ _ _ ht, fun p' cv hcv => ?_⟩
        rw [eL] at hcv
        rcases LamX.among_app _ ht hcv with z | z
        · obtain ⟨b, e1, e2⟩ := ha p' cv z
          exact ⟨b, e1, to b _ e2 (coP b _ e2)⟩
        · exact ⟨c', z, upd_same⟩
      · refine ⟨ps2, to _ _ a1 hb, a2, fun p' cv hcv => ?_⟩
        obtain ⟨b, e1, e2⟩ := a3 p' cv hcv
        exact ⟨b, e1, to b _ e2 (coP b _ e2)⟩
end
omit [TabT] in
omit [TabT] in
/-- the level of row k, the key's order -/
def lv0 (rs : List (Int × Str)) (k : Int) : Int := ((rs[k.toNat]?).map (·.1)).getD 0
omit [TabT] in
def keyLe (rs : List (Int × Str)) (a b : Int) : Bool := leP (-(lv0 rs a), a) (-(lv0 rs b), b)
omit [TabT] in
def sortOwn (rs : List (Int × Str)) (xs : List Int) : Rs (List Int) := if ∀ k ∈ xs, 0 ≤ k ∧ k < (rs.length : Int) then .ok (xs.mergeSort (keyLe rs)) else .no
omit [TabT] in
theorem each_ints : ∀ {as : List Int} {us : List Value}, Vals (as.map V.int) us → PySem.W.EachIs (fun u (a : Int) => ∃ t, u = Value.int a t) us as
  | [], _, .nil => .nil
  | _ :: _, _, .cons h t => .cons h (each_ints t)
omit [TabT] in
theorem ints_each : ∀ {as : List Int} {us : List Value}, PySem.W.EachIs (fun u (a : Int) => ∃ t, u = Value.int a t) us as → Vals (as.map V.int) us
  | _, _, .nil => .nil
  | _, _, .cons h t => .cons h (ints_each t)
/-- the code object of the def under way, its table -/
structure LamAt (X : Cx) (cc P : Addr) : Prop where
  tb : LamX.TabB X.base X.mg cc P
  code : X.env.code = .ref cc
  mem : (P, X.env.qual ++ "<lambda>") ∈ TabT.T
  un : ∀ p ∈ TabT.T, p.1 = P → p.2 = X.env.qual ++ "<lambda>"
section
variable {X : Cx} {F : Fx} {c : Ctx} {ma : Ctx.T c → Rs (List Int)} {e : Expr} {p pos lpos kpos : Pos} {x y r : Str} {ps1 ps2 ps3 ps4 ps5 ps6 ps7 ps8 : Pos} {jj x1 : Nat} {params : Arguments} {scope : Scope}
/-- sorted(xs, key=lambda y: (-r[y][0], y)) -/
theorem e_sortKey {i k : Nat} {cc P : Addr} (v : Var c (.bo i (List (Int × Str)))) (hK : F.wd.K = X.K) (hr : Room (k + 2) X.A) (LA : LamAt X cc P)
    (S : KeyScope scope y r) (hN : X.N[i]? = some r) (hrc : X.env.scope.names.lookup r = some .cell) (hdef : defaultsOf params X.env = ([], []) := by rfl)
    (hb : ∀ (q : Str) (cl : List (Str × Addr)) (pm cv ctv u : Value), bindArgs (PySem.W.kla_fn "<lambda>" q params (.Tuple [.UnaryOp .USub (.Subscript (.Subscript (.Name r ps1) (.Name y ps2) ps3) (.Constant (.int 0) jj ps4) ps5) ps6, .Name y ps7] x1 ps8) scope cl pm cv ctv) ⟨[u], []⟩ = pure [(y, u)])
    (hg : Gl X x) (hm : X.mg x = none) (hv : bootBuiltins x = some (.builtin "sorted")) (ha : PE X e (tX F kB c ma)) (hn : x ≠ "__name__" := by decide) (hdb : (x == ("__debug__" : Str)) = false := by decide)
    (hdy : (y == ("__debug__" : Str)) = false := by decide) (hdr : (r == ("__debug__" : Str)) = false := by decide) (hcr : (r == ("__classdict__" : Str)) = false := by decide)
    (he : starEach (e :: []) X.env = (false, eval e X.env) :: starEach [] X.env := by rfl) (he2 : backTo pos (starEach (e :: []) X.env) = (false, eval e X.env) :: backTo pos (starEach [] X.env) := by rfl) (hpl : (backTo pos (starEach (e :: []) X.env)).any (·.1) = false := by rfl) :
    PE X (.Call (.Name x p) [e] [⟨some "key", .Lambda params (.Tuple [.UnaryOp .USub (.Subscript (.Subscript (.Name r ps1) (.Name y ps2) ps3) (.Constant (.int 0) jj ps4) ps5) ps6, .Name y ps7] x1 ps8) scope lpos, kpos⟩] pos) (tX F kO c fun γ => (ma γ).bind fun xs => sortOwn (v.get γ) xs) := by
  refine ⟨fun pins s σ H Q I ⟨H0, G0, G, os, γ, st, pq⟩ => ?_⟩
  refine wpAny_Call_Name_kw (ld_blt I hg hm hv ?_ hn hdb)
  obtain ⟨pr, orr, hσ, hpr, hown⟩ := v.bo st.r
  have hrows := st.f.h.get hpr (Own.pl hown)
  have tbH := st.f.tb st.t
  refine PyProof.Rows.callWith_kw (thn ((pa_cons ha pa_nil he).run pos pins s σ H (fun vs H1 => ∃ u G1 xs, vs = [u] ∧ Fr H G H1 G1 ∧ (kB (wd := F.wd)).rel H H1 G1 u xs ∧ Post F.W (kO (wd := F.wd)) σ H1 G1 Q (sortOwn (v.get γ) xs)) I ⟨H0, G0, G, os, γ, st, pq.step kB fun u H1 G1 a f1 r1 p1 => ⟨u, G1, a, rfl, f1, r1, p1⟩⟩) fun us s1 ⟨vs, H1, I1, r1, u, G1, xs, ev, f1, rel1, p1⟩ => ?_) he2 hpl (by rfl) (by rfl)
  subst ev
  show wpAny _ _ (evalAll ((do let v ← eval (.Lambda params (.Tuple [.UnaryOp .USub (.Subscript (.Subscript (.Name r ps1) (.Name y ps2) ps3) (.Constant (.int 0) jj ps4) ps5) ps6, .Name y ps7] x1 ps8) scope lpos) X.env; standAt pos; pure v) :: [])) _ _ s1
  have tb1 := f1.tb tbH
  obtain ⟨crr, hcrr⟩ := I.ok.has r (.inl hrc)
  have hfree : ∀ z ∈ scope.names, z.2 = .free → ∃ c, X.env.cells.lookup z.1 = some c := fun z hz e => by rw [S.fr z hz e]; exact ⟨crr, hcrr⟩
  refine wpAny_evalAll_cons (wpAny_bind (lam_mk I1 LA.tb LA.code LA.mem LA.un tb1 hdef hfree fun f c' pm ctv H2 s2 I2 sm tb2 hf hcd => wpAny_bind (wpAny_standAt (wpAny_pure (wpAny_evalAll_nil ?_)))))
  have hall : ∀ k ∈ xs, 0 ≤ k ∧ k < ((v.get γ).length : Int) := by
    unfold sortOwn at p1
    by_cases z : ∀ k ∈ xs, 0 ≤ k ∧ k < ((v.get γ).length : Int)
    · exact z
    · rw [if_neg z] at p1; exact p1.elim
  have p2 : Post F.W (kO (wd := F.wd)) σ H1 G1 Q (.ok (xs.mergeSort (keyLe (v.get γ)))) := by
    unfold sortOwn at p1
    rw [if_pos hall] at p1
    exact p1
  obtain ⟨q, o, eu, hq, wv, eo, lw, rw1⟩ := rel1
  subst eu; subst eo
  obtain rfl := reps.ints rw1
  obtain rfl := Vals.ref1 r1
  obtain ⟨vr, er, lr, rr⟩ := hown
  subst er
  have hr2 : H2 pr = some (.lst vr) := sm.v (f1.h.v hrows)
  obtain ⟨its, rv, pl, hz⟩ := I2.list (.of (sm.v hq))
  obtain ⟨rits, rrv, rpl, rz⟩ := I2.list (.of hr2)
  have look : ∃ cr, (cloFrom X.env.cells scope.names []).lookup r = some cr ∧ s2.heap.IsCell cr (some (.ref pr)) := by
    obtain ⟨m, _, hl⟩ := I2.loc
    obtain ⟨w, rw', q⟩ := hl i r (.ref pr) hN hσ (.inr (.inl hrc))
    obtain rfl : w = Value.ref pr := rw'
    rcases q with ⟨k', _⟩ | ⟨_, c3, e', z⟩
    · have k' : X.env.scope.names.lookup r = some .local := k'
      rw [hrc] at k'; cases k'
    · obtain ⟨c4, h4⟩ := mem_lookup (cloFrom_has (cells := X.env.cells) (acc := []) (PySem.mem_of_lookup S.cap))
      refine ⟨c4, h4, ?_⟩
      rcases cloFrom_mem (PySem.mem_of_lookup h4) with hm | ⟨h1, h2⟩
      · cases hm
      · rw [h2, e']; exact z
  obtain ⟨cr, hcl, hcell⟩ := look
  have ee := each_ints rv
  have hz2 : xs.length ≤ sizeLine := by rw [List.length_map] at hz; exact hz
  show wpAny _ _ (call (.builtin "sorted") [.ref q] [(Str.ofString "key", .ref f)]) (EP X pins σ Q) X.xe s2
  refine PySem.W.sorted_key_data (b := false) (fun a : Int => .tuple [.int (-(lv0 (v.get γ) a)), .int a]) pl.isList ee ?_ ?_ hz2 ?_ (ksk_s1 _ _) (fun _ => ksk_l1 _ _) (fun _ => ksk_t1 _ _) ?_ ?_
  · intro d hd d' hd'
    obtain ⟨a, _, rfl⟩ := List.mem_map.mp hd
    obtain ⟨b, _, rfl⟩ := List.mem_map.mp hd'
    exact SortT.al (α := Int × Int) (-(lv0 (v.get γ) a), a) (-(lv0 (v.get γ) b), b)
  · exact PySem.W.Sortable.tuples fun b => ⟨_, _, rfl⟩
  · intro a _
    have h1 := hr.units
    have h2 := PyEq.depth (α := Int × Int) (-(lv0 (v.get γ) a), a)
    have h3 : PyEq.dep (Int × Int) ≤ 60 := by decide
    have h4 : (PyData.tuple [.int (-(lv0 (v.get γ) a)), .int a]).depth ≤ PyEq.dep (Int × Int) := h2
    show X.A.units + 2 + (PyData.tuple [.int (-(lv0 (v.get γ) a)), .int a]).depth < cLine
    omega
  · rintro u a ⟨t, rfl⟩ hin h tk kp
    obtain ⟨h0, h1⟩ := hall a hin
    obtain ⟨vk, hvk, hrk⟩ := rr.get (i := a.toNat) (List.getElem?_eq_getElem (by omega))
    obtain ⟨t0, o0, ev, eg, v1, v2, eo, e1, e2⟩ := hrk
    subst ev; subst eo
    obtain rfl : v1 = V.int _ := e1
    obtain ⟨w0, hw0, rw0⟩ := rrv.get hvk
    obtain rfl : w0 = Value.ref t0 := rw0
    obtain ⟨tits, trv, tpl, tz⟩ := I2.tuple (.of (sm.v (f1.h.v (st.f.gh.v eg))))
    obtain ⟨w1, hw1, ⟨ta, rfl⟩⟩ := trv.get (i := 0) rfl
    have hlv : lv0 (v.get γ) a = ((v.get γ)[a.toNat]'(by omega)).1 := by
      unfold lv0
      rw [List.getElem?_eq_getElem (by omega)]
      rfl
    obtain ⟨c9, oc, vs9, t9, ec, k1, k2, k3⟩ := hcd
    have := key_call (s := { s2 with heap := h, toks := tk }) (P := X.prog) (w := X.w) (t := t) (i := a) hr.in1.in1.depth (I2.nolimit.keeps kp) S (kp _ _ hf) ⟨c9, oc, vs9, t9, ec, kp _ _ k1, k2, k3⟩ (hb _ _ _ _ _ _) hcl (let ⟨o, e, z⟩ := hcell; ⟨o, kp _ _ e, z⟩) (let ⟨o, e, z⟩ := rpl.isList; ⟨o, kp _ _ e, z⟩) h0 hw0 (by rw [← rrv.length]; exact rz) (tpl.keeps kp) hw1 (by rw [← trv.length]; exact tz) hdy hdr hcr
    rw [← hlv] at this
    exact this
  · intro out cc2 h' tk kp _ hobj hlen hout
    have ek : PySem.W.dataLe false (fun a : Int => PyData.tuple [.int (-(lv0 (v.get γ) a)), .int a]) = keyLe (v.get γ) := by
      rw [PySem.W.dataLe_ii (fun a => -(lv0 (v.get γ) a)) fun a => a]
      rfl
    rw [ek] at hout
    have ll : ((xs.mergeSort (keyLe (v.get γ))).map V.int).length ≤ sizeLine := by rw [List.length_map, List.length_mergeSort]; exact hz2
    have nd : H2 (s2.heap.objs.size + 1) = none := I2.hok.fresh (Nat.le_succ _)
    have gh2 := f1.gh.trans sm
    have fL : Fr H1 G1 H2 G1 := ⟨sm, Same.refl _, gh2, fun _ _ e => .inl e, fun _ => tb2⟩
    refine ⟨.ref _, upd H2 (s2.heap.objs.size + 1) (.lst ((xs.mergeSort (keyLe (v.get γ))).map V.int)), I2.laid (t' := tk) kp (Nat.le_succ _) ⟨ll, _, cc2, ints_each hout, hobj⟩, rfl, ?_⟩
    exact p2 _ _ _ (fL.trans (Fr.alloc gh2 nd)) ⟨_, _, rfl, sm.free nd, gh2.free nd, upd_same, _, rfl, ll, reps.of_ints⟩
end
section
variable [TabT] {P : Program} {w : World} {K : PySem.W.Frag} {mg : Str → Option Value} {base : Heap}
/-- a def whose code object is told -/
theorem fn_okL {ρ : Type} {wd : Wd} {kr : Kd wd ρ} {Γ : Ctx} {m : Ctx.T Γ → Rs ρ} {x qual : Str} {st : Stmt} {f cc P' : Addr} {fd : FuncData} {N ps : List Str} {k : Nat} (hc : fd.code = .ref cc) (TB : LamX.TabB base mg cc P') (hm : (P', (qual ++ ".<locals>.") ++ "<lambda>") ∈ TabT.T) (hu : ∀ p ∈ TabT.T, p.1 = P' → p.2 = (qual ++ ".<locals>.") ++ "<lambda>") (F : Fun K x qual st f fd) (S : FnScope N ps (defScope st)) (hl : Γ.length = ps.length)
    (body : ∀ (A : Around) (outer : List Env) (s : Shared) (H : Hp) (E : XK), Room k (A.deeper (envOfC qual (defScope st) s.heap.objs.size f (.ref cc))) → LamAt (cxOf (L2N.CX P w) P w K mg base N qual (defScope st) f (.ref cc) A outer s H E) cc P' →
      PSs (cxOf (L2N.CX P w) P w K mg base N qual (defScope st) f (.ref cc) A outer s H E) (defBody st) (tT ⟨wd, Sl.all N.length, fun cls d _ H => E cls d H⟩ kr Γ m)) : FnOk P w K mg base (L2N.CX P w) (k + 1) f fd ps (spF wd kr Γ m) := by
  have hpl : ps.length ≤ N.length := by have := congrArg List.length S.pre; rw [List.length_take] at this; omega
  obtain ⟨oc, od, kV, doc, pm, an, cdv, ct, osl, rfl, lk, hcd⟩ := F.ex
  obtain rfl : cdv = .ref cc := hc
  refine fn_of lk hcd S (fun vs H Q E h => h.1.trans hl) fun A outer s H vs Q E hr h => ⟨_, body A outer s H E hr ⟨TB, rfl, hm, hu⟩, ?_⟩
  obtain ⟨h1, G, γ, gh, tb, ra, p⟩ := h
  refine ⟨H, G, G, [], γ, ⟨?_, Fr.refl gh, List.nodup_nil, fun _ z => (by cases z), RA.r (fun k v e => start_get e) ra, tb⟩, ?_⟩
  · refine ⟨?_, trivial⟩
    show _ = N.length
    unfold L2.start
    rw [List.length_append, List.length_map, List.length_replicate]
    omega
  · cases e : m γ with
    | no => rw [e] at p; exact p
    | ex x => rw [e] at p; exact fun d σ H' G' _ => p d H' G'
    | ok r => rw [e] at p; exact fun H' G' v f q => p H' G' v f q
end
end Wm
set_option Elab.async false
set_option linter.all false
set_option maxRecDepth 100000
set_option maxHeartbeats 4000000
/-! tuples of any length, of any kinds -/
namespace Wm
open PySem PySem.Spec PyProof.Rows L2
open Rep (rep)
open Own (own)
structure Nt (α : Type) where
  v : α
class NtR (α : Type) where
  reps : Wd → Hp → List V → α → Prop
  mono : ∀ {wd G G' vs a}, Same G G' → reps wd G vs a → reps wd G' vs a
instance : NtR Unit := ⟨fun _ _ vs _ => vs = [], fun _ h => h⟩
instance {α β : Type} [Rep α] [NtR β] : NtR (α × β) := ⟨fun wd G vs x => ∃ v vs', vs = v :: vs' ∧ rep wd G v x.1 ∧ NtR.reps wd G vs' x.2, fun s ⟨v, vs', e, h, t⟩ => ⟨v, vs', e, Rep.mono s h, NtR.mono s t⟩⟩
instance {α : Type} [NtR α] : Own (Nt α) where
  own := fun wd G o x => ∃ vs, o = .tup vs ∧ vs.length ≤ sizeLine ∧ NtR.reps wd G vs x.v
  pl := fun ⟨_, e, _⟩ => by subst e; exact Pl.tup
  mono := fun s ⟨vs, e, l, h⟩ => ⟨vs, e, l, NtR.mono s h⟩
instance {α : Type} [NtR α] : LkO (Nt α) := ⟨fun ⟨_, e, _⟩ z => by rw [e] at z; cases z⟩
class NtEq (α : Type) [NtR α] [DecidableEq α] where
  ds : α → List PyData
  dep : Nat
  dp : ∀ {wd : Wd} {K : PySem.W.Frag} {H G : Hp} {vs : List V} {a : α}, SameL G H → NtR.reps wd G vs a → DpAll K H vs (ds a)
  lay : ∀ {wd : Wd} {G : Hp} {vs : List V} {a : α}, NtR.reps wd G vs a → PyData.canLayAll0 (ds a) = true
  depth : ∀ a, PyData.depthAll (ds a) ≤ dep
  eqv : ∀ a b, PyData.eqvAll (ds a) (ds b) = decide (a = b)
instance : NtEq Unit where
  ds := fun _ => []
  dep := 0
  dp := fun _ h => by rw [show _ = [] from h]; exact .nil
  lay := fun _ => by unfold PyData.canLayAll0; rfl
  depth := fun _ => by unfold PyData.depthAll; exact Nat.zero_le _
  eqv := fun _ _ => by unfold PyData.eqvAll; rfl
instance {α β : Type} [Rep α] [DecidableEq α] [PyEq α] [NtR β] [DecidableEq β] [NtEq β] : NtEq (α × β) where
  ds := fun x => PyEq.d x.1 :: NtEq.ds x.2
  dep := max (PyEq.dep α) (NtEq.dep β)
  dp := fun s ⟨v, vs', e, h, t⟩ => by subst e; exact .cons (PyEq.dp s h) (NtEq.dp s t)
  lay := fun ⟨v, vs', e, h, t⟩ => by
    unfold PyData.canLayAll0
    rw [PyEq.lay h, NtEq.lay t]; rfl
  depth := fun x => by
    unfold PyData.depthAll
    have h1 := PyEq.depth x.1
    have h2 := NtEq.depth x.2
    omega
  eqv := fun x y => by
    unfold PyData.eqvAll
    rw [PyEq.eqv, NtEq.eqv]
    obtain ⟨a, b⟩ := x
    obtain ⟨a', b'⟩ := y
    by_cases h1 : a = a'
    · by_cases h2 : b = b'
      · rw [decide_eq_true h1, decide_eq_true h2, decide_eq_true (by rw [h1, h2])]; rfl
      · rw [decide_eq_true h1, decide_eq_false h2, decide_eq_false fun z => h2 (Prod.mk.inj z).2]; rfl
    · rw [decide_eq_false h1, decide_eq_false fun z => h1 (Prod.mk.inj z).1]; rfl
instance {α : Type} [DecidableEq α] : DecidableEq (Nt α) := fun a b => if h : a.v = b.v then .isTrue (by cases a; cases b; congr) else .isFalse fun z => h (by rw [z])
instance {α : Type} [NtR α] [DecidableEq α] [NtEq α] : PyEq (Nt α) where
  d := fun x => .tuple (NtEq.ds x.v)
  dep := NtEq.dep α + 1
  dp := fun s ⟨p, o, e1, e2, vs, e3, e4, r⟩ => by
    subst e1; subst e3
    exact .tup (.of (s.v e2)) (NtEq.dp s r)
  lay := fun ⟨p, o, e1, e2, vs, e3, e4, r⟩ => by unfold PyData.canLay0; exact NtEq.lay r
  depth := fun x => by unfold PyData.depth; exact Nat.succ_le_succ (NtEq.depth x.v)
  eqv := fun a b => by
    unfold PyData.eqv
    rw [NtEq.eqv]
    by_cases h : a.v = b.v
    · rw [decide_eq_true h, decide_eq_true (by cases a; cases b; congr)]
    · rw [decide_eq_false h, decide_eq_false fun z => h (by rw [z])]
variable [TabT]
/-- the place i of such a tuple is g of it -/
def PjOk {α β : Type} [NtR α] [Rep β] (k : Nat) (g : α → β) : Prop := ∀ {wd : Wd} {G : Hp} {vs : List V} {x : α}, NtR.reps wd G vs x → ∃ v, vs[k]? = some v ∧ rep wd G v (g x)
omit [TabT] in
theorem atI_nat {α : Type} {xs : List α} {k : Nat} {v : α} (h : xs[k]? = some v) : atI xs (k : Int) = some v := by
  have hl := (List.getElem?_eq_some_iff.mp h).1
  unfold atI ixN
  rw [if_pos (by omega), if_pos (by omega)]
  simpa using h
section

variable {X : Cx} {F : Fx} {c : Ctx} {α β δ : Type} {e : Expr} {es : List Expr}
abbrev tN (F : Fx) {α : Type} [NtR α] (n : Nat) (c : Ctx) (m : Ctx.T c → Rs α) : TA := tM F (fun _ G vs as => vs.length = n ∧ NtR.reps F.wd G vs as) c m
theorem n_nil : PA X [] (tN F 0 c fun _ => .ok ()) := tM_nil fun _ _ => ⟨rfl, rfl⟩
theorem n_cons [Rep α] [NtR β] {n : Nat} {m : Ctx.T c → Rs α} {ms : Ctx.T c → Rs β} (h : PE X e (tX F kF c m)) (hs : PA X es (tN F n c ms)) (he : starEach (e :: es) X.env = (false, eval e X.env) :: starEach es X.env := by rfl) :
    PA X (e :: es) (tN F (n + 1) c fun γ => (m γ).bind fun a => (ms γ).bind fun g => .ok (a, g)) :=
  pa_mono (pa_cons h hs he) fun σ H Q q => tM_cons (f := fun a g => (a, g)) (fun r1 r2 => ⟨congrArg (· + 1) r2.1, _, _, rfl, r1, r2.2⟩) q
theorem e_nt [NtR α] {n : Nat} {m : Ctx.T c → Rs α} {pos : Pos} {x1} (h : PA X es (tN F n c m)) (hn : n ≤ 1000 := by decide) : PE X (.Tuple es x1 pos) (tX F kF c fun γ => (m γ).bind fun as => .ok (Nt.mk as)) :=
  pe_mono (pe_tup h) fun σ H Q q => tM_post q fun vs H1 G1 g gh ⟨l, r⟩ p => ⟨by rw [l]; exact small_n hn, fun d nd => p _ _ _ ((Fr.alloc gh nd).freeze nd (gh.free nd) upd_same) ⟨d, _, rfl, upd_same, vs, rfl, by rw [l]; exact small_n hn, NtR.mono (Same.upd' (Same.refl _) (gh.free nd)) r⟩⟩
omit [TabT] in
omit [TabT] in
/-- len of such a tuple -/
def NtLen (α : Type) [NtR α] (n : Nat) : Prop := ∀ {wd : Wd} {G : Hp} {vs : List V} {x : α}, NtR.reps wd G vs x → vs.length = n
end
end Wm
set_option Elab.async false
set_option linter.all false
set_option maxRecDepth 100000
set_option maxHeartbeats 4000000
/-! dicts walked (locked meanwhile), frozen dicts looked at, == of dicts -/
namespace Wm
open PySem PySem.Spec PyProof.Rows L2
open Rep (rep)
open Own (own)
/-- a dict that is walked: locked -/
structure LV (κ α : Type) where
  d : Dct κ α
instance {κ α : Type} [Rep κ] [KeyT κ] [Rep α] : Own (LV κ α) where
  own := fun wd G o d => ∃ ps ob, o = .frz ob (.dK ps) ∧ ps.length ≤ sizeLine ∧ rkv wd G ps d.d.es
  pl := fun ⟨_, _, e, _⟩ => by subst e; exact ⟨(fun _ z => nomatch z), (fun _ z => nomatch z)⟩
  mono := fun s ⟨ps, ob, e, l, h⟩ => ⟨ps, ob, e, l, h.mono s⟩
instance {κ α : Type} [Rep κ] [KeyT κ] [Rep α] : LkO (LV κ α) := ⟨fun ⟨_, _, e, _⟩ z => by rw [e] at z; cases z⟩
/-! ### the lock -/
/-- entries that a lock leaves alone -/
inductive LkT : Ctx → Type 1 where
  | nil : LkT []
  | fz {i : Nat} {α : Type} [Rep α] {c : Ctx} (t : LkT c) : LkT (.fz i α :: c)
  | bo {i : Nat} {β : Type} [Own β] [LkO β] {c : Ctx} (t : LkT c) : LkT (.bo i β :: c)
  | ow {i : Nat} {β : Type} [Own β] {c : Ctx} (t : LkT c) : LkT (.ow i β :: c)
/-- the entry at the slot i is locked -/
inductive Lk (i : Nat) (κ α : Type) [Rep κ] [KeyT κ] [Rep α] : Ctx → Ctx → Type 1 where
  | bo {c : Ctx} (t : LkT c) : Lk i κ α (.bo i (DV κ α) :: c) (.bo i (LV κ α) :: c)
  | fv {c : Ctx} (t : LkT c) : Lk i κ α (.fz i (DV κ α) :: c) (.bo i (LV κ α) :: c)
  | fz {c : Ctx} (t : LkT c) : Lk i κ α (.fz i (Dct κ α) :: c) (.bo i (LV κ α) :: c)
  | ow {c : Ctx} (t : LkT c) : Lk i κ α (.ow i (Dct κ α) :: c) (.bo i (LV κ α) :: c)
  | sfz {j : Nat} {β : Type} [Rep β] {c c' : Ctx} (l : Lk i κ α c c') : Lk i κ α (.fz j β :: c) (.fz j β :: c')
  | sbo {j : Nat} {β : Type} [Own β] [LkO β] {c c' : Ctx} (l : Lk i κ α c c') : Lk i κ α (.bo j β :: c) (.bo j β :: c')
  | sow {j : Nat} {β : Type} [Own β] {c c' : Ctx} (l : Lk i κ α c c') : Lk i κ α (.ow j β :: c) (.ow j β :: c')
variable [TabT]
section
variable {X : Cx} {F : Fx} {c : Ctx} {κ α β ρ : Type} [Rep κ] [KeyT κ] [Rep α] {e o i f : Expr} {pos p apos cpos : Pos}
theorem e_kmap {α β : Type} {k1 : Kd F.wd α} {k2 : Kd F.wd β} {m : Ctx.T c → Rs α} {g : α → β} (ok : ∀ {H H' G G' : Hp} {v : V} {a : α}, Fr H G H' G' → k1.rel H H' G' v a → k2.rel H H' G' v (g a)) (h : PE X e (tX F k1 c m)) : PE X e (tX F k2 c fun γ => (m γ).bind fun a => .ok (g a)) :=
  pe_mono h fun σ H Q ⟨H0, G0, G, os, γ, st, p⟩ => ⟨H0, G0, G, os, γ, st, by
    cases e : m γ with
    | no => dsimp only at p; rw [e] at p; exact p
    | ex x => dsimp only at p; rw [e] at p; exact p
    | ok b =>
      dsimp only at p; rw [e] at p
      exact fun H' G' v f r => p H' G' v f (ok f r)⟩
theorem e_lvdv {m : Ctx.T c → Rs (LV κ α)} (h : PE X e (tX F kB c m)) : PE X e (tX F (kB (β := DV κ α)) c fun γ => (m γ).bind fun d => .ok (DV.mk d.d)) :=
  e_kmap (α := LV κ α) (β := DV κ α) (k1 := kB) (k2 := kB) (g := fun (d : LV κ α) => DV.mk d.d) (fun f ⟨q, o, e1, e2, ps, ob, e3, e4, e5⟩ => ⟨q, o, e1, e2, ps, .inr ⟨ob, e3⟩, e4, e5⟩) h
omit [TabT] in
theorem rkv.getk {wd : Wd} {G : Hp} : ∀ {ps : List (Key × V)} {es : List (κ × α)}, rkv wd G ps es → ∀ {i : Nat} {k : κ}, (es.map (·.1))[i]? = some k → ∃ p, ps[i]? = some p ∧ rep wd G (kV p.1) k
  | [], [], _, i, k, h => by simp at h
  | p :: ps, e :: es, ⟨⟨_, h2, _⟩, t⟩, i, k, h => by
    cases i with
    | zero =>
      have h' : some e.1 = some k := h
      cases h'
      exact ⟨p, rfl, h2⟩
    | succ i => exact t.getk (i := i) h
  | [], _ :: _, h, _, _, _ => h.elim
  | _ :: _, [], h, _, _, _ => h.elim
/-- the keys of a locked dict -/
theorem i_keys {tg : Expr} {m : Ctx.T c → Rs (LV κ α)} (h : PE X e (tX F kB c m)) : PI X tg e (tI F .h c fun γ => (m γ).bind fun d => .ok (d.d.es.map (·.1))) :=
  pi_mono (pi_keys h) fun σ H Rr q => tI_of q (fun v H0 H1 G1 b h0 gh ⟨d, o, e1, e2, ps, ob, e3, e4, r⟩ w => by
    subst e3
    refine ⟨d, ob, e1, .inl ⟨ps, e2, w _ ?_⟩⟩
    exact {
      stop := fun i H s hi => ⟨s.v e2, by rw [List.length_map] at hi; rw [r.len]; exact hi⟩
      go := fun i H a s ha => ⟨s.v e2, by
        have := (List.getElem?_eq_some_iff.mp ha).1
        rw [List.length_map] at this
        rw [r.len]; exact this⟩
      yld := fun i H G x H' a s g gh ha ⟨e, k, v, hk, hx⟩ => by
        subst e; subst hx
        obtain ⟨p, hp, hr⟩ := r.getk ha
        rw [hp] at hk
        cases hk
        exact ⟨G, Fr.refl gh, Rep.mono g hr⟩ }) fun _ _ z => nomatch z
end
section
variable {X : Cx} {F : Fx} {c : Ctx} {κ α : Type} [Rep κ] [KeyT κ] [Rep α]
/-- .. of a name -/
theorem i_keysV {tg : Expr} {i : Nat} (v : Var c (.bo i (LV κ α))) {x : Str} {pos : Pos} (hN : X.N[i]? = some x := by rfl) (hv : Vis X.env.scope x := by first | exact Or.inl rfl | exact Or.inr (Or.inl rfl) | exact Or.inr (Or.inr rfl))
    (hd : (x == ("__debug__" : Str)) = false := by decide) (hcd : (x == ("__classdict__" : Str)) = false := by decide) : PI X tg (.Name x pos) (tI F .z c fun γ => .ok ((v.get γ).d.es.map (·.1))) :=
  pi_mono (pi_keys (pe_var hN hv hd hcd)) fun σ H Rr ⟨H0, G0, G, os, γ, st, p⟩ => by
    obtain ⟨q, o, h1, h2, ps, ob, e3, e4, r⟩ := v.bo st.r
    subst e3
    refine ⟨.ref q, h1, q, ob, rfl, .inl ⟨ps, st.f.h.v h2, p H G _ (Fr.refl st.f.gh) ?_⟩⟩
    exact {
      stop := fun i H s hi => ⟨s.v h2, by rw [List.length_map] at hi; rw [r.len]; exact hi⟩
      go := fun i H a s ha => ⟨s.v h2, by
        have := (List.getElem?_eq_some_iff.mp ha).1
        rw [List.length_map] at this
        rw [r.len]; exact this⟩
      yld := fun i H G x H' a s g gh ha ⟨e, k, v, hk, hx⟩ => by
        subst e; subst hx
        obtain ⟨p, hp, hr⟩ := r.getk ha
        rw [hp] at hk
        cases hk
        exact ⟨G, Fr.refl gh, Rep.mono g hr⟩ }
end
section
variable {κ α : Type} [Rep κ] [KeyT κ] [Rep α] {wd : Wd} {H0 H G : Hp} {σ : L2.St} {i : Nat} {d : Addr} {ob : Obj} {ps : List (Key × V)}
omit [TabT] in
@[reducible] def Lk.go : ∀ {c c' : Ctx}, Lk i κ α c c' → Ctx.T c → Ctx.T c'
  | _, _, .bo _, γ => (⟨γ.1.d⟩, γ.2)
  | _, _, .fv _, γ => (⟨γ.1.d⟩, γ.2)
  | _, _, .fz _, γ => (⟨γ.1⟩, γ.2)
  | _, _, .ow _, γ => (⟨γ.1⟩, γ.2)
  | _, _, @Lk.sfz _ _ _ _ _ _ _ _ _ _ _ l, γ => (γ.1, l.go γ.2)
  | _, _, @Lk.sbo _ _ _ _ _ _ _ _ _ _ _ _ l, γ => (γ.1, l.go γ.2)
  | _, _, @Lk.sow _ _ _ _ _ _ _ _ _ _ _ l, γ => (γ.1, l.go γ.2)
omit [TabT] in
omit [TabT] in
/-- L may stand for what H has at d -/
def LkAt (H : Hp) (d : Addr) (ob : Obj) (ps : List (Key × V)) : Prop := ∀ o, H d = some o → o = .frz ob (.dK ps) ∨ o = .dK ps
omit [TabT] in
theorem LkT.r (h0 : LkAt H0 d ob ps) : ∀ {c : Ctx} (t : LkT c) {γ : Ctx.T c} {os : List Addr}, d ∉ os → R wd H0 σ H G c γ os → R wd (upd H0 d (.frz ob (.dK ps))) σ (upd H d (.frz ob (.dK ps))) G c γ os
  | _, .nil, _, _, _, r => r
  | _, @LkT.fz _ _ _ _ t, γ, os, n, ⟨h1, r⟩ => ⟨h1, t.r h0 n r⟩
  | _, @LkT.bo _ _ _ _ _ t, γ, os, n, ⟨⟨p, o, h1, h2, h3⟩, r⟩ => by
    refine ⟨?_, t.r h0 n r⟩
    by_cases e : p = d
    · subst e
      refine ⟨p, _, h1, upd_same, ?_⟩
      rcases h0 o h2 with z | z
      · rw [← z]; exact h3
      · exact LkO.lk h3 z
    · exact ⟨p, o, h1, by rw [upd_ne e]; exact h2, h3⟩
  | _, @LkT.ow _ _ _ _ t, γ, os, n, ⟨q, o, os', e, h1, h2, h3, r⟩ => by
    subst e
    refine ⟨q, o, os', rfl, h1, ?_, h3, t.r h0 (fun z => n (List.mem_cons_of_mem _ z)) r⟩
    rw [upd_ne fun z => n (by rw [z]; exact List.mem_cons_self)]
    exact h2
omit [TabT] in
/-- where the entry's dict stands -/
theorem Lk.at_ (gh : SameL G H) (hh : Same H0 H) : ∀ {c c' : Ctx} (l : Lk i κ α c c') {γ : Ctx.T c} {os : List Addr}, R wd H0 σ H G c γ os → ∃ d u ps, σ[i]? = some (some (.ref d)) ∧ H d = some u ∧ (u = .dK ps ∨ ∃ ob, u = .frz ob (.dK ps)) ∧ ((∃ o, H0 d = some o) ∨ (∃ o, G d = some o) ∨ d ∈ os)
  | _, _, .bo t, γ, os, ⟨⟨p, o, h1, h2, ps, h3, _, _⟩, _⟩ => by
    have hv : H p = some o := by
      rcases h3 with e | ⟨_, e⟩ <;> subst e <;> exact hh.v h2
    exact ⟨p, o, ps, h1, hv, h3, .inl ⟨o, h2⟩⟩
  | _, _, .fv t, γ, os, ⟨⟨x, h1, p, o, h2, h3, ps, h4, _, _⟩, _⟩ => by
    subst h2
    rcases h4 with e | ⟨ob, e⟩
    · subst e
      rcases gh p _ h3 with k | ⟨⟨_, k⟩, _⟩ | ⟨ob, ps', k, k2⟩
      · exact ⟨p, _, ps, h1, k, .inl rfl, .inr (.inl ⟨_, h3⟩)⟩
      · cases k
      · cases k; exact ⟨p, _, ps, h1, k2, .inr ⟨ob, rfl⟩, .inr (.inl ⟨_, h3⟩)⟩
    · subst e
      exact ⟨p, _, ps, h1, gh.v h3, .inr ⟨ob, rfl⟩, .inr (.inl ⟨_, h3⟩)⟩
  | _, _, .fz t, γ, os, ⟨⟨x, h1, p, o, h2, h3, ps, h4, _, _⟩, _⟩ => by
    subst h2; subst h4
    rcases gh p _ h3 with k | ⟨⟨_, k⟩, _⟩ | ⟨ob, ps', k, k2⟩
    · exact ⟨p, _, ps, h1, k, .inl rfl, .inr (.inl ⟨_, h3⟩)⟩
    · cases k
    · cases k; exact ⟨p, _, ps, h1, k2, .inr ⟨ob, rfl⟩, .inr (.inl ⟨_, h3⟩)⟩
  | _, _, .ow t, γ, os, ⟨q, o, os', e, h1, h2, ⟨ps, h3, _, _⟩, _⟩ => ⟨q, o, ps, h1, h2, .inl h3, .inr (.inr (by rw [e]; exact List.mem_cons_self))⟩
  | _, _, @Lk.sfz _ _ _ _ _ _ _ _ _ _ _ l, γ, os, ⟨_, r⟩ => l.at_ gh hh r
  | _, _, @Lk.sbo _ _ _ _ _ _ _ _ _ _ _ _ l, γ, os, ⟨_, r⟩ => l.at_ gh hh r
  | _, _, @Lk.sow _ _ _ _ _ _ _ _ _ _ _ l, γ, os, ⟨q, o, os', e, _, _, _, r⟩ => by
    obtain ⟨d, u, ps, h1, h2, h3, h4⟩ := l.at_ gh hh r
    refine ⟨d, u, ps, h1, h2, h3, ?_⟩
    rcases h4 with z | z | z
    · exact .inl z
    · exact .inr (.inl z)
    · exact .inr (.inr (by rw [e]; exact List.mem_cons_of_mem _ z))
omit [TabT] in
theorem ref_inj {i : Nat} {d q : Addr} (h : σ[i]? = some (some (.ref d))) (k : σ[i]? = some (some (.ref q))) : q = d := by
  rw [h] at k
  injection k with k; injection k with k; injection k with k
  exact k.symm
omit [TabT] in
theorem Lk.r (gh : SameL G H) (hh : Same H0 H) (hd : σ[i]? = some (some (.ref d))) (h0 : LkAt H0 d ob ps) (h1' : LkAt H d ob ps) : ∀ {c c' : Ctx} (l : Lk i κ α c c') {γ : Ctx.T c} {os : List Addr}, os.Nodup → (∀ p ∈ os, G p = none ∧ H0 p = none) → R wd H0 σ H G c γ os →
    ∃ os', os'.Sublist os ∧ d ∉ os' ∧ R wd (upd H0 d (.frz ob (.dK ps))) σ (upd H d (.frz ob (.dK ps))) G c' (l.go γ) os'
  | _, _, .bo t, γ, os, nd, fr, ⟨⟨p, o, h1, h2, ps', h3, h4, h5⟩, r⟩ => by
    obtain rfl := ref_inj hd h1
    have nm : p ∉ os := fun z => by rw [(fr p z).2] at h2; cases h2
    refine ⟨os, List.Sublist.refl _, nm, ⟨p, _, h1, upd_same, ps, ob, rfl, ?_⟩, t.r h0 nm r⟩
    rcases h0 o h2 with z | z
    · subst z
      rcases h3 with e | ⟨_, e⟩ <;> cases e
      exact ⟨h4, h5⟩
    · subst z
      rcases h3 with e | ⟨_, e⟩ <;> cases e
      exact ⟨h4, h5⟩
  | _, _, .fv t, γ, os, nd, fr, ⟨⟨x, h1, p, o, h2, h3, ps', h4, h5, h6⟩, r⟩ => by
    subst h2
    obtain rfl := ref_inj hd h1
    have nm : p ∉ os := fun z => by rw [(fr p z).1] at h3; cases h3
    refine ⟨os, List.Sublist.refl _, nm, ⟨p, _, h1, upd_same, ps, ob, rfl, ?_⟩, t.r h0 nm r⟩
    rcases h4 with e | ⟨ob', e⟩
    · subst e
      rcases gh p _ h3 with k | ⟨⟨_, k⟩, _⟩ | ⟨ob2, ps2, k, k2⟩
      · rcases h1' _ k with z | z <;> cases z
        exact ⟨h5, h6⟩
      · cases k
      · cases k
        rcases h1' _ k2 with z | z <;> cases z
        exact ⟨h5, h6⟩
    · subst e
      rcases h1' _ (gh.v h3) with z | z <;> cases z
      exact ⟨h5, h6⟩
  | _, _, .fz t, γ, os, nd, fr, ⟨⟨x, h1, p, o, h2, h3, ps', h4, h5, h6⟩, r⟩ => by
    subst h2; subst h4
    obtain rfl := ref_inj hd h1
    have nm : p ∉ os := fun z => by rw [(fr p z).1] at h3; cases h3
    refine ⟨os, List.Sublist.refl _, nm, ⟨p, _, h1, upd_same, ps, ob, rfl, ?_⟩, t.r h0 nm r⟩
    rcases gh p _ h3 with k | ⟨⟨_, k⟩, _⟩ | ⟨ob2, ps2, k, k2⟩
    · rcases h1' _ k with z | z <;> cases z
      exact ⟨h5, h6⟩
    · cases k
    · cases k
      rcases h1' _ k2 with z | z <;> cases z
      exact ⟨h5, h6⟩
  | _, _, .ow t, γ, os, nd, fr, ⟨q, o, os', e, h1, h2, ⟨ps', h3, h4, h5⟩, r⟩ => by
    subst e; subst h3
    obtain rfl := ref_inj hd h1
    have nm : q ∉ os' := (List.nodup_cons.mp nd).1
    refine ⟨os', List.sublist_cons_self _ _, nm, ⟨q, _, h1, upd_same, ps, ob, rfl, ?_⟩, t.r h0 nm r⟩
    rcases h1' _ h2 with z | z <;> cases z
    exact ⟨h4, h5⟩
  | _, _, @Lk.sfz _ _ _ _ _ _ _ _ _ _ _ l, γ, os, nd, fr, ⟨h1, r⟩ => by
    obtain ⟨os', k1, k2, k3⟩ := l.r gh hh hd h0 h1' nd fr r
    exact ⟨os', k1, k2, h1, k3⟩
  | _, _, @Lk.sbo _ _ _ _ _ _ _ _ _ _ _ _ l, γ, os, nd, fr, ⟨⟨p, o, h1, h2, h3⟩, r⟩ => by
    obtain ⟨os', k1, k2, k3⟩ := l.r gh hh hd h0 h1' nd fr r
    refine ⟨os', k1, k2, ?_, k3⟩
    by_cases e : p = d
    · subst e
      refine ⟨p, _, h1, upd_same, ?_⟩
      rcases h0 o h2 with z | z
      · rw [← z]; exact h3
      · exact LkO.lk h3 z
    · exact ⟨p, o, h1, by rw [upd_ne e]; exact h2, h3⟩
  | _, _, @Lk.sow _ _ _ _ _ _ _ _ _ _ _ l, γ, os, nd, fr, ⟨q, o, os1, e, h1, h2, h3, r⟩ => by
    subst e
    obtain ⟨n1, nd1⟩ := List.nodup_cons.mp nd
    obtain ⟨os', k1, k2, k3⟩ := l.r gh hh hd h0 h1' nd1 (fun p hp => fr p (List.mem_cons_of_mem _ hp)) r
    have ne : q ≠ d := fun z => by
      obtain ⟨d2, u, ps2, a1, a2, a3, a4⟩ := l.at_ gh hh r
      obtain rfl := ref_inj hd a1
      obtain ⟨f1, f2⟩ := fr q List.mem_cons_self
      rw [z] at f1 f2
      rcases a4 with ⟨_, a4⟩ | ⟨_, a4⟩ | a4
      · rw [f2] at a4; cases a4
      · rw [f1] at a4; cases a4
      · exact n1 (by rw [z]; exact a4)
    refine ⟨q :: os', k1.cons_cons q, fun z => ?_, q, o, os', rfl, h1, by rw [upd_ne ne]; exact h2, h3, k3⟩
    rcases List.mem_cons.mp z with z | z
    · exact ne z.symm
    · exact k2 z
/-- what unlocking leaves of a result -/
def Kd.Un {ρ : Type} (k : Kd wd ρ) : Prop := ∀ {H H1 G1 : Hp} {d : Addr} {L u : HO} {v : V} {r : ρ}, k.rel (upd H d L) H1 G1 v r → H1 d = some L → k.rel H (upd H1 d u) G1 v r
theorem un_O {ρ : Type} [Own ρ] : (kO (wd := wd) (β := ρ)).Un := fun {H H1 G1 d L u v r} ⟨p, o, e, n, g, h, w⟩ _ => by
  have ne : p ≠ d := fun z => by rw [z, upd_same] at n; cases n
  rw [upd_ne ne] at n
  exact ⟨p, o, e, n, g, by rw [upd_ne ne]; exact h, w⟩
end
section
variable {X : Cx} {F : Fx} {c : Ctx} {κ α ρ : Type} [Rep κ] [KeyT κ] [Rep α] {e : Expr} {i : Nat}
theorem lk_tabs {H : Hp} {d : Addr} {o : HO} {u : HO} (t : LamX.Tabs TabT.T H) (h : H d = none ∨ (H d = some u ∧ Pl u)) : LamX.Tabs TabT.T (upd H d o) := by
  rcases h with h | ⟨h, p⟩
  · exact tabs_new t h
  · exact tabs_upd t h p
omit [TabT] in
theorem pl_dk {u : HO} {ps : List (Key × V)} (h : u = .dK ps ∨ ∃ ob, u = .frz ob (.dK ps)) : Pl u := by
  rcases h with h | ⟨_, h⟩ <;> subst h <;> exact ⟨(fun _ z => nomatch z), (fun _ z => nomatch z)⟩
theorem Stt.lock {n : Sl} {wd : Wd} {H0 G0 H G : Hp} {σ : L2.St} {os : List Addr} {c c' : Ctx} (l : Lk i κ α c c') {γ : Ctx.T c} (st : Stt wd n H0 G0 σ H G os c γ) {d : Addr} {u : HO} {ps : List (Key × V)} {ob : Obj} (hd : σ[i]? = some (some (.ref d))) (hu : H d = some u) (hk : u = .dK ps ∨ u = .frz ob (.dK ps)) :
    ∃ os', Stt wd n (upd H0 d (.frz ob (.dK ps))) G σ (upd H d (.frz ob (.dK ps))) G os' c' (l.go γ) := by
  have hp : Pl u := pl_dk (by rcases hk with z | z; exact .inl z; exact .inr ⟨_, z⟩)
  have a1 : LkAt H d ob ps := fun o h => by
    rw [hu] at h; cases h
    exact hk.symm
  have a0 : LkAt H0 d ob ps := fun o h => by
    rcases st.f.h d o h with k | ⟨⟨qs, k⟩, qs', k2⟩
    · exact a1 o k
    · rw [hu] at k2; cases k2
      exact absurd rfl (hp.1 qs')
  obtain ⟨os', k1, k2, k3⟩ := l.r st.f.gh st.f.h hd a0 a1 st.nd st.fr st.r
  have h0d : H0 d = none ∨ (H0 d = some u ∧ Pl u) := by
    cases q : H0 d with
    | none => exact .inl rfl
    | some o =>
      refine .inr ⟨?_, hp⟩
      rcases st.f.h d o q with k | ⟨⟨qs, k⟩, qs', k2⟩
      · rw [hu] at k; exact k.symm
      · rw [hu] at k2; cases k2
        exact absurd rfl (hp.1 qs')
  refine ⟨os', st.len, ⟨fun b o h => ?_, Same.refl G, fun b o h => ?_, fun _ _ h => .inl h, fun _ => lk_tabs (st.f.tb st.t) (.inr ⟨hu, hp⟩)⟩, st.nd.sublist k1, fun p hp' => ?_, k3, lk_tabs st.t h0d⟩
  · by_cases z : b = d
    · subst z; rw [upd_same] at h ⊢; exact .inl h
    · rw [upd_ne z] at h ⊢; exact st.f.h b o h
  · by_cases z : b = d
    · subst z
      rcases st.f.gh b o h with k | ⟨⟨qs, k⟩, qs', k2⟩ | ⟨ob', qs, k, k2'⟩
      · rw [hu] at k; cases k
        rcases hk with z | z
        · exact .inr (.inr ⟨ob, ps, z, upd_same⟩)
        · rw [z]; exact .inl upd_same
      · rw [hu] at k2; cases k2
        exact absurd rfl (hp.1 qs')
      · rw [hu] at k2'; cases k2'
        rcases hk with z | z
        · cases z
        · cases z; exact .inr (.inr ⟨ob, ps, k, upd_same⟩)
    · rw [upd_ne z]; exact st.f.gh b o h
  · obtain ⟨f1, f2⟩ := st.fr p (k1.subset hp')
    exact ⟨f1, by rw [upd_ne fun z => k2 (by rw [← z]; exact hp')]; exact f2⟩
/-- what a locked walk leaves, unlocked -/
theorem Fr.unlock {H G H1 G1 : Hp} {d : Addr} {ps : List (Key × V)} {ob : Obj} (gh : SameL G H) (hu : H d = some (.dK ps)) (f : Fr (upd H d (.frz ob (.dK ps))) G H1 G1) : H1 d = some (.frz ob (.dK ps)) ∧ Fr H G (upd H1 d (.dK ps)) G1 := by
  have h1 : H1 d = some (.frz ob (.dK ps)) := f.h.v upd_same
  refine ⟨h1, fun b o h => ?_, f.g, fun b o h => ?_, fun b o h => ?_, fun t => ?_⟩
  · by_cases z : b = d
    · subst z; rw [upd_same]; rw [hu] at h; exact .inl h
    · rw [upd_ne z]; exact f.h b o (by rw [upd_ne z]; exact h)
  · by_cases z : b = d
    · subst z
      rcases f.new b o h with k | k
      · rcases gh b o k with q | ⟨⟨qs, q⟩, qs', q2⟩ | ⟨ob', qs, q, q2⟩
        · rw [hu] at q; rw [upd_same]; exact .inl q
        · rw [hu] at q2; cases q2
        · rw [hu] at q2; cases q2
      · rw [upd_same] at k; cases k
    · rw [upd_ne z]; exact f.gh b o h
  · rcases f.new b o h with k | k
    · exact .inl k
    · by_cases z : b = d
      · subst z; rw [upd_same] at k; cases k
      · rw [upd_ne z] at k; exact .inr k
  · exact tabs_upd (f.tb (tabs_upd t hu ⟨(fun _ z => nomatch z), (fun _ z => nomatch z)⟩)) h1 ⟨(fun _ z => nomatch z), (fun _ z => nomatch z)⟩
/-- an expression under the lock of a dict of the context -/
theorem e_lock {k : Kd F.wd ρ} (hk : k.Un) {c1 c' : Ctx} (s : Sub c c1) (l : Lk i κ α c1 c') {m : Ctx.T c' → Rs ρ} (h : PE X e (tX F k c' m)) : PE X e (tX F k c fun γ => Rs.nox (m (l.go (s.proj γ)))) := by
  refine ⟨fun pins sh σ H Q I ⟨H0, G0, G, os, γ, st, p⟩ => ?_⟩
  dsimp only at p
  obtain ⟨os1, hs, st1⟩ := st.sub s
  obtain ⟨d, u, ps, hi, hd, hu, _⟩ := l.at_ st1.f.gh st1.f.h st1.r
  cases em : m (l.go (s.proj γ)) with
  | no => rw [em] at p; exact p.elim
  | ex x => rw [em] at p; exact p.elim
  | ok r =>
    rw [em] at p
    rcases hu with hu | ⟨ob, hu⟩
    · subst hu
      refine (pe_lock h).run pins sh σ H Q I ⟨d, _, hd, trivial, fun od => ?_⟩
      obtain ⟨os', st2⟩ := st1.lock l hi hd (.inl rfl) (ob := od)
      refine ⟨_, _, _, os', _, st2, ?_⟩
      rw [em]
      intro H' G' v f rr
      obtain ⟨h1, f1⟩ := f.unlock st.f.gh hd
      exact ⟨h1, p _ _ _ f1 (hk rr h1)⟩
    · subst hu
      obtain ⟨os', st2⟩ := st1.lock l hi hd (.inr rfl)
      have eH : upd H d (.frz ob (.dK ps)) = H := by
        funext b
        by_cases z : b = d
        · subst z; rw [upd_same, hd]
        · rw [upd_ne z]
      rw [eH] at st2
      refine h.run pins sh σ H Q I ⟨_, _, _, os', _, st2, ?_⟩
      rw [em]
      exact p
end
/-! ### == of dicts of flat values -/
class FlatV (α : Type) [Rep α] where
  fv : α → V
  is : ∀ {wd G v a}, rep wd G v a → v = fv a
  flat : ∀ a, flatB (fv a) = true
omit [TabT] in
instance : FlatV Int := ⟨V.int, fun h => h, fun _ => rfl⟩
omit [TabT] in
instance : FlatV Str := ⟨V.str, fun h => h.1, fun _ => rfl⟩
omit [TabT] in
instance : FlatV Bool := ⟨V.bl, fun h => h, fun _ => rfl⟩
omit [TabT] in
omit [TabT] in
/-- two dicts with the same items -/
def EqD {κ α : Type} [DecidableEq κ] (a b : Dct κ α) : Prop := a.es.length = b.es.length ∧ ∀ e ∈ a.es, b.get? e.1 = some e.2
omit [TabT] in
instance {κ α : Type} [DecidableEq κ] [DecidableEq α] (a b : Dct κ α) : Decidable (EqD a b) := by unfold EqD; infer_instance
section
variable {κ α : Type} [DecidableEq κ] [Rep κ] [KeyT κ] [Rep α] {wd : Wd} {G : Hp} {P : Program} {w : World} {H : Hp} {h : Heap}
omit [TabT] in
theorem rd_obj {a : Addr} {ks : List (Key × V)} (ok : HOk P w H h) (r : Rd H a (.dK ks)) : ObjOk P w H h a (.dK ks) := by
  rcases r with r | ⟨o, r⟩
  · exact ok a _ r
  · exact (ok a _ r).2
end
section
variable {X : Cx}
omit [TabT] in
def rEqR (b : Bool) : R2 := fun x y H Q => ∃ a c ks ls, x = .ref a ∧ y = .ref c ∧ Rd H a (.dK ks) ∧ Rd H c (.dK ls) ∧ ks.length = ls.length ∧ (∀ p ∈ ks, valV ls p.1 = some p.2 ∧ flatB p.2 = true) ∧ Q (.bl b) H
omit [TabT] in
theorem op_eqDR (hu' : X.A.units + 64 < cLine) : OpR X (compareOp .Eq) (rEqR true) := by
  intro pins s σ H x y v u Q I rx ry h
  obtain ⟨a, b, ks, ls, rfl, rfl, ea, eb, hlen, hp, q⟩ := h
  obtain rfl : v = Value.ref a := rx
  obtain rfl : u = Value.ref b := ry
  obtain ⟨_, ya, va, ra, da⟩ := rd_obj I.hok ea
  obtain ⟨_, yb, vb, rb, db⟩ := rd_obj I.hok eb
  have hl : va.length = vb.length := by rw [← ra.length, ← rb.length]; exact hlen
  have hu : X.A.units < cLine := Nat.lt_of_le_of_lt (Nat.le_add_right _ 64) hu'
  exact PySem.W.keq_eq (knd := mixKind X.prog X.w) (r := true) ya yb da db hu (fun _ => hits_all rb ra hp) (fin_bl I q (by simp [hl]))
omit [TabT] in
theorem op_neDR (hu' : X.A.units + 64 < cLine) : OpR X (compareOp .NotEq) (rEqR false) := by
  intro pins s σ H x y v u Q I rx ry h
  obtain ⟨a, b, ks, ls, rfl, rfl, ea, eb, hlen, hp, q⟩ := h
  obtain rfl : v = Value.ref a := rx
  obtain rfl : u = Value.ref b := ry
  obtain ⟨_, ya, va, ra, da⟩ := rd_obj I.hok ea
  obtain ⟨_, yb, vb, rb, db⟩ := rd_obj I.hok eb
  have hl : va.length = vb.length := by rw [← ra.length, ← rb.length]; exact hlen
  have hu : X.A.units < cLine := Nat.lt_of_le_of_lt (Nat.le_add_right _ 64) hu'
  exact PySem.W.keq_ne (knd := mixKind X.prog X.w) (r := true) ya yb da db hu (fun _ => hits_all rb ra hp) (fin_bl I q (by simp [hl]))
variable {κ α : Type} [DecidableEq κ] [DecidableEq α] [Rep κ] [KeyT κ] [Rep α] [FlatV α] {wd : Wd} {G : Hp}
omit [TabT] in
theorem rkv.eqs {ls : List (Key × V)} {fs : List (κ × α)} (r2 : rkv wd G ls fs) : ∀ {ks : List (Key × V)} {es : List (κ × α)}, rkv wd G ks es → (∀ e ∈ es, (Dct.mk fs).get? e.1 = some e.2) → ∀ p ∈ ks, valV ls p.1 = some p.2 ∧ flatB p.2 = true
  | [], [], _, _, p, hp => by cases hp
  | k :: ks, e :: es, ⟨⟨h1, h2, h3⟩, t⟩, he, p, hp => by
    rcases List.mem_cons.mp hp with z | z
    · subst z
      have g := r2.get e.1
      rw [he e List.mem_cons_self] at g
      obtain ⟨v, hv, rv⟩ := g
      rw [h1, hv, FlatV.is rv, FlatV.is h3]
      exact ⟨rfl, FlatV.flat _⟩
    · exact rkv.eqs r2 t (fun e he' => he e (List.mem_cons_of_mem _ he')) p z
  | [], _ :: _, h, _, _, _ => h.elim
  | _ :: _, [], h, _, _, _ => h.elim
omit [TabT] in
def eqDR (b : Bool) (x y : DV κ α) : Rs Bool := if EqD x.d y.d then .ok b else .no
theorem m_eqDR {b : Bool} : Sem2 (wd := wd) kB kB kF (rEqR b) (eqDR (κ := κ) (α := α) b) := by
  intro W σ B1 B2 H G x y a c Q gh ⟨q, o, e1, e2, ps, e3, e4, e5⟩ ⟨q', o', e1', e2', ps', e3', e4', e5'⟩ p
  subst e1; subst e1'
  unfold eqDR at p
  by_cases hc : EqD a.d c.d
  · rw [if_pos hc] at p
    exact ⟨q, q', ps, ps', rfl, rfl, rd_dv e2 e3, rd_dv e2' e3', by rw [e5.len, e5'.len]; exact hc.1, rkv.eqs e5' e5 hc.2, p _ _ _ (Fr.refl gh) rfl⟩
  · rw [if_neg hc] at p
    exact p.elim
end
end Wm
set_option Elab.async false
set_option linter.all false
set_option maxRecDepth 100000
set_option maxHeartbeats 4000000
/-! loops over a dict (locked meanwhile); tuples of ints and texts -/
namespace Wm
open PySem PySem.Spec PyProof.Rows L2
open Rep (rep)
open Own (own)
/-- some slots are left alone -/
def Sl.fix (n : Sl) (js : List Nat) (σ0 : L2.St) : Sl where
  n := n.n
  ok := fun j => n.ok j ∧ j ∉ js
  keep := fun σ => n.keep σ ∧ ∀ j ∈ js, σ[j]? = σ0[j]?
  put := fun σ j x hj h => ⟨n.put σ j x hj.1 h.1, fun i hi => by
    rw [List.getElem?_set_ne (fun e => hj.2 (by rw [e]; exact hi))]
    exact h.2 i hi⟩
def Ctx.bos : Ctx → List Nat
  | [] => []
  | @Ent.bo i _ _ :: c => i :: Ctx.bos c
  | _ :: c => Ctx.bos c
section
variable {κ α : Type} [Rep κ] [KeyT κ] [Rep α] {wd : Wd} {H0 H G H' G' : Hp} {σ σ' : L2.St} {i : Nat} {d : Addr} {u : HO} {ob : Obj} {ps : List (Key × V)}
@[reducible] def LkT.back : ∀ {c : Ctx}, LkT c → Ctx.T c → Ctx.T c → Ctx.T c
  | _, .nil, _, g => g
  | _, @LkT.fz _ _ _ _ t, γ, g => (g.1, t.back γ.2 g.2)
  | _, @LkT.bo _ _ _ _ _ t, γ, g => (γ.1, t.back γ.2 g.2)
  | _, @LkT.ow _ _ _ _ t, γ, g => (g.1, t.back γ.2 g.2)
@[reducible] def Lk.back : ∀ {c c' : Ctx}, Lk i κ α c c' → Ctx.T c → Ctx.T c' → Ctx.T c
  | _, _, .bo t, γ, g => (γ.1, t.back γ.2 g.2)
  | _, _, .fv t, γ, g => (γ.1, t.back γ.2 g.2)
  | _, _, .fz t, γ, g => (γ.1, t.back γ.2 g.2)
  | _, _, .ow t, γ, g => (γ.1, t.back γ.2 g.2)
  | _, _, @Lk.sfz _ _ _ _ _ _ _ _ _ _ _ l, γ, g => (g.1, l.back γ.2 g.2)
  | _, _, @Lk.sbo _ _ _ _ _ _ _ _ _ _ _ _ l, γ, g => (γ.1, l.back γ.2 g.2)
  | _, _, @Lk.sow _ _ _ _ _ _ _ _ _ _ _ l, γ, g => (g.1, l.back γ.2 g.2)
end
section
variable [TabT] {X : Cx} {F : Fx} {c : Ctx} {κ α ρ : Type} [Rep κ] [KeyT κ] [Rep α] {i : Nat}
end
/-! ### tuples of ints and texts -/
section
/-- each of some things as one kind -/
structure CstN (α β : Type) [NtR α] [Rep β] where
  go : α → List β
  ok : ∀ {wd : Wd} {G : Hp} {vs : List V} {a : α}, NtR.reps wd G vs a → reps wd G vs (go a)
def CstN.nil {β : Type} [Rep β] : CstN Unit β := ⟨fun _ => [], fun h => by rw [show _ = [] from h]; trivial⟩
def CstN.cons {α α' β : Type} [Rep α] [Rep β] [NtR α'] (k : Cst α β) (n : CstN α' β) : CstN (α × α') β := ⟨fun a => k.go a.1 :: n.go a.2, fun ⟨v, vs', e, h, t⟩ => by subst e; exact ⟨k.ok h, n.ok t⟩⟩
def Cst.nt {α β : Type} [NtR α] [Rep β] (n : CstN α β) : Cst (Nt α) (Tup β) := ⟨fun a => ⟨n.go a.v⟩, fun ⟨p, o, e, g, vs, e2, l, h⟩ => ⟨p, o, e, g, vs, e2, l, n.ok h⟩⟩
def Cst.p2 {α α' β : Type} [Rep α] [Rep α'] [Rep β] (k : Cst α β) (j : Cst α' β) : Cst (α × α') (Tup β) :=
  ⟨fun a => ⟨[k.go a.1, j.go a.2]⟩, fun ⟨p, o, e, g, v, w, e2, h1, h2⟩ => ⟨p, o, e, g, [v, w], e2, by rw [sizeLine_eq]; show (2 : Nat) ≤ _; decide, k.ok h1, j.ok h2, trivial⟩⟩
def Cst.some {α β : Type} [Rep α] [Own β] (k : Cst α β) : Cst α (Option β) := ⟨fun a => .some (k.go a), fun h => k.ok h⟩
instance : PyEq (Int ⊕ Str) where
  d := fun x => match x with | .inl i => .int i | .inr s => .str s
  dep := 0
  dp := fun {_ _ _ _ _ a} _ h => by
    cases a with
    | inl i => rw [show _ = V.int _ from h]; exact .int _
    | inr s => rw [show _ = V.str _ from h.1]; exact .str _
  lay := fun {_ _ _ a} h => by
    cases a with
    | inl i => unfold PyData.canLay0; rfl
    | inr s => unfold PyData.canLay0; exact h.2.strOk
  depth := fun a => by cases a <;> (unfold PyData.depth; exact Nat.le_refl _)
  eqv := fun a b => by
    cases a <;> cases b
    · unfold PyData.eqv
      rw [Bool.beq_eq_decide_eq, decide_eq_decide]
      exact ⟨fun h => by rw [h], fun h => Sum.inl.inj h⟩
    · unfold PyData.eqv; rfl
    · unfold PyData.eqv; rfl
    · rename_i x y
      show PyData.eqv (.str x) (.str y) = _
      unfold PyData.eqv
      rw [show (x == y) = decide (x = y) from rfl, decide_eq_decide]
      exact ⟨fun h => by rw [h], fun h => Sum.inr.inj h⟩
variable [TabT]
end
end Wm
set_option Elab.async false
set_option linter.all false
set_option maxRecDepth 100000
set_option maxHeartbeats 4000000
/-! xs[a::k] -/
namespace L2
open PySem PySem.Spec PyProof.Rows
def pickG {α : Type} (xs : List α) (lo hi st : Option Int) : List α :=
  (sliceRange (sliceBounds lo hi st xs.length).1 (sliceBounds lo hi st xs.length).2.1 (sliceBounds lo hi st xs.length).2.2).filterMap (xs[·]?)
def tStepL (K : PySem.W.Frag) (te : TE) (tl : TO) (k : Int) : TE := fun σ H Q => te σ H fun x H1 => tl σ H1 fun l H2 => ∃ a xs, x = .ref a ∧ SqL K H2 a xs ∧ ∀ p, H2 p = none → Q (.ref p) (upd H2 p (.lst (pickG xs l none (some k))))
variable {X : Cx}
end L2
namespace Wm
open PySem PySem.Spec PyProof.Rows L2
open Rep (rep)
open Own (own)
variable [TabT]
section
variable {X : Cx} {F : Fx} {c : Ctx} {α : Type} {e : Expr} {pos : Pos}
end
/-! ### loops over a dict that may return -/
section
variable {X : Cx} {F : Fx} {c : Ctx} {κ α ρ : Type} [Rep κ] [KeyT κ] [Rep α] {i : Nat}
omit [TabT] in
/-- .. that may return -/
def inlM {α β ρ : Type} (f : α → β) (g : α ⊕ ρ) : β ⊕ ρ := match g with | .inl g => .inl (f g) | .inr r => .inr r
end
end Wm
set_option Elab.async false
set_option linter.all false
set_option maxRecDepth 100000
set_option maxHeartbeats 4000000
/-! texts: str(n), int(text), split, partition, startswith, f-strings of three parts, None in a list, casts of options -/
namespace Wm
open PySem PySem.Spec PyProof.Rows L2
open Rep (rep)
open Own (own)
variable [TabT]
omit [TabT] in
def strI (i : Int) : Rs Str := if i.natAbs.log2 < 1920 ∧ SOk (Str.ofString (toString i)) then .ok (Str.ofString (toString i)) else .no
omit [TabT] in
def intS (a : Str) : Rs Int := match PySem.intText? a with | some n => if a.length ≤ 640 then .ok n else .no | none => .no
section
variable {X : Cx} {F : Fx} {c : Ctx} {δ : Type} {k3 : Kd F.wd δ} {o e : Expr} {pos apos : Pos} {mo me : Ctx.T c → Rs Str}
end
omit [TabT] in
open Classical in
noncomputable def splitS (a b : Str) : Rs (List Str) := if (b.length == 0) = false ∧ a.length + 2 ≤ sizeLine ∧ (Txt.split a b).length ≤ 16777216 ∧ ∀ z ∈ Txt.split a b, SOk z then .ok (Txt.split a b) else .no
omit [TabT] in
open Classical in
noncomputable def partS (a b : Str) : Rs (Nt (Str × Str × Str × Unit)) := if (b.length == 0) = false ∧ a.length ≤ sizeLine ∧ SOk (Txt.partition a b).1 ∧ SOk (Txt.partition a b).2.1 ∧ SOk (Txt.partition a b).2.2 then .ok ⟨((Txt.partition a b).1, (Txt.partition a b).2.1, (Txt.partition a b).2.2, ())⟩ else .no
section
variable {X : Cx} {F : Fx} {c : Ctx} {o e : Expr} {pos apos : Pos} {mo me : Ctx.T c → Rs Str}
/-! ### f-strings -/
omit [TabT] in
def fmtS (y : Str) : Rs Str := if y.length ≤ sizeLine then .ok y else .no
omit [TabT] in
def lenS (r : Str) : Rs Str := if r.length ≤ sizeLine then .ok r else .no
omit [TabT] in
def finS (r : Str) : Rs Str := if r.length ≤ sizeLine ∧ SOk r then .ok r else .no
end
/-! ### None in a list -/
/-! ### texts in order -/
omit [TabT] in
def leT (a b : Str) : Bool := !decide (b.cps.toList < a.cps.toList)
/-! ### a list of options, none of them None -/
omit [TabT] in
def allO {α : Type} (xs : List (Option α)) : Rs (List α) := if xs.all (·.isSome) = true then .ok (xs.filterMap id) else .no
section
variable {X : Cx} {F : Fx} {c : Ctx} {e : Expr} {α : Type} [Rep α]
end
/-! ### (a, b, c) = a tuple of three -/
section
variable {X : Cx} {F : Fx} {c : Ctx} {α β δ : Type}
end
/-! ### a list made under the lock of a dict -/
section
variable {X : Cx} {F : Fx} {c : Ctx} {κ α : Type} [Rep κ] [KeyT κ] [Rep α] {i : Nat}
end
end Wm
set_option Elab.async false
set_option linter.all false
set_option maxRecDepth 100000
set_option maxHeartbeats 4000000
/-! list(o), o of an own class whose __iter__ hands back a tuple's iterator and that has an own __len__ -/
namespace Wm
open PySem PySem.Spec PyProof.Rows L2
open Rep (rep)
open Own (own)
variable [TabT]
omit [TabT] in
/-- at it an iterator over the tuple at t -/
def ItU (t it : Addr) (i : Nat) : HO := .ext fun h => h.IsTupleIter it t i
omit [TabT] in
def ItV (it : Addr) : HO := .ext fun h => ∃ o, h.get? it = some o
omit [TabT] in
def rIterT (K : PySem.W.Frag) : List V → Hp → VK → Prop := fun xs H Q => ∃ (l : Addr) (zs : List V), xs = [.ref l] ∧ SqT K H l zs ∧ ∀ it, H it = none → Q (.ref it) (upd H it (ItU l it 0))
/-- a fresh iterator over a tuple -/
def kI {wd : Wd} {α : Type} [Rep α] : Kd wd (Tup α) :=
  ⟨fun B H G v a => ∃ it t, v = .ref it ∧ B it = none ∧ G it = none ∧ H it = some (ItU t it 0) ∧ rep wd G (.ref t) a,
   fun ⟨it, t, e, n, g, h, r⟩ f => ⟨it, t, e, n, f.out h g, f.h.nt h (fun _ z => nomatch z), Rep.mono f.g r⟩,
   fun s ⟨it, t, e, n, g, h, r⟩ => ⟨it, t, e, s.free n, g, h, r⟩⟩
section
variable {X : Cx} {pins : List (Addr × Obj)} {σ : L2.St} {H : Hp} {s : Shared} {C a q t it fi fl : Addr} {A1 : Around} {n : Nat}
omit [TabT] in
def rListW (C : Addr) (spI spL : Sp) : List V → Hp → VK → Prop := fun xs H Q => ∃ a dx fs, xs = [.ref a] ∧ H a = some (.ins C dx fs) ∧
  ∀ q, H q = none → spI [.ref a] (upd H q (.lst [])) (fun v H1 => ∃ it t ys dx1 fs1, v = .ref it ∧ H1 a = some (.ins C dx1 fs1) ∧ H1 it = some (ItU t it 0) ∧
    spL [.ref a] H1 (fun w H2 => ∃ i : Int, w = .int i ∧ 0 ≤ i ∧ i < 4611686018427387904 ∧ i.toNat ≤ sizeLine ∧ H2 it = some (ItU t it 0) ∧ H2 t = some (.tup ys) ∧ H2 q = some (.lst []) ∧
      Q (.ref q) (upd (ItX.dropH H2 it) q (.lst ys))) fun _ _ _ => False) fun _ _ _ => False
end
/-! ### find, pop -/
section
variable {X : Cx} {F : Fx} {c : Ctx} {o e : Expr} {pos apos : Pos} {mo me : Ctx.T c → Rs Str}
end
omit [TabT] in
def popI {α : Type} (xs : List α) : Rs (List α) := if xs.length = 0 then .no else .ok xs.dropLast
section
variable {X : Cx} {F : Fx} {c : Ctx} {α : Type} {e : Expr}
end
section
variable {X : Cx} {F : Fx} {c : Ctx} {α δ : Type} {k1 : Kd F.wd α} {k3 : Kd F.wd δ} {a : Expr} {ma : Ctx.T c → Rs α} {p pos : Pos}
end
end Wm
set_option Elab.async false
set_option linter.all false
set_option maxRecDepth 100000
set_option maxHeartbeats 4000000
/-! a caught error handed to a def: the def's promise, its call, isinstance there, a list comprehension while an exception is handled -/
namespace Wm
open PySem PySem.Spec PyProof.Rows L2
open Rep (rep)
open Own (own)
variable [TabT]
/-! ### a list's iterator ends while an exception is handled -/
omit [TabT] in
theorem next_endH {prog : Program} {w : World} {A : Around} {E : Value → Shared → Prop} {s : Shared} {it l x1 : Addr} {i : Nat} {items : Array Value} {Q : Option Value → Shared → Prop} (hot : HotX.HotAt A x1 s.heap)
    (hit : s.heap.IsListIter it l i) (hl : s.heap.IsList l items) (hx : items[i]? = none) (hne : x1 ≠ it)
    (hQ : ∀ h', Heap.ExtBut it s.heap h' → Q none { s with heap := h' }) : wpAny (model prog w) A (pyNext (.ref it)) Q E s := by
  obtain ⟨o, ho, hc, hd⟩ := id hit
  obtain ⟨ol, hol, _, nl, hdl⟩ := hl
  obtain ⟨hh, o1, vs1, g1, d1, c1⟩ := hot
  unfold pyNext
  refine wpAny_bind (wpAny_attempt (wpAny_callSpecial?_slot (name := Str.ofString "__next__") hit.typeIs slot_listiter_next
    (wpAny_call_entry slot_listiter_next hit.typeIs entry_listiter_next ?_ (args_listiter_next _))))
  show wpAny _ _ (field (.ref it) 0 >>= _) _ _ s
  refine wpAny_bind (wpAny_field ho hd (x := .ref l) rfl ?_)
  show wpAny _ _ (if (Value.ref l == Value.none) = true then _ else _) _ _ s
  rw [if_neg (show ¬ ((Value.ref l == Value.none) = true) from Bool.false_ne_true)]
  show wpAny _ _ (field (.ref it) 1 >>= _) _ _ s
  refine wpAny_bind (wpAny_field ho hd (x := .int i 0) rfl ?_)
  show wpAny _ _ (seqItems? (.ref l) >>= _) _ _ s
  refine wpAny_bind (wpAny_seqItems hol hdl ?_)
  simp only [Int.toNat_natCast, hx]
  refine wpAny_bind (wpAny_rule (wpAny_bind (wpAny_setField ho hd (by simp) ?_)))
  show wpAny _ _ (newExc (.type "StopIteration") [] >>= _) _ _ _
  refine wpAny_bind ?_
  simp only [newExc, newTuple]
  refine wpAny_bind (wpAny_newObj_type ?_ (by size_fits))
  refine wpAny_bind (m := firstArgMember _ _) (wpAny_of_eq (a := Value.none) (by first | rfl | (simp only [firstArgMember]; rfl)) ?_)
  refine wpAny_newObj_type ?_ (by size_fits)
  have sb : Heap.SameBut it s.heap (s.heap.update it (Obj.mapFields (·.setIfInBounds 0 Value.none))) := Heap.SameBut.update ..
  have g2 := sb.extBut x1 o1 hne g1
  refine HotX.raiseNew_hot ⟨hh, o1, vs1, Heap.get?_push_of_some _ (Heap.get?_push_of_some _ g2), d1, c1⟩ (Nat.ne_of_lt (Heap.lt_size (Heap.get?_push_of_some _ g2))) (Heap.get?_push_size _ rfl) rfl (by first | (simp; done) | (simp; omega) | (simp only [Array.size_append]; simp; omega)) ?_
  refine wpAny_bind (wpAny_isInstance (T := "StopIteration") (b := true) ⟨_, Heap.get?_update_self _ (Heap.get?_push_size _ rfl) rfl, rfl⟩ isSubtype_stop ?_)
  refine wpAny_pure (hQ _ fun b u nb e => ?_)
  have e1 := sb.extBut b u nb e
  rw [Heap.get?_update_other _ _ (Nat.ne_of_gt (Heap.lt_size (Heap.get?_push_of_some _ e1)))]
  exact Heap.get?_push_of_some _ (Heap.get?_push_of_some _ e1)
/-! ### walks while an exception is handled -/
omit [TabT] in
structure TurnT (P : Program) (w : World) (K : PySem.W.Frag) (tg : Expr) (J : It) (fp : List Addr) (it : Addr) (tn : Nat → Heap → Prop) : Prop where
  mem : it ∈ fp
  obj : ∀ i h, tn i h → ∀ b ∈ fp, ∃ o, h.get? b = some o ∧ ∀ v, o.data ≠ .cell v
  keep : ∀ i h h', tn i h → (∀ b ∈ fp, ∀ o, h.get? b = some o → h'.get? b = some o) → tn i h'
  item : ∀ (X : Cx), X.prog = P → X.w = w → X.K = K → ∀ (i : Nat) (pins : List (Addr × Obj)) (s : Shared) (σ : L2.St) (H : Hp) (E : Value → Shared → Prop), Inv X pins σ H s → (∀ b ∈ fp, FpOk X pins H b) → tn i s.heap → J.go i H →
    wpAny (model P w) X.A (pyNext (.ref it)) (fun r s1 => ∃ u, r = some u ∧
      wpAny (model P w) X.A (letOwnedTupleGo tg (.ref it) u) (fun _ s2 => ∃ x H', Inv X pins σ H' s2 ∧ RelV x u ∧ J.yld i H x H' ∧ tn (i + 1) s2.heap ∧ ∀ b ∈ fp, H' b = none) E s1) E s
  done : ∀ (X : Cx), X.prog = P → X.w = w → X.K = K → ∀ (i : Nat) (pins : List (Addr × Obj)) (s : Shared) (σ : L2.St) (H : Hp) (E : Value → Shared → Prop), (∃ x1, HotX.HotAt X.A x1 s.heap) → Inv X pins σ H s → (∀ b ∈ fp, FpOk X pins H b) → tn i s.heap → J.stop i H →
    wpAny (model P w) X.A (pyNext (.ref it)) (fun r s1 => r = none ∧ Inv X pins σ H s1) E s
  self : ∀ (A : Around) (i : Nat) (s : Shared) (Q : Value → Shared → Prop) (E : Value → Shared → Prop), tn i s.heap → Q (.ref it) s → wpAny (model P w) A (pyIter (.ref it)) Q E s
omit [TabT] in
theorem turn_listT {P : Program} {w : World} {K : PySem.W.Frag} {tg : Expr} (a it : Addr) : TurnT P w K tg (Itl K a) [it] it (fun i h => h.IsListIter it a i) where
  mem := (turn_list (P := P) (w := w) (K := K) (tg := tg) a it).mem
  obj := (turn_list (P := P) (w := w) (K := K) (tg := tg) a it).obj
  keep := (turn_list (P := P) (w := w) (K := K) (tg := tg) a it).keep
  self := (turn_list (P := P) (w := w) (K := K) (tg := tg) a it).self
  item := by
    intro X hP hw hK i pins s σ H E I hf st hg
    subst hP hw hK
    obtain ⟨xs, x, hq, hx⟩ := hg
    obtain ⟨its, rv, p, hz⟩ := I.list hq
    obtain ⟨u, hu, ru⟩ := rv.get hx
    obtain ⟨f0, f1, f2, f3, f4, f5⟩ := hf it (by simp)
    refine wpAny_pyNext_list_item st p.isList (x := u) (by simpa using hu) fun h' st' sb => ?_
    have I1 : Inv X pins σ H { s with heap := h' } := I.turned (t' := s.toks) (fun b o hb e => (sb.2 b hb).trans e) f0 f1 f3 f4 f5
    obtain ⟨o, e, c, d⟩ := id st'
    exact ⟨u, rfl, go_of (s := { s with heap := h' }) e c d (by decide) ⟨x, H, I1, ru, ⟨rfl, fun ys hy => by rw [I.list_inj hy hq]; exact hx⟩, st', fun b hb => (hf b hb).1⟩⟩
  done := by
    intro X hP hw hK i pins s σ H E hot I hf st hg
    subst hP hw hK
    obtain ⟨xs, hq, hx⟩ := hg
    obtain ⟨its, rv, p, hz⟩ := I.list hq
    obtain ⟨f0, f1, f2, f3, f4, f5⟩ := hf it (by simp)
    have hl := rv.length
    obtain ⟨x1, hot⟩ := hot
    obtain ⟨_, o1, vs1, g1, d1, c1⟩ := id hot
    obtain ⟨o, e, _, d⟩ := id st
    refine next_endH hot st p.isList (by simp; omega) (fun z => ?_) fun h' eb => ⟨rfl, I.turned (t' := s.toks) (fun b o hb e => eb b o hb e) f0 f1 f3 f4 f5⟩
    rw [z, e] at g1
    obtain rfl := Option.some.inj g1
    rw [d] at d1
    injection d1 with d2
    subst d2
    simp at c1
omit [TabT] in
def PIET (X : Cx) (pins : List (Addr × Obj)) (σ : L2.St) (tg : Expr) (R : It → Hp → Prop) (itv : Value) (s2 : Shared) : Prop :=
  ∃ (it : Addr) (fp : List Addr) (tn : Nat → Heap → Prop) (J : It) (H' : Hp), itv = .ref it ∧ Inv X pins σ H' s2 ∧ TurnT X.prog X.w X.K tg J fp it tn ∧ tn 0 s2.heap ∧ (∀ b ∈ fp, FpOk X pins H' b) ∧ R J H'
omit [TabT] in
structure PIT (X : Cx) (tg iter : Expr) (wi : TI) : Prop where
  run : ∀ (pins : List (Addr × Obj)) (s : Shared) (σ : L2.St) (H : Hp) (R : It → Hp → Prop), Inv X pins σ H s → wi σ H R →
    wpAny (model X.prog X.w) X.A (eval iter X.env) (fun v s1 => wpAny (model X.prog X.w) X.A (pyIter v) (PIET X pins σ tg R) X.xe s1) X.xe s
section
variable {X : Cx} {tg : Expr}
omit [TabT] in
theorem pit_list {l : Expr} {tl : TE} (hl : PE X l tl) : PIT X tg l (iList X.K tl) := by
  refine ⟨fun pins s σ H R I h => ?_⟩
  refine thn (hl.run pins s σ H _ I h) fun v s1 ⟨x, H1, I1, r1, q1⟩ => ?_
  obtain ⟨a, e, ⟨xs, hq⟩, q⟩ := q1
  subst e
  cases r1
  obtain ⟨its, rv, p, hz⟩ := I1.list hq
  refine wpAny_pyIter_list p.isList ?_
  refine ⟨s1.heap.objs.size, [s1.heap.objs.size], _, _, H1, rfl, I1.kept (t' := s1.toks) fun b o e => Heap.get?_push_of_some _ e, turn_listT a _, ⟨_, Heap.get?_push_size _ rfl, rfl, rfl⟩, fun b hb => ?_, q⟩
  have e : b = s1.heap.objs.size := by simpa using hb
  subst e
  exact I1.fpOk (Nat.le_refl _) (I1.hok.fresh (Nat.le_refl _))
omit [TabT] in
theorem pit_mono {it : Expr} {t t' : TI} (h : PIT X tg it t) (i : ∀ σ H Q, t' σ H Q → t σ H Q) : PIT X tg it t' := ⟨fun pins s σ H Q I q => h.run pins s σ H Q I (i σ H Q q)⟩
end
section
variable {X : Cx}
omit [TabT] in
theorem lc_coreT {pins : List (Addr × Obj)} {s : Shared} {σ : L2.St} {H : Hp} {Q : VK} {elt tg iter : Expr} {ifs : List Expr} {scope : Scope} {own : List (Str × Nat)} {pos pos' : Pos} {wi : TI} {g : TG} {tt : TT} {te : TE} {use : Option (Value → Sem Unit)} {Qf : Value → Shared → Prop}
    (hc : L2H.HotC X) (hN : X.N.Nodup) (I : Inv X pins σ H s) (hi : PIT X tg iter wi) (ok : BlkOk X.N X.env.scope scope own)
    (hg : ∀ (s : Shared) (H : Hp) (C : Addr) (cl : List (Str × Addr)) (fp : List Addr), PG (X.blk s H scope (compEnvC scope cl C X.env) fp) tg g) (ht : ∀ (s : Shared) (H : Hp) (C : Addr) (cl : List (Str × Addr)) (fp : List Addr), PTs (X.blk s H scope (compEnvC scope cl C X.env) fp) ifs tt)
    (he : ∀ (s : Shared) (H : Hp) (C : Addr) (cl : List (Str × Addr)) (fp : List Addr), PE (X.blk s H scope (compEnvC scope cl C X.env) fp) elt te) (hs : ∀ x, foldedSetIterable iter X.env x = pure x)
    (h : tLc wi g tt te (own.map (·.2)) σ H Q)
    (hRR : ∀ D C s' m H', Inv X pins σ H' s' → Q (.ref D) H' → s'.heap.Ns C m → FpOk X pins H' C → compPost (model X.prog X.w) X.A X.xe use Qf (.ref D) C (.ok .next) s') :
    wpAny (model X.prog X.w) X.A (comprehension (.ListComp elt [⟨tg, iter, ifs, 0⟩] scope pos) scope X.env pos' (newList []) false (eval iter X.env) use) Qf X.xe s := by
  have hfree : ∀ y ∈ scope.names, y.2 = .free → ∃ c, X.env.cells.lookup y.1 = some c := fun y hy e => by
    rcases ok.free y hy e with k | k
    · exact I.ok.has _ (.inl k)
    · exact I.ok.has _ (.inr k)
  refine wpAny_comprehension_free (use := use) rfl hs (closure_ok hfree) ok.kind (fun y hy e => by rw [ok.uniq y hy, e])
    (thn (hi.run pins s σ H _ I h) fun xv s1 hx => thn hx fun itv s2 h2 => ?_)
  obtain ⟨it, fp, tn, J, H2, e, I2, T, st2, f2, q⟩ := h2
  subst e
  refine wpAny_newObj_type (newEnv_comp ?_) (by show 0 ≤ sizeLine; decide)
  generalize hD : s2.heap.objs.size = D
  have hDn : H2 D = none := I2.hok.fresh (Nat.le_of_eq hD)
  obtain ⟨W, ⟨m0, w0⟩, turn⟩ := q D hDn
  -- the new list
  generalize hs3 : ({ s2 with heap := s2.heap.push { cls := .type "list", data := .seq ([] : List Value).toArray } } : Shared) = s3
  have I3 : Inv X pins σ (upd H2 D (.lst [])) s3 := by
    rw [← hs3]
    refine I2.laid (t' := s2.toks) (fun b o e => Heap.get?_push_of_some _ e) (Nat.le_of_eq hD) ⟨Nat.zero_le _, [], 0, .nil, ?_⟩
    rw [← hD]
    exact Heap.get?_push_size _ rfl
  have h3 : s3.heap = s2.heap.push { cls := .type "list", data := .seq ([] : List Value).toArray } := by rw [← hs3]
  have sz : ∀ b ∈ fp, b < s2.heap.objs.size := fun b hb => by
    obtain ⟨o, e, _⟩ := T.obj _ _ st2 b hb
    exact Heap.lt_size e
  have f3 : ∀ b ∈ fp, FpOk X pins (upd H2 D (.lst [])) b ∧ b < s3.heap.objs.size := fun b hb => by
    have hlt := sz b hb
    refine ⟨⟨?_, (f2 b hb).2⟩, by rw [h3, Heap.size_push]; exact Nat.lt_succ_of_lt hlt⟩
    rw [upd_ne (by rw [← hD]; exact Nat.ne_of_lt hlt)]
    exact (f2 b hb).1
  have st3 : tn 0 s3.heap := T.keep _ _ _ st2 fun b _ o e => by rw [h3]; exact Heap.get?_push_of_some _ e
  have I4 := block_start I3 ok hN f3
  have pg := hg s3 (upd H2 D (.lst [])) s3.heap.objs.size (cellsFrom (s3.heap.objs.size + 1) scope.names (cloFrom X.env.cells scope.names [])) fp
  have pt := ht s3 (upd H2 D (.lst [])) s3.heap.objs.size (cellsFrom (s3.heap.objs.size + 1) scope.names (cloFrom X.env.cells scope.names [])) fp
  have pe := he s3 (upd H2 D (.lst [])) s3.heap.objs.size (cellsFrom (s3.heap.objs.size + 1) scope.names (cloFrom X.env.cells scope.names [])) fp
  show codeAny _ _ (.compStart (.ListComp elt [⟨tg, iter, ifs, 0⟩] scope pos) 0 (.ref it) (.ref D) (compEnvC scope (cellsFrom (s3.heap.objs.size + 1) scope.names (cloFrom X.env.cells scope.names [])) s3.heap.objs.size X.env)) (compPost (model X.prog X.w) X.A X.xe use Qf (.ref D) s3.heap.objs.size) { s3 with heap := pushCells (s3.heap.push { cls := .type "dict", data := .dict #[] }) scope.names }
  have nfp : ∀ b ∈ fp, (upd H2 D (.lst [])) b = none := fun b hb => (f3 b hb).1.1
  generalize hce : compEnvC scope (cellsFrom (s3.heap.objs.size + 1) scope.names (cloFrom X.env.cells scope.names [])) s3.heap.objs.size X.env = ce at I4 pg pt pe ⊢
  have cL : ce.locals = s3.heap.objs.size := by subst hce; rfl
  generalize hH3 : upd H2 D (.lst []) = H3 at I3 I4 pg pt pe w0 nfp f3
  generalize hs4 : ({ s3 with heap := pushCells (s3.heap.push { cls := .type "dict", data := .dict #[] }) scope.names } : Shared) = s4 at I4 ⊢
  have st4 : tn 0 s4.heap := T.keep _ _ _ st3 fun b _ o e => by rw [← hs4]; exact pushCells_keeps _ _ _ _ (Heap.get?_push_of_some _ e)
  have stat : ∀ {σ' : L2.St} {H' : Hp} {s' : Shared}, Inv (X.blk s3 H3 scope ce fp) [] σ' H' s' → (∀ b ∈ fp, H' b = none) → ∀ b ∈ fp, FpOk (X.blk s3 H3 scope ce fp) [] H' b := fun {σ' H' s'} I' hn b hb =>
    ⟨hn b hb, (I'.ok.exf b hb).1, I'.ok.exfs b hb, .inl hb, fun x c e => (I'.ok.exf b hb).2 x c e, fun p hp => absurd (show p ∈ ([] : List (Addr × Obj)) ++ [] from hp) (by simp)⟩
  have hotB : ∀ {σ' : L2.St} {H' : Hp} {s' : Shared}, Inv (X.blk s3 H3 scope ce fp) [] σ' H' s' → ∃ x1, HotX.HotAt X.A x1 s'.heap := fun {σ' H' s'} I' => by
    obtain ⟨p, ⟨hh, v1, e1, c1⟩, hp⟩ := hc
    obtain ⟨g1, g2, g3, g4, _⟩ := I3.pin p (List.mem_append_left _ hp)
    exact ⟨p.1, hh, p.2, v1, I'.base.keep p.1 p.2 g1 g2 (fun hm => (List.mem_cons.mp (I3.stkSub p.1 hm)).elim g3 g4) (fun hb => (f3 p.1 hb).1.2.2.2.2.2 p (List.mem_append_left _ hp) rfl), e1, c1⟩
  have loop : codeAny (model X.prog X.w) X.A (.compLoop (.ListComp elt [⟨tg, iter, ifs, 0⟩] scope pos) 0 (.ref it) (.ref D) ce) (compPost (model X.prog X.w) X.A X.xe use Qf (.ref D) s3.heap.objs.size) s4 := by
    refine compLoop_any (fun n s' => ∃ i H', Inv (X.blk s3 H3 scope ce fp) [] (wipe σ (own.map (·.2))) H' s' ∧ tn i s'.heap ∧ (∀ b ∈ fp, H' b = none) ∧ W i n H') ?_ m0 ⟨0, H3, I4, st4, nfp, w0⟩
    rintro n s5 ⟨i, H5, I5, st5, n5, w5⟩
    rcases turn i n H5 w5 with ⟨stop, qq⟩ | ⟨go, Nx, hNx, step⟩
    · have td := T.done (X.blk s3 H3 scope ce fp) rfl rfl rfl i [] s5 _ H5 (fun _ _ => False) (hotB I5) I5 (stat I5 n5) st5 stop
      refine thnF td fun r s6 ⟨hr, I6⟩ => ?_
      subst hr
      -- back in the def's context
      have I7 : Inv X pins σ H5 s6 := I3.call' (ch := fp) I6.os I6.base I6.hok I6.bare fun b hb => ⟨(f3 b hb).1.2.2.2.1, (f3 b hb).1.2.1, (f3 b hb).1.2.2.2.2.1, (f3 b hb).1.2.2.2.2.2⟩
      have nC : H5 s3.heap.objs.size = none := by
        have z : H5 ce.locals = none := I6.free
        rw [cL] at z
        exact z
      obtain ⟨m, hn, _⟩ := I6.loc
      have hn : s6.heap.Ns ce.locals m := hn
      rw [cL] at hn
      exact hRR D s3.heap.objs.size s6 m H5 I7 qq hn (I3.fpOk (Nat.le_refl _) nC)
    · have ti := T.item (X.blk s3 H3 scope ce fp) rfl rfl rfl i [] s5 _ H5 (fun _ _ => False) I5 (stat I5 n5) st5 go
      refine thnF ti fun r s6 ⟨u, hr, h6⟩ => ?_
      subst hr
      refine thnF h6 fun _ s7 ⟨x, H7, I7, r7, y7, st7, n7⟩ => ?_
      have I7' := I7.pinned (stat I7 n7) (T.obj _ _ st7)
      refine thnF (pg.run _ s7 _ H7 x u _ I7' r7 (step x H7 y7)) fun _ s8 ⟨σ8, H8, I8, hw8, q8⟩ => ?_
      refine thnF (pt.run _ s8 σ8 H8 _ I8 q8) fun b s9 ⟨H9, I9, q9⟩ => ?_
      -- the turn's end
      have fin : ∀ {s' : Shared} {H' : Hp}, Inv (X.blk s3 H3 scope ce fp) ([] ++ pinsAt fp s7.heap) σ8 H' s' → Nx H' → ∃ m, m < n ∧ ∃ i H', Inv (X.blk s3 H3 scope ce fp) [] (wipe σ (own.map (·.2))) H' s' ∧ tn i s'.heap ∧ (∀ b ∈ fp, H' b = none) ∧ W i m H' := fun {s' H'} I' nx => by
        obtain ⟨m', hm, w'⟩ := hNx H' nx
        have pin' : ∀ b ∈ fp, ∀ o, s7.heap.get? b = some o → s'.heap.get? b = some o ∧ H' b = none := fun b hb o e =>
          let z := I'.pin (b, o) (List.mem_append_right _ (List.mem_append_right _ (mem_pinsAt hb e)))
          ⟨z.1, z.2.1⟩
        have hl : (wipe σ (own.map (·.2))).length = σ8.length := by rw [← hw8, wipe_length]
        refine ⟨m', hm, i + 1, H', (I'.unpinned (pins := [])).weak hl (fun j v e => ?_), T.keep _ _ _ st7 fun b hb o e => (pin' b hb o e).1, fun b hb => ?_, w'⟩
        · rw [← hw8] at e
          exact (wipe_some e).1
        · obtain ⟨o, e, _⟩ := T.obj _ _ st7 b hb
          exact (pin' b hb o e).2
      cases b with
      | false =>
        simp only [Bool.false_eq_true, if_false] at q9 ⊢
        exact fin I9 q9
      | true =>
        simp only [if_true] at q9 ⊢
        refine thnF (pe.run _ s9 σ8 H9 _ I9 q9) fun z s10 ⟨yv, H10, I10, r10, acc, hD10, hz10, nx⟩ => ?_
        exact app_ok (X := X.blk s3 H3 scope ce fp) I10 hD10 hz10 r10 fun s11 I11 => fin I11 nx
  exact codeAny_compStart_list loop (T.self X.A 0 _ _ _ st4 loop)
omit [TabT] in
theorem pe_lcT {elt tg iter : Expr} {ifs : List Expr} {scope : Scope} {own : List (Str × Nat)} {pos : Pos} {wi : TI} {g : TG} {tt : TT} {te : TE} (hc : L2H.HotC X) (hN : X.N.Nodup) (hi : PIT X tg iter wi) (ok : BlkOk X.N X.env.scope scope own)
    (hg : ∀ (s : Shared) (H : Hp) (C : Addr) (cl : List (Str × Addr)) (fp : List Addr), PG (X.blk s H scope (compEnvC scope cl C X.env) fp) tg g) (ht : ∀ (s : Shared) (H : Hp) (C : Addr) (cl : List (Str × Addr)) (fp : List Addr), PTs (X.blk s H scope (compEnvC scope cl C X.env) fp) ifs tt)
    (he : ∀ (s : Shared) (H : Hp) (C : Addr) (cl : List (Str × Addr)) (fp : List Addr), PE (X.blk s H scope (compEnvC scope cl C X.env) fp) elt te) (hs : ∀ x, foldedSetIterable iter X.env x = pure x := by intro _; rfl) :
    PE X (.ListComp elt [⟨tg, iter, ifs, 0⟩] scope pos) (tLc wi g tt te (own.map (·.2))) := by
  refine ⟨fun pins s σ H Q I h => ?_⟩
  rw [eval_ListComp]
  refine lc_coreT hc hN I hi ok hg ht he hs h fun D C s' m H' I' q hn f => ⟨m, hn, fun h'' sb => ?_⟩
  obtain ⟨f0, f1, f2, f3, f4, f5⟩ := f
  exact ⟨.ref D, H', I'.turned (t' := s'.toks) (fun b o hb e => (sb.2 b hb).trans e) f0 f1 f3 f4 f5, rfl, q⟩
end
section
variable {X : Cx} {F : Fx} {c : Ctx} {α β : Type}
theorem it_listB {tg e : Expr} [Rep α] {m : Ctx.T c → Rs (List α)} (hK : F.wd.K = X.K) (h : PE X e (tX F kB c m)) : PIT X tg e (tI F .h c fun γ => (m γ).bind .ok) :=
  pit_mono (pit_list h) fun σ H Rr q => tI_of q (fun v H0 H1 G1 b h0 gh ⟨p, o, e1, e2, vs, e3, e4, e5⟩ w => by
    subst e3
    exact ⟨p, e1, ⟨vs, .of e2⟩, w _ (wk_list hK e2 e5)⟩) fun _ _ z => nomatch z
theorem e_lcT [Rep α] [Rep β] {fr : Bs} {elt tg iter : Expr} {ifs : List Expr} {scope : Scope} {own : List (Str × Nat)} {pos : Pos} {g : TG} {c1 c2 : Ctx} {mL : Ctx.T c → Rs (List α)} {mt : Ctx.T c2 → Rs Bool} {me : Ctx.T c2 → Rs β} {push : α → Ctx.T c1 → Ctx.T c2} (hc : L2H.HotC X) (hN : X.N.Nodup) (hi : PIT X tg iter (tI F fr c mL)) (ok : BlkOk X.N X.env.scope scope own)
    (s : Sub c c1) (hn : Ctx.nots (own.map (·.2)) c1 = true) (ht : TgtC F.blk g (own.map (·.2)) c1 c2 push)
    (hg : ∀ (s : Shared) (H : Hp) (C : Addr) (cl : List (Str × Addr)) (fp : List Addr), PG (X.blk s H scope (compEnvC scope cl C X.env) fp) tg g) (hts : ∀ (s : Shared) (H : Hp) (C : Addr) (cl : List (Str × Addr)) (fp : List Addr), PTs (X.blk s H scope (compEnvC scope cl C X.env) fp) ifs (tQ F.blk c2 mt))
    (he : ∀ (s : Shared) (H : Hp) (C : Addr) (cl : List (Str × Addr)) (fp : List Addr), PE (X.blk s H scope (compEnvC scope cl C X.env) fp) elt (tX F.blk kF c2 me)) (hs : ∀ x, foldedSetIterable iter X.env x = pure x := by intro _; rfl) :
    PE X (.ListComp elt [⟨tg, iter, ifs, 0⟩] scope pos) (tX F kO c fun γ => (mL γ).bind fun xs => if xs.length ≤ 16777216 then Rs.comp (fun x => mt (push x (s.proj γ))) (fun x => me (push x (s.proj γ))) xs else .no) :=
  pe_mono (pe_lcT hc hN hi ok hg hts he hs) fun σ H Q h => lc_of s hn ht h
end
/-! ### a def that is handed the handled exception -/
omit [TabT] in
structure FnHX (P : Program) (w : World) (K : PySem.W.Frag) (mg : Str → Option Value) (base : Heap) (CX : CXT) (k : Nat) (f : Addr) (fd : FuncData) (ps : List Str) (sp : Addr × Obj → Sp) : Prop where
  len : ∀ p vs H Q E, sp p vs H Q E → vs.length = ps.length
  run : ∀ (A : Around) (outer : List Env) (s : Shared) (H : Hp) (args : Args) (us : List Value) (vs : List V) (Q : VK) (E : XK) (p : Addr × Obj), L2H.RoomH k A → L2H.Hot1 A p → L2H.PinOk outer H s p → Env0 P w K mg base A outer s H → BindsTo s fd args (ps.zip us) → Vals vs us → sp p vs H Q E →
    codeAny (model P w) A (.call (.ref f) args) (CR CX outer P w H s Q E) s
omit [TabT] in
theorem fn_ofHX {CX : CXT} {P : Program} {w : World} {K : PySem.W.Frag} {mg : Str → Option Value} {base : Heap} {k : Nat} {f : Addr} {name qual : Str} {params : Arguments} {body : List Stmt} {scope : Scope} {dV kV doc pm cdv ct oc : Value} {an od : Option Addr}
    {osl : Array (Option Value)} {N ps : List Str} {sp : Addr × Obj → Sp} (lk : K.lookup f = some ⟨oc, od, .func (PySem.W.fnOf name qual params body scope dV kV doc pm an cdv ct), osl⟩) (hcd : PySem.W.codeIn K cdv qual = true) (S : FnScope N ps scope)
    (len : ∀ p vs H Q E, sp p vs H Q E → vs.length = ps.length)
    (hbody : ∀ (A : Around) (outer : List Env) (s : Shared) (H : Hp) (vs : List V) (Q : VK) (E : XK) (p : Addr × Obj), L2H.Hot1 A p → L2H.RoomH k (A.deeper (envOfC qual scope s.heap.objs.size f cdv)) → sp p vs H Q E →
      ∃ t, PSs (L2H.cxH CX P w K mg base N qual scope f cdv A outer s H E p) body t ∧ t { nx := fun _ H' => Q .non H', rt := Q } (L2.start N vs) H) :
    FnHX P w K mg base CX (k + 1) f (PySem.W.fnOf name qual params body scope dV kV doc pm an cdv ct) ps sp := by
  refine ⟨len, fun A outer s H args us vs Q E p hr hot hpin e0 hb r hsp => ?_⟩
  have hl := len _ _ _ _ _ hsp
  have KX : K.In s.heap := e0.mod.kin.keeps fun b o e => (e0.bs b o e).1
  have lim : s.heap.NoLimit := e0.mod.nolimit.keeps fun b o e => (e0.bs b o e).1
  have hkind : ∀ y ∈ ps.zip us, scope.names.lookup y.1 = some .local ∨ (scope.names.lookup y.1 = some .cell ∧ ((cellsFrom (s.heap.objs.size + 1) scope.names []).lookup y.1).isSome = true) := fun ⟨n, v⟩ hy => by
    rcases S.par n (List.of_mem_zip hy).1 with q | q
    · exact .inl q
    · exact .inr ⟨q, PySem.W.cellsFrom_some _ _ _ (.inl q)⟩
  refine codeAny_call_function hr.depth (KX _ _ lk) rfl S.co S.gen rfl (PySem.W.codeRec_of KX hcd) (hb _ _ _ _ ?_)
  refine wpAny_newFunctionEnv_cells S.kind hkind fun env he s1 x => ?_
  subst he
  refine ⟨lim.keeps x.toInCall.keep, codeAny_func ?_⟩
  obtain ⟨t, ht, hq⟩ := hbody A outer s H vs Q E p hot (hr.deeper _) hsp
  have I : Inv (L2H.cxH CX P w K mg base N qual scope f cdv A outer s H E p) [] (L2.start N vs) H s1 := L2H.inv_startH S hpin e0 hl r x
  refine wpAny_mono (ht.run [] s1 (L2.start N vs) H _ I hq) (fun fl s' hs => ?_) fun e s' hs => hs
  have fin : ∀ {σ' : L2.St} {H' : Hp} {v : V} {u : Value}, Inv (L2H.cxH CX P w K mg base N qual scope f cdv A outer s H E p) [] σ' H' s' → RelV v u → Q v H' → CE outer P w H s Q u s' :=
    fun {σ' H' v u} J rv q => ⟨v, H', J.os, J.bare, J.base, J.hok, rv, q⟩
  cases fl with
  | ret u =>
    obtain ⟨v, σ', H', J, rv, q⟩ := hs
    exact fin J rv q
  | next =>
    obtain ⟨σ', H', J, q⟩ := hs
    exact fin (v := V.non) (u := Value.none) J rfl q
  | brk =>
    obtain ⟨_, _, _, q⟩ := hs
    exact False.elim q
  | cont =>
    obtain ⟨_, _, _, q⟩ := hs
    exact False.elim q
/-- the spec: the one argument is the handled exception, of the class at C -/
def spX (wd : Wd) {ρ : Type} (C : Addr) (kr : Kd wd ρ) (m : Exc × Unit → Rs ρ) (p : Addr × Obj) : Sp := fun vs H Q E => ∃ d, L2N.Zn (.ref C) d p.2 ∧ (∃ ws, p.2.data = .fields ws) ∧ spF wd kr [@Ent.fz 0 Exc (repEx p.1 d)] m vs H Q E
theorem fn_okHX {P : Program} {w : World} {K : PySem.W.Frag} {mg : Str → Option Value} {base : Heap} {ρ : Type} {wd : Wd} {C : Addr} {kr : Kd wd ρ} {m : Exc × Unit → Rs ρ} {x qual y : Str} {st : Stmt} {f : Addr} {fd : FuncData} {N : List Str} {k : Nat} (F : Fun K x qual st f fd) (S : FnScope N [y] (defScope st))
    (body : ∀ (cdv : Value) (A : Around) (outer : List Env) (s : Shared) (H : Hp) (E : XK) (p : Addr × Obj) (d : Option Addr), L2H.RoomH k (A.deeper (envOfC qual (defScope st) s.heap.objs.size f cdv)) → L2N.Zn (.ref C) d p.2 → (∃ ws, p.2.data = .fields ws) →
      L2H.HotC (L2H.cxH (L2N.CX P w) P w K mg base N qual (defScope st) f cdv A outer s H E p) → p ∈ (L2H.cxH (L2N.CX P w) P w K mg base N qual (defScope st) f cdv A outer s H E p).pn →
      PSs (L2H.cxH (L2N.CX P w) P w K mg base N qual (defScope st) f cdv A outer s H E p) (defBody st) (tT ⟨wd, Sl.all N.length, fun cls d _ H => E cls d H⟩ kr [@Ent.fz 0 Exc (repEx p.1 d)] m)) :
    FnHX P w K mg base (L2N.CX P w) (k + 1) f fd [y] (spX wd C kr m) := by
  have hpl : [y].length ≤ N.length := by have := congrArg List.length S.pre; rw [List.length_take] at this; omega
  obtain ⟨oc, od, kV, doc, pm, an, cdv, ct, osl, rfl, lk, hcd⟩ := F.ex
  refine fn_ofHX lk hcd S (fun p vs H Q E ⟨_, _, _, h⟩ => h.1) (fun A outer s H vs Q E p hp hr ⟨d, hz, hf, h⟩ => ⟨_, body cdv A outer s H E p d hr hz hf ⟨p, hp, List.mem_cons_self⟩ List.mem_cons_self, ?_⟩)
  obtain ⟨h1, G, γ, gh, tb, ra, p⟩ := h
  refine ⟨H, G, G, [], γ, ⟨?_, Fr.refl gh, List.nodup_nil, fun _ z => (by cases z), RA.r (fun k v e => start_get e) ra, tb⟩, ?_⟩
  · refine ⟨?_, trivial⟩
    show _ = N.length
    unfold L2.start
    rw [List.length_append, List.length_map, List.length_replicate]
    have h2 : vs.length = 1 := h1
    have h3 : 1 ≤ N.length := hpl
    omega
  · cases e : m γ with
    | no => rw [e] at p; exact p
    | ex x => rw [e] at p; exact fun d σ H' G' _ => p d H' G'
    | ok r => rw [e] at p; exact fun H' G' v f q => p H' G' v f q
section
variable {X : Cx} {F : Fx} {ρ : Type} {kr : Kd F.wd ρ} {c : Ctx} {x y : Str} {C a : Addr} {oe : Obj} {d : Option Addr} {pn : List (Addr × Obj)} {i : Nat} {p2 p3 q pos : Pos}
/-- it is called in the suite, the caught exception handed over -/
theorem e_callX {m : Exc × Unit → Rs ρ} {fa : Addr} {fd : FuncData} {k : Nat} (tk : L2N.Takes (X.suite a ((a, oe) :: pn)) F.W) (hot : L2H.HotC (X.suite a ((a, oe) :: pn))) (hz : L2N.Zn (.ref C) d oe) (hf : ∃ vs, oe.data = .fields vs)
    (Fn : FnHX X.prog X.w X.K X.mg X.base (L2N.CX X.prog X.w) k fa fd [y] (spX F.wd C kr m)) (hr : L2H.RoomH k (X.suite a ((a, oe) :: pn)).A) (hm : X.mg x = some (.ref fa)) (hk : PySem.W.keepIn X.K (.ref fa) = true) (hb : Binds X.K fd [y] [])
    {n : Str} (v : Var c (@Ent.fz i Exc (repEx a d))) (hN : X.N[i]? = some n) (hg : Gl X x := by rfl) (hdb : (x == ("__debug__" : Str)) = false := by decide)
    (hv : Vis X.env.scope n := by first | exact Or.inl rfl | exact Or.inr (Or.inl rfl) | exact Or.inr (Or.inr rfl)) (hd : (n == ("__debug__" : Str)) = false := by decide) (hcd : (n == ("__classdict__" : Str)) = false := by decide)
    (he : starEach (.Name n p2 :: []) X.env = (false, eval (.Name n p2) X.env) :: starEach [] X.env := by rfl) (hpl : (backTo pos (starEach [] X.env)).any (·.1) = false := by rfl) :
    PE (X.suite a ((a, oe) :: pn)) (.Call (.Name x q) [.Name n p2] [] pos) (tX F kr c fun γ => m (v.get γ, ())) := by
  refine ⟨fun pins s σ H Q I h => ?_⟩
  refine wpAny_Call_Name_kw (ld_glob I hg hm ?_ hdb)
  refine PySem.W.callWith_K (h₀ := X.base) I.ok.mod.kin hk (thn ((pa_cons (pe_var (X := X.suite a ((a, oe) :: pn)) hN hv hd hcd) pa_nil he).run pos pins s σ H (fun vs H1 => H1 = H ∧ vs = [V.ref a] ∧ spX F.wd C kr m (a, oe) [V.ref a] H Q (WE F.W σ)) I ?_) fun us s1 ⟨vs, H1, I1, r, e1, e2, q⟩ => ⟨I1.kIn, ?_⟩) he hpl
  · obtain ⟨H0, G0, G, os, γ, st, p⟩ := h
    obtain ⟨v1, e1, e2, r1⟩ := @Var.fz _ _ _ _ _ i Exc (repEx a d) _ v _ _ st.r
    subst e2
    refine ⟨_, e1, rfl, rfl, d, hz, hf, rfl, G, (v.get γ, ()), st.f.gh, st.f.tb st.t, ⟨_, _, rfl, rfl, ⟨rfl, r1⟩, rfl⟩, ?_⟩
    have p : Post F.W kr σ H G Q (m (v.get γ, ())) := p
    cases em : m (v.get γ, ()) with
    | no => rw [em] at p; exact p
    | ex z => rw [em] at p; exact p
    | ok z => rw [em] at p; exact p
  · subst e1; subst e2
    obtain ⟨p, hot1, hp⟩ := hot
    have P1 := I1.pin p (List.mem_append_left _ hp)
    have P2 := I1.pin (a, oe) (List.mem_append_left _ List.mem_cons_self)
    have ep : p.1 = a := by
      have z1 := hot1.1
      have z2 : some (Value.ref a) = some (Value.ref p.1) := z1
      injection z2 with z3
      injection z3 with z4
      exact z4.symm
    have eo : p = (a, oe) := by
      have g1 := P1.1
      rw [ep] at g1
      have g2 : s1.heap.get? a = some oe := P2.1
      rw [g2] at g1
      obtain ⟨pa, po⟩ := p
      have e3 : pa = a := ep
      have e4 : oe = po := Option.some.inj g1
      rw [e3, e4]
    subst eo
    have hpin : L2H.PinOk X.stack H1 s1 (a, oe) := ⟨P1.1, P1.2.1, fun hm => (List.mem_cons.mp (I1.stkSub a hm)).elim P1.2.2.1 P1.2.2.2.1, P1.2.2.2.2⟩
    have hl : us.length = [y].length := by rw [← r.length]; rfl
    have b := hb s1 us I1.kIn (by rw [List.append_nil]; exact hl)
    rw [List.append_nil] at b
    refine wpAny_call (codeAny_mono (Fn.run _ X.stack s1 H1 ⟨us, []⟩ us [V.ref a] Q (WE F.W σ) (a, oe) hr hot1 hpin I1.env0 b r q) fun r s' hq => ?_)
    cases r with
    | error e => exact L2N.passAt tk σ pins H1 s1 e s' I1 hq
    | ok fl =>
      cases fl with
      | ret u => exact I1.after hq
      | next => exact False.elim hq
      | brk => exact False.elim hq
      | cont => exact False.elim hq
end
section
variable {X : Cx} {F : Fx} {c : Ctx} {x y : Str} {C : Addr} {pp : Addr × Obj} {d : Option Addr} {i : Nat} {p p2 p3 pos : Pos}
omit [TabT] in
theorem call_isP (T : CatC X.K C) (hmem : pp ∈ X.pn) (hz : Zc (.ref C) d pp.2) (hf : ∃ vs, pp.2.data = .fields vs) : CallR X (.builtin "isinstance") (rIsX X.K C pp.1 d) := by
  intro pins s σ H xs us Q I r h
  obtain ⟨c, cv, b, rfl, hcv, hd, e, q⟩ := h
  obtain ⟨u1, u2, rfl, r1, r2⟩ := vals2 r
  obtain rfl : u1 = Value.ref pp.1 := r1
  have ec := hcv _ r2
  subst ec
  obtain ⟨hget, _⟩ := I.pin pp (List.mem_append_left _ hmem)
  obtain ⟨od, J⟩ := inst_of I.hok hget hz hf hd
  obtain ⟨cd, hcd, _⟩ := PySem.W.any_some T.xf.hdC
  exact PySem.W.kia_one (PySem.W.kitx_exc (by rw [hcd]; rfl) T.xf.ga T.xf.gg T.xf.exC T.ha T.hn T.ht T.hm) I.kIn J e (fun z => nomatch z) fun tk => ⟨.bl b, H, I.kept (t' := tk) fun _ _ z => z, rfl, q⟩
/-- isinstance of the exception that the def was handed -/
theorem e_isP {b : Bool} {cv : V} {u : Value} (T : CatC X.K C) (hmem : pp ∈ X.pn) (hz : L2N.Zn (.ref C) d pp.2) (hf : ∃ vs, pp.2.data = .fields vs) (v : Var c (@Ent.fz i Exc (repEx pp.1 d))) (hN : X.N[i]? = some x) (hc : PE X (.Name y p2) (tC cv)) (hcv : ∀ u', RelV cv u' → u' = u) (hk : PySem.W.kitOne X.K (.ref C) u = some b) (hm : X.mg "isinstance" = none)
    (hv : Vis X.env.scope x := by first | exact Or.inl rfl | exact Or.inr (Or.inl rfl) | exact Or.inr (Or.inr rfl)) (hd : (x == ("__debug__" : Str)) = false := by decide) (hcd : (x == ("__classdict__" : Str)) = false := by decide) (hg : Gl X "isinstance" := by rfl)
    (he : starEach (.Name x p3 :: .Name y p2 :: []) X.env = (false, eval (.Name x p3) X.env) :: starEach (.Name y p2 :: []) X.env := by rfl) (he2 : starEach (.Name y p2 :: []) X.env = (false, eval (.Name y p2) X.env) :: starEach [] X.env := by rfl) (hpl : (backTo pos (starEach (.Name y p2 :: []) X.env)).any (·.1) = false := by rfl) :
    PE X (.Call (.Name "isinstance" p) [.Name x p3, .Name y p2] [] pos) (tX F kF c fun γ => Rs.ok b) :=
  pe_mono (pe_callB (call_isP T hmem hz.zc hf) hg hm (by decide +kernel) (pa_cons (pe_var hN hv hd hcd) (pa_cons hc pa_nil he2) he) (by decide) (by decide) he hpl) fun σ H Q ⟨H0, G0, G, os, γ, st, p⟩ => by
    obtain ⟨v1, e1, e2, r1⟩ := @Var.fz _ _ _ _ _ i Exc (repEx pp.1 d) _ v _ _ st.r
    subst e2
    refine ⟨_, e1, cv, u, b, rfl, hcv, ?_, hk, p H G (.bl b) (Fr.refl st.f.gh) rfl⟩
    unfold RepX at r1
    split at r1
    · exact .inl r1
    · obtain ⟨dd, fs, g1, g2, _⟩ := r1
      exact .inr ⟨dd, fs, g1, st.f.gh.v g2⟩
end
/-! ### lists of fixed length, of any kinds (never changed) -/
omit [TabT] in
structure Lt (α : Type) where
  v : α
omit [TabT] in
instance {α : Type} [NtR α] : Own (Lt α) where
  own := fun wd G o x => ∃ vs, o = .lst vs ∧ vs.length ≤ sizeLine ∧ NtR.reps wd G vs x.v
  pl := fun ⟨_, e, _⟩ => by subst e; exact Pl.lst
  mono := fun s ⟨vs, e, l, h⟩ => ⟨vs, e, l, NtR.mono s h⟩
omit [TabT] in
instance {α : Type} [NtR α] : LkO (Lt α) := ⟨fun ⟨_, e, _⟩ z => by rw [e] at z; cases z⟩
section
variable {X : Cx} {F : Fx} {c : Ctx} {α β : Type} {es : List Expr}
end
/-! ### {k: v} -/
section
variable {X : Cx} {F : Fx} {c : Ctx} {κ α : Type} {k v : Expr} {pos : Pos}
theorem e_disp1 [Rep κ] [KeyT κ] [Rep α] {mk : Ctx.T c → Rs κ} {mv : Ctx.T c → Rs α} (hk : PE X k (tX F kF c mk)) (hv : PE X v (tX F kF c mv)) :
    PE X (.Dict [some k] [v] pos) (tX F kO c fun γ => (mk γ).bind fun x => (mv γ).bind fun y => .ok (⟨[(x, y)]⟩ : Dct κ α)) :=
  pe_mono (pe_disp (pps_cons hk hv pps_nil) rfl rfl (List.cons_ne_nil _ _) (by show 1 ≤ 15; decide)) fun σ H Q ⟨H0, G0, G, os, γ, st, p⟩ => fun d nd => by
    have f0 : Fr H G (upd H d (.dK [])) G := Fr.alloc st.f.gh nd
    have pl : Pl (.dK []) := ⟨(fun _ z => nomatch z), (fun _ z => nomatch z)⟩
    have p : Post F.W kO σ H G Q ((mk γ).bind fun x => (mv γ).bind fun y => .ok (⟨[(x, y)]⟩ : Dct κ α)) := p
    refine ⟨H0, G0, G, os, γ, st.ext f0, ?_⟩
    cases ek : mk γ with
    | no => rw [ek] at p; exact p.elim
    | ex z => rw [ek] at p; exact fun d' H' G' f r => p d' H' G' (f0.trans f) r
    | ok x =>
      rw [ek] at p
      have p : Post F.W kO σ H G Q ((mv γ).bind fun y => .ok (⟨[(x, y)]⟩ : Dct κ α)) := p
      intro H1 G1 u f1 r1
      refine ⟨H0, G0, G1, os, γ, (st.ext f0).ext f1, ?_⟩
      cases ev : mv γ with
      | no => rw [ev] at p; exact p.elim
      | ex z => rw [ev] at p; exact fun d' H' G' f r => p d' H' G' ((f0.trans f1).trans f) r
      | ok y =>
        rw [ev] at p
        have p : Post F.W kO σ H G Q (.ok (⟨[(x, y)]⟩ : Dct κ α)) := p
        intro H2 G2 w f2 r2
        have f02 := (f0.trans f1).trans f2
        have hd : H2 d = some (.dK []) := f2.h.get (f1.h.get upd_same pl) pl
        have gd : G2 d = none := f2.out (f1.h.get upd_same pl) (f1.out upd_same (st.f.gh.free nd))
        have r1' : rep F.wd G2 u x := Rep.mono f2.g r1
        refine ⟨hd, [(KeyT.key x, w)], by rw [KeyT.to r1']; rfl, by show 1 ≤ 15; decide, ?_⟩
        refine p _ G2 _ ⟨fun b ob hb => ?_, f02.g, fun b ob hb => ?_, fun b ob e => f02.new b ob e, fun t => tabs_upd (f02.tb t) hd pl⟩ ⟨d, _, rfl, nd, gd, upd_same, _, rfl, by show 1 ≤ sizeLine; rw [sizeLine_eq]; decide, ?_⟩
        · rw [upd_ne (ne_of_none hb nd)]; exact f02.h b ob hb
        · rw [upd_ne (ne_of_none hb gd)]; exact f02.gh b ob hb
        · exact ⟨⟨rfl, by rw [← KeyT.to r1']; exact r1', r2⟩, trivial⟩
end
end Wm
set_option Elab.async false
set_option linter.all false
set_option maxRecDepth 100000
set_option maxHeartbeats 4000000
/-! list(d.values()) -/
namespace Wm
open PySem PySem.Spec PyProof.Rows L2
open Rep (rep)
open Own (own)
variable [TabT]
omit [TabT] in
/-- at p the values of the dict at d -/
def VwO (p d : Addr) : HO := .ext fun h => h.IsValuesView p d
omit [TabT] in
def tVals (te : TE) : TE := fun σ H Q => te σ H fun x H1 => ∃ d kvs, x = .ref d ∧ Rd H1 d (.dK kvs) ∧ ∀ p, H1 p = none → Q (.ref p) (upd H1 p (VwO p d))
section
variable {X : Cx} {e : Expr} {te : TE} {apos cpos : Pos}
omit [TabT] in
def rListV : List V → Hp → VK → Prop := fun xs H Q => ∃ (v d : Addr) (kvs : List (Key × V)), xs = [.ref v] ∧ H v = some (VwO v d) ∧ Rd H d (.dK kvs) ∧ ∀ p, H p = none → Q (.ref p) (upd H p (.lst (kvs.map (·.2))))
end
/-- the values of a dict -/
def kW {wd : Wd} {κ α : Type} [Rep κ] [KeyT κ] [Rep α] : Kd wd (DV κ α) :=
  ⟨fun _ H G v a => ∃ p q o, v = .ref p ∧ H p = some (VwO p q) ∧ H q = some o ∧ own wd G o a,
   fun ⟨p, q, o, e, h, h2, w⟩ f => ⟨p, q, o, e, f.h.nt h (fun _ z => nomatch z), f.h.get h2 (Own.pl w), Own.mono f.g w⟩, fun _ h => h⟩
section
variable {X : Cx} {F : Fx} {c : Ctx} {κ α : Type} {e : Expr} {apos cpos : Pos}
end
/-! ### xs.count(k) -/
section
variable {X : Cx} {F : Fx} {c : Ctx} {o e : Expr} {apos cpos : Pos}
end
end Wm
set_option Elab.async false
set_option linter.all false
set_option maxRecDepth 100000
set_option maxHeartbeats 4000000
/-! an own exception whose one field is a tuple of ints and texts (a reason): its message, its making, raise -/
namespace Wm
open PySem PySem.Spec PyProof.Rows L2
open Rep (rep)
open Own (own)
variable [TabT]
omit [TabT] in
def vI (x : Int ⊕ Str) : V := match x with | .inl i => .int i | .inr s => .str s
omit [TabT] in
def txI (x : Int ⊕ Str) : Str := match x with | .inl i => Str.ofString (toString i) | .inr s => reprText s
omit [TabT] in
def fitI (x : Int ⊕ Str) : Bool := match x with | .inl i => decide (i.natAbs < 1000000000000) | .inr s => decide (s.length ≤ 90)
omit [TabT] in
def sgI (x : Int ⊕ Str) : Prop := match x with | .inl _ => True | .inr s => ∀ c ∈ s.cps.toList, c < 16 ^ 8
omit [TabT] in
/-- the message is made of such a tuple -/
def MsgT (K : PySem.W.Frag) (H : Hp) (y : V) : Prop := ∃ (a : Addr) (l : List (Int ⊕ Str)), y = .ref a ∧ SqT K H a (l.map vI) ∧ l.length ≤ 8 ∧ ∀ x ∈ l, fitI x = true ∧ sgI x
section
variable {X : Cx}
omit [TabT] in
def tFmtM (K : PySem.W.Frag) (te : TE) : TE := fun σ H Q => te σ H fun x H1 => MsgT K H1 x ∧ ∀ m : Str, m.length ≤ 9000 → Q (.str m) H1
end
omit [TabT] in
def spET (K : PySem.W.Frag) (C : Addr) (f : Str) : Sp := fun vs H Q _ => ∃ (a : Addr) (y : V), vs = [.ref a, y] ∧ H a = some (exo a C none) ∧ MsgT K H y ∧ ∀ dx, H dx = none → dx ≠ a → Q .non (upd (upd H dx (exd dx [(f, y)])) a (exo a C (some dx)))
omit [TabT] in
def tMkET (K : PySem.W.Frag) (C : Addr) (f : Str) (te : TE) : L2.St → Hp → XK → Prop := fun σ H Q => te σ H fun y H1 => MsgT K H1 y ∧ ∀ d, H1 d = none → Q (.ref C) (some d) (upd H1 d (.xd [(f, y)]))
/-! ### raise C(reason) -/
omit [TabT] in
def pdI (x : Int ⊕ Str) : PD := match x with | .inl i => .int i | .inr s => .str s
omit [TabT] in
def fitT (a : Tup (Int ⊕ Str)) : Bool := decide (a.items.length ≤ 8) && a.items.all fitI
omit [TabT] in
def Rs.raiT {β : Type} (n : String) (f : Str) (r : Rs (Tup (Int ⊕ Str))) : Rs β := r.bind fun a => if fitT a = true then .ex ⟨n, [(f, .tup (a.items.map pdI))]⟩ else .no
section
variable {X : Cx} {F : Fx} {c c' : Ctx} {ρ : Type} {kr : Kd F.wd ρ} {e : Expr} {x f : Str} {p pos pos' : Pos} {fd : FuncData} {fI : Addr} {n : String} {k : Nat}
end
/-! ### e.reason -/
omit [TabT] in
def unI (x : PD) : Option (Int ⊕ Str) := match x with | .int i => some (.inl i) | .str s => if SOk s then some (.inr s) else none | _ => none
omit [TabT] in
def unT (x : PD) : Rs (Tup (Int ⊕ Str)) := match x with
  | .tup xs => if xs.length ≤ 1000 then (match xs.mapM unI with | some l => .ok ⟨l⟩ | none => .no) else .no
  | _ => .no
omit [TabT] in
theorem un_rep {wd : Wd} {G : Hp} : ∀ {vs : List V} {xs : List PD} {l : List (Int ⊕ Str)}, xs.mapM unI = some l → RepPD.go G vs xs → reps wd G vs l
  | [], [], l, h, _ => by
    have e : l = [] := by simpa using h.symm
    rw [e]; trivial
  | v :: vs, x :: xs, l, h, g => by
    obtain ⟨g1, g2⟩ := g
    rw [List.mapM_cons] at h
    cases ex : unI x with
    | none => rw [ex] at h; cases h
    | some y =>
      cases el : xs.mapM unI with
      | none => rw [ex, el] at h; cases h
      | some l' =>
        rw [ex, el] at h
        have e : l = y :: l' := (Option.some.inj h).symm
        rw [e]
        refine ⟨?_, un_rep el g2⟩
        cases x with
        | int i => cases ex; exact g1
        | str s =>
          unfold unI at ex
          dsimp only at ex
          split at ex
          · rename_i hs
            cases ex
            exact ⟨g1, hs⟩
          · cases ex
        | non => cases ex
        | bl b => cases ex
        | tup z => cases ex
  | [], _ :: _, _, _, g => g.elim
  | _ :: _, [], _, _, g => g.elim
omit [TabT] in
theorem go_len {G : Hp} : ∀ {vs : List V} {xs : List PD}, RepPD.go G vs xs → vs.length = xs.length
  | [], [], _ => rfl
  | _ :: _, _ :: _, h => congrArg (· + 1) (go_len h.2)
  | [], _ :: _, g => g.elim
  | _ :: _, [], g => g.elim
omit [TabT] in
theorem unT_rep {wd : Wd} {G : Hp} {v : V} {x : PD} {y : Tup (Int ⊕ Str)} (h : unT x = .ok y) (r : RepPD G v x) : rep wd G v y := by
  cases x with
  | tup xs =>
    unfold unT at h
    dsimp only at h
    split at h
    · rename_i hl
      cases em : xs.mapM unI with
      | none => rw [em] at h; cases h
      | some l =>
        rw [em] at h
        cases h
        obtain ⟨p, vs, e, h1, g⟩ := r
        exact ⟨p, _, e, h1, vs, rfl, by rw [go_len g]; exact Nat.le_trans hl (by decide), un_rep em g⟩
    · cases h
  | non => cases h
  | bl b => cases h
  | int i => cases h
  | str s => cases h
omit [TabT] in
theorem unT_ex {x : PD} {e : Exc} : unT x ≠ .ex e := fun h => by
  cases x with
  | tup xs =>
    unfold unT at h
    dsimp only at h
    split at h
    · cases em : xs.mapM unI with
      | none => rw [em] at h; cases h
      | some l => rw [em] at h; cases h
    · cases h
  | non => cases h
  | bl b => cases h
  | int i => cases h
  | str s => cases h
omit [TabT] in
instance : FV (Tup (Int ⊕ Str)) := ⟨unT, unT_rep, unT_ex⟩
end Wm
set_option Elab.async false
set_option linter.all false
set_option maxRecDepth 100000
set_option maxHeartbeats 4000000
/-! trees of owned objects: a name may hold a tuple or a list whose items are owned, too; parts are looked at, taken out, changed in place -/
namespace Wm
open PySem PySem.Spec PyProof.Rows L2
open Rep (rep)
open Own (own)
variable [TabT]
/-! ### shapes -/
omit [TabT] in
/-- a part that is frozen -/
def oF {α : Type} [Rep α] : OT α := ⟨fun wd G _ v a as => as = [] ∧ rep wd G v a, fun ⟨e, _⟩ q hq => by (subst e; cases hq), fun s _ ⟨e, r⟩ => ⟨e, Rep.mono s r⟩⟩
omit [TabT] in
/-- an owned object -/
def oO {β : Type} [Own β] : OT β := ⟨fun wd G H v b as => ∃ p o, v = .ref p ∧ as = [p] ∧ H p = some o ∧ own wd G o b,
  fun ⟨p, o, _, e, h, w⟩ q hq => by (subst e; rw [List.mem_singleton.mp hq]; exact ⟨o, h, Own.pl w⟩), fun s k ⟨p, o, e, e2, h, w⟩ => ⟨p, o, e, e2, by rw [k p (by rw [e2]; exact List.mem_singleton.mpr rfl)]; exact h, Own.mono s w⟩⟩
omit [TabT] in
def oP {α β : Type} (s : OT α) (t : OT β) : OT (α × β) := ⟨fun wd G H x b as => ∃ p v w a1 a2, x = .ref p ∧ as = p :: (a1 ++ a2) ∧ H p = some (.tup [v, w]) ∧ s.rel wd G H v b.1 a1 ∧ t.rel wd G H w b.2 a2,
  fun ⟨p, v, w, a1, a2, _, e, h, r1, r2⟩ q hq => by
    subst e
    rcases List.mem_cons.mp hq with e | e
    · rw [e]; exact ⟨_, h, Pl.tup⟩
    · rcases List.mem_append.mp e with e | e
      · exact s.there r1 q e
      · exact t.there r2 q e,
  fun g k ⟨p, v, w, a1, a2, e1, e, h, r1, r2⟩ => by
    subst e
    exact ⟨p, v, w, a1, a2, e1, rfl, by rw [k p List.mem_cons_self]; exact h, s.mono g (fun q hq => k q (List.mem_cons_of_mem _ (List.mem_append_left _ hq))) r1, t.mono g (fun q hq => k q (List.mem_cons_of_mem _ (List.mem_append_right _ hq))) r2⟩⟩
omit [TabT] in
def oS {α β : Type} (s : OT α) (t : OT β) : OT (α ⊕ β) := ⟨fun wd G H v b as => match b with | .inl a => s.rel wd G H v a as | .inr a => t.rel wd G H v a as,
  fun {wd G H v b as} r q hq => by
    cases b with
    | inl a => exact s.there r q hq
    | inr a => exact t.there r q hq,
  fun {wd G G' H H' v b as} g k r => by
    cases b with
    | inl a => exact s.mono g k r
    | inr a => exact t.mono g k r⟩
/-! ### kinds: a fresh tree, a tree that is looked at -/
theorem OT.same {β : Type} (t : OT β) {wd : Wd} {H G H' G' : Hp} {v : V} {b : β} {as : List Addr} (r : t.rel wd G H v b as) (f : Fr H G H' G') : (∀ q ∈ as, H' q = H q) ∧ t.rel wd G' H' v b as := by
  have k : ∀ q ∈ as, H' q = H q := fun q hq => by
    obtain ⟨o, ho, pl⟩ := t.there r q hq
    rw [ho]
    exact f.h.get ho pl
  exact ⟨k, t.mono f.g k r⟩
def kT {wd : Wd} {β : Type} (t : OT β) : Kd wd β :=
  ⟨fun B H G v b => ∃ as, as.Nodup ∧ (∀ q ∈ as, B q = none ∧ G q = none) ∧ t.rel wd G H v b as,
   fun ⟨as, n, fr, r⟩ f => ⟨as, n, fun q hq => by
     obtain ⟨o, ho, _⟩ := t.there r q hq
     exact ⟨(fr q hq).1, f.out ho (fr q hq).2⟩, (t.same r f).2⟩,
   fun s ⟨as, n, fr, r⟩ => ⟨as, n, fun q hq => ⟨s.free (fr q hq).1, (fr q hq).2⟩, r⟩⟩
def kVw {wd : Wd} {β : Type} (t : OT β) : Kd wd β :=
  ⟨fun _ H G v b => ∃ as, t.rel wd G H v b as, fun ⟨as, r⟩ f => ⟨as, (t.same r f).2⟩, fun _ h => h⟩
section
variable {X : Cx} {F : Fx} {c c' : Ctx} {α β δ : Type} {e : Expr} {pos : Pos}
/-! ### a name that holds a tree: stored, looked at, returned -/
/-! ### parts that are looked at -/
end
/-! ### a part is taken out; the rest is dropped -/
omit [TabT] in
@[reducible] def Var.rem : {c : Ctx} → {e : Ent} → Var c e → Ctx
  | _ :: c, _, .z => c
  | e' :: _, _, .s v => e' :: v.rem
omit [TabT] in
@[reducible] def Var.remT : {c : Ctx} → {e : Ent} → (v : Var c e) → Ctx.T c → Ctx.T v.rem
  | _ :: _, _, .z, γ => γ.2
  | _ :: _, _, .s v, γ => (γ.1, v.remT γ.2)
section
variable {X : Cx} {F : Fx} {c c' : Ctx} {α β δ ε : Type} {e : Expr} {pos : Pos}
/-- e tells a part of what the name v holds, with its owned objects -/
def tK (F : Fx) {i : Nat} {s : OT β} (t : OT δ) (c : Ctx) (v : Var c (.ot i β s)) (f : β → Rs δ) : TE := fun σ H Q => ∃ H0 G0 G os γ, Stt F.wd F.n H0 G0 σ H G os c γ ∧ ∃ w0 as os', σ[i]? = some (some w0) ∧ s.rel F.wd G H w0 (v.get γ) as ∧ R F.wd H0 σ H G v.rem (v.remT γ) os' ∧ (as ++ os').Perm os ∧
  match f (v.get γ) with
  | .ok d => ∀ w as', as'.Sublist as → t.rel F.wd G H w d as' → Q w H
  | _ => False
variable {i : Nat} {s : OT β} {v : Var c (.ot i β s)}
variable {x : Str} {pos' : Pos} {j : Nat}
end
/-! ### trees that may be frozen -/
omit [TabT] in
theorem addAll_sub {G H : Hp} {as bs : List Addr} (s : ∀ q ∈ as, q ∈ bs) (n : ∀ q ∈ bs, G q = none) : Same (addAll G H as) (addAll G H bs) := fun a o h => .inl (by
  unfold addAll at h ⊢
  by_cases c : a ∈ as
  · rw [if_pos c] at h
    rw [if_pos (s a c)]
    exact h
  · rw [if_neg c] at h
    rw [if_neg fun z => by rw [n a z] at h; cases h]
    exact h)
omit [TabT] in
theorem addAll_nil (G H : Hp) : addAll G H [] = G := by
  funext a
  unfold addAll
  rw [if_neg (by simp)]
omit [TabT] in
instance {α : Type} [Rep α] : FzT (oF (α := α)) := ⟨fun _ _ ⟨e, r⟩ => by rw [e, addAll_nil]; exact r⟩
omit [TabT] in
instance {β : Type} [Own β] : FzT (oO (β := β)) := ⟨fun {wd G H v b as} _ n ⟨p, o, e1, e2, h, w⟩ => by
  subst e2
  refine ⟨p, o, e1, by unfold addAll; rw [if_pos (List.mem_singleton.mpr rfl)]; exact h, Own.mono (addAll_nil G H ▸ addAll_sub (as := []) (fun _ z => by cases z) n) w⟩⟩
omit [TabT] in
instance {α β : Type} [Rep α] [Rep β] (s : OT α) (t : OT β) [FzT s] [FzT t] : FzT (oP s t) := ⟨fun {wd G H x b as} nd n ⟨p, v, w, a1, a2, e1, e2, h, r1, r2⟩ => by
  subst e2
  obtain ⟨-, nd2⟩ := List.nodup_cons.mp nd
  obtain ⟨n1, n2, -⟩ := List.nodup_append.mp nd2
  have s1 : ∀ q ∈ a1, q ∈ p :: (a1 ++ a2) := fun q hq => List.mem_cons_of_mem _ (List.mem_append_left _ hq)
  have s2 : ∀ q ∈ a2, q ∈ p :: (a1 ++ a2) := fun q hq => List.mem_cons_of_mem _ (List.mem_append_right _ hq)
  exact ⟨p, _, e1, by unfold addAll; rw [if_pos List.mem_cons_self]; exact h, v, w, rfl, Rep.mono (addAll_sub s1 n) (FzT.fz n1 (fun q hq => n q (s1 q hq)) r1), Rep.mono (addAll_sub s2 n) (FzT.fz n2 (fun q hq => n q (s2 q hq)) r2)⟩⟩
omit [TabT] in
instance {α β : Type} [Rep α] [Rep β] (s : OT α) (t : OT β) [FzT s] [FzT t] : FzT (oS s t) := ⟨fun {wd G H x b as} nd n r => by
  cases b with
  | inl a => exact FzT.fz (t := s) nd n r
  | inr a => exact FzT.fz (t := t) nd n r⟩
/-! ### == of data of one kind or another -/
class PyD (α : Type) [Rep α] where
  d : α → PyData
  dep : Nat
  dp : ∀ {wd : Wd} {K : PySem.W.Frag} {H G : Hp} {v : V} {a : α}, SameL G H → rep wd G v a → Dp K H v (d a)
  lay : ∀ {wd : Wd} {G : Hp} {v : V} {a : α}, rep wd G v a → (d a).canLay0 = true
  depth : ∀ a, (d a).depth ≤ dep
omit [TabT] in
instance (priority := 50) {α : Type} [Rep α] [DecidableEq α] [PyEq α] : PyD α := ⟨PyEq.d, PyEq.dep α, PyEq.dp, PyEq.lay, PyEq.depth⟩
omit [TabT] in
instance : PyD Unit := ⟨fun _ => .none, 0, fun _ h => by (rw [show _ = V.non from h]; exact .non), fun _ => by (unfold PyData.canLay0; rfl), fun _ => by (unfold PyData.depth; exact Nat.le_refl _)⟩
section
variable {α β : Type} [Rep α] [PyD α] [Rep β] [PyD β]
omit [TabT] in
instance : PyD (α ⊕ β) where
  d := fun x => match x with | .inl a => PyD.d a | .inr b => PyD.d b
  dep := max (PyD.dep α) (PyD.dep β)
  dp := fun {_ _ _ _ _ a} s h => by
    cases a with
    | inl a => exact PyD.dp (α := α) s h
    | inr b => exact PyD.dp (α := β) s h
  lay := fun {_ _ _ a} h => by
    cases a with
    | inl a => exact PyD.lay (α := α) h
    | inr b => exact PyD.lay (α := β) h
  depth := fun a => by
    cases a with
    | inl a => exact Nat.le_trans (PyD.depth a) (Nat.le_max_left _ _)
    | inr b => exact Nat.le_trans (PyD.depth b) (Nat.le_max_right _ _)
omit [TabT] in
instance : PyD (α × β) where
  d := fun x => .tuple [PyD.d x.1, PyD.d x.2]
  dep := max (PyD.dep α) (PyD.dep β) + 1
  dp := fun s ⟨p, o, e1, e2, v, w, e3, r1, r2⟩ => by
    subst e1; subst e3
    exact .tup (.of (s.v e2)) (.cons (PyD.dp s r1) (.cons (PyD.dp s r2) .nil))
  lay := fun ⟨p, o, e1, e2, v, w, e3, r1, r2⟩ => by
    unfold PyData.canLay0 PyData.canLayAll0 PyData.canLayAll0 PyData.canLayAll0
    rw [PyD.lay r1, PyD.lay r2]; rfl
  depth := fun x => by
    unfold PyData.depth PyData.depthAll PyData.depthAll PyData.depthAll
    have h1 := PyD.depth x.1
    have h2 := PyD.depth x.2
    omega
theorem m_eqP {wd : Wd} {K : PySem.W.Frag} (h1 : PyD.dep α ≤ 64 := by decide) (h2 : PyD.dep β ≤ 64 := by decide) : Sem2 (wd := wd) (α := α) (β := β) kF kF kF (rEqD K) (fun a b => .ok (PyData.eqv (PyD.d a) (PyD.d b))) := by
  intro W σ B1 B2 H G x y a b Q gh hx hy p
  refine ⟨_, _, PyD.dp gh hx, PyD.dp gh hy, ?_, ?_, p H G _ (Fr.refl gh) rfl⟩
  · unfold SeqAt.shaped
    rw [PyD.lay hx, decide_eq_true (Nat.le_trans (PyD.depth a) h1)]
    rfl
  · unfold SeqAt.shaped
    rw [PyD.lay hy, decide_eq_true (Nat.le_trans (PyD.depth b) h2)]
    rfl
end
/-! ### kinds and lengths of parts that are looked at -/
end Wm
set_option Elab.async false
set_option linter.all false
set_option maxRecDepth 100000
set_option maxHeartbeats 4000000
/-! comprehensions of dicts -/
namespace Wm
open PySem PySem.Spec PyProof.Rows L2
open Rep (rep)
open Own (own)
variable [TabT]
omit [TabT] in
/-- {k: a for x in ..} -/
def Rs.dcomp {α κ β : Type} [DecidableEq κ] (t : α → Rs Bool) (k : α → Rs κ) (f : α → Rs β) : Dct κ β → List α → Rs (Dct κ β)
  | d, [] => .ok d
  | d, x :: xs => (t x).nox.bind fun b => if b = true then (k x).nox.bind fun y => (f x).nox.bind fun z => Rs.dcomp t k f (d.put y z) xs else Rs.dcomp t k f d xs
section
variable {X : Cx} {F : Fx} {c c1 : Ctx} {α κ β : Type} [Rep α] [DecidableEq κ] [Rep κ] [KeyT κ] [Rep β]
end
end Wm
set_option Elab.async false
set_option linter.all false
set_option maxRecDepth 100000
set_option maxHeartbeats 4000000
/-! try with more than one except, each with a name or without -/
namespace Wm
open PySem PySem.Spec PyProof.Rows L2 L2N
/-- the name i is gone behind the suite -/
def goneD (i : Nat) (D : Ends) : Ends where
  nx := fun z K => D.nx (z.set i none) K
  rt := D.rt
  bk := fun z K => D.bk (z.set i none) K
  ct := fun z K => D.ct (z.set i none) K
abbrev HTS := Addr → Value → Option Addr → TS
/-- handlers that are read -/
inductive HdM (X : Cx) : List ExceptHandler → List (Value × HTS) → Prop
  | nil : HdM X [] []
  | bare {x : Str} {c : Value} {tu : HTS} {b₀ : Stmt} {su : List Stmt} {np hp : Pos} {hs : List ExceptHandler} {l : List (Value × HTS)} (hc : Names X x c)
      (hu : ∀ (a : Addr) (oe : Obj) (cl : Value) (d : Option Addr) (pn : List (Addr × Obj)), Zn cl d oe → (∃ vs, oe.data = .fields vs) → PSs (X.suite a ((a, oe) :: pn)) (b₀ :: su) (tu a cl d)) (r : HdM X hs l) :
      HdM X (.ExceptHandler (some (.Name x np)) none (b₀ :: su) hp :: hs) ((c, tu) :: l)
  | named {x n : Str} {i : Nat} {c : Value} {tu : HTS} {b₀ : Stmt} {su : List Stmt} {np hp : Pos} {hs : List ExceptHandler} {l : List (Value × HTS)} (hN : X.N.Nodup) (hi : X.N[i]? = some n) (hn : X.env.kindOf n = some .local) (hc : Names X x c)
      (hu : ∀ (a : Addr) (oe : Obj) (cl : Value) (d : Option Addr) (pn : List (Addr × Obj)), Zn cl d oe → (∃ vs, oe.data = .fields vs) → PSs (X.suite a ((a, oe) :: pn)) (b₀ :: su) (tu a cl d)) (r : HdM X hs l) :
      HdM X (.ExceptHandler (some (.Name x np)) (some n) (b₀ :: su) hp :: hs) ((c, fun a cl d D σ H => tu a cl d (goneD i D) (σ.set i (some (.ref a))) H) :: l)
section
variable {X : Cx} {body : List Stmt} {h₀ : ExceptHandler} {hs : List ExceptHandler} {l : List (Value × HTS)} {pos : Pos} {tb : WX → TS} {Wo : WX}
end
open Rep (rep)
open Own (own)
/-! ### the same with mirrors -/
/-- what the handlers do with an error: the first of its class -/
def pickH {α : Type} : List (String × (Exc → Rs α)) → Exc → Rs α
  | [], _ => .no
  | (n, h) :: l, x => if x.cls = n then h x else pickH l x
def Rs.tryM {α : Type} (l : List (String × (Exc → Rs α))) : Rs α → Rs α
  | .ex x => pickH l x
  | .ok a => .ok a
  | .no => .no
/-- no class is told by a handler ahead of its own -/
def XOk (K : PySem.W.Frag) (cm : String → Addr) : List String → Prop
  | [] => True
  | n :: ns => PySem.W.exmOne K (.ref (cm n)) (.ref (cm n)) = some true ∧ (∀ m ∈ ns, PySem.W.exmOne K (.ref (cm m)) (.ref (cm n)) = some false) ∧ XOk K cm ns
section
variable [TabT] {X : Cx} {F : Fx} {ρ : Type} {kr : Kd F.wd ρ} {c c1 : Ctx} {vs : List Nat} {body : List Stmt} {h₀ : ExceptHandler} {hs : List ExceptHandler} {pos : Pos}
inductive HdT (X : Cx) (F : Fx) {ρ : Type} (kr : Kd F.wd ρ) (c c1 : Ctx) (vs : List Nat) : List ExceptHandler → List (String × (Exc → Ctx.T c → Rs (Ctx.T c1 ⊕ ρ))) → List (Value × HTS) → Prop
  | nil : HdT X F kr c c1 vs [] [] []
  | named {x en : Str} {i : Nat} {n : String} {C : Addr} {b₀ : Stmt} {su : List Stmt} {np hp : Pos} {hs : List ExceptHandler} {l : List (String × (Exc → Ctx.T c → Rs (Ctx.T c1 ⊕ ρ)))} {k : List (Value × HTS)} {c2 : Ctx} {mh : Exc × Ctx.T c2 → Rs (Ctx.T c1 ⊕ ρ)} (s : Sub c c2)
      (hcm : F.wd.cm n = C) (hN : X.N.Nodup) (hi : X.N[i]? = some en) (hln : X.env.kindOf en = some .local) (hm : X.mg x = some (.ref C)) (hil : F.n.lt i) (h1 : Ctx.not i c1 = true) (h2 : Ctx.not i c2 = true) (hst : Ctx.still vs c2 = true) (hg : Gl X x) (hdb : (x == ("__debug__" : Str)) = false)
      (hu : ∀ (a : Addr) (oe : Obj) (d : Option Addr) (pn : List (Addr × Obj)), L2N.Zn (.ref C) d oe → (∃ vs, oe.data = .fields vs) → L2H.HotC (X.suite a ((a, oe) :: pn)) → PSs (X.suite a ((a, oe) :: pn)) (b₀ :: su) (tG F.cut kr (@Ent.fz i Exc (repEx a d) :: c2) c1 mh)) (r : HdT X F kr c c1 vs hs l k) :
      HdT X F kr c c1 vs (.ExceptHandler (some (.Name x np)) (some en) (b₀ :: su) hp :: hs) ((n, fun z γ => (mh (z, s.proj γ)).nox) :: l)
        ((.ref C, fun a cl d D σ H => (cl = .ref C ∧ tG F.cut kr (@Ent.fz i Exc (repEx a d) :: c2) c1 mh (goneD i D) (σ.set i (some (.ref a))) H)) :: k)
  | bare {x : Str} {n : String} {C : Addr} {b₀ : Stmt} {su : List Stmt} {np hp : Pos} {hs : List ExceptHandler} {l : List (String × (Exc → Ctx.T c → Rs (Ctx.T c1 ⊕ ρ)))} {k : List (Value × HTS)} {c2 : Ctx} {mh : Ctx.T c2 → Rs (Ctx.T c1 ⊕ ρ)} (s : Sub c c2)
      (hcm : F.wd.cm n = C) (hm : X.mg x = some (.ref C)) (hst : Ctx.still vs c2 = true) (hg : Gl X x) (hdb : (x == ("__debug__" : Str)) = false)
      (hu : ∀ (a : Addr) (oe : Obj) (d : Option Addr) (pn : List (Addr × Obj)), L2N.Zn (.ref C) d oe → (∃ vs, oe.data = .fields vs) → L2H.HotC (X.suite a ((a, oe) :: pn)) → PSs (X.suite a ((a, oe) :: pn)) (b₀ :: su) (tG F.cut kr c2 c1 mh)) (r : HdT X F kr c c1 vs hs l k) :
      HdT X F kr c c1 vs (.ExceptHandler (some (.Name x np)) none (b₀ :: su) hp :: hs) ((n, fun _ γ => (mh (s.proj γ)).nox) :: l)
        ((.ref C, fun _ cl _ D σ H => (cl = .ref C ∧ tG F.cut kr c2 c1 mh D σ H)) :: k)
end
end Wm
set_option Elab.async false
set_option linter.all false
set_option maxRecDepth 100000
set_option maxHeartbeats 4000000
namespace Wk
open PySem PySem.Spec PyProof.Rows L2 Wm
/-! ### the text -/
def topS (i : Nat) : Stmt := PySem.Challenge.pw_wornsheaf_k56_whole_shares_met_again.main.body.getD i (.Pass ⟨0, 0, 0, 0⟩)
abbrev s_law_cell : Stmt := topS 45
theorem sc_law_cell : FnScope ["script", "k"] ["script", "k"] (defScope s_law_cell) := ⟨rfl, rfl, rfl, by decide +kernel, rfl, by decide +kernel, by decide +kernel⟩
abbrev s_law_given : Stmt := topS 47
theorem sc_law_given : FnScope ["script", "k"] ["script", "k"] (defScope s_law_given) := ⟨rfl, rfl, rfl, by decide +kernel, rfl, by decide +kernel, by decide +kernel⟩
abbrev s_law_draws : Stmt := topS 46
theorem sc_law_draws : FnScope ["cell", "sizes", "drawn", "left", "packed", "k", "mixed"] ["cell", "sizes"] (defScope s_law_draws) := ⟨rfl, rfl, rfl, by decide +kernel, rfl, by decide +kernel, by decide +kernel⟩
abbrev s_law_names : Stmt := topS 48
theorem sc_law_names : FnScope ["cell", "count", "letters", "drawn", "names", "k", "code", "place", "own", "front", "telling"] ["cell", "count"] (defScope s_law_names) := ⟨rfl, rfl, rfl, by decide +kernel, rfl, by decide +kernel, by decide +kernel⟩
abbrev s_law_sheets : Stmt := topS 49
theorem sc_law_sheets : FnScope ["script", "small", "wide", "large", "more", "tall", "hand", "kind", "drawn", "count", "spread", "shape", "cells", "levels", "base", "names", "picks", "pool", "k"] ["script", "small", "wide", "large", "more", "tall", "hand", "kind"] (defScope s_law_sheets) := ⟨rfl, rfl, rfl, by decide +kernel, rfl, by decide +kernel, by decide +kernel⟩
abbrev s_law_width : Stmt := topS 50
theorem sc_law_width : FnScope ["drawn"] ["drawn"] (defScope s_law_width) := ⟨rfl, rfl, rfl, by decide +kernel, rfl, by decide +kernel, by decide +kernel⟩
abbrev s_law_moved : Stmt := topS 51
theorem sc_law_moved : FnScope ["rows", "source", "targets", "after", "k"] ["rows", "source", "targets"] (defScope s_law_moved) := ⟨rfl, rfl, rfl, by decide +kernel, rfl, by decide +kernel, by decide +kernel⟩
abbrev s_law_wild_log : Stmt := topS 52
theorem sc_law_wild_log : FnScope ["rows", "cells", "width", "most", "log", "cell", "drawn", "sources", "source", "under", "picked", "k", "row"] ["rows", "cells", "width", "most"] (defScope s_law_wild_log) := ⟨rfl, rfl, rfl, by decide +kernel, rfl, by decide +kernel, by decide +kernel⟩
abbrev s_law_moved_v2 : Stmt := s_law_moved
theorem sc_law_moved_v2 : FnScope ["rows", "source", "targets", "after", "k"] ["rows", "source", "targets"] (defScope s_law_moved_v2) := sc_law_moved
abbrev s_law_walk : Stmt := topS 55
theorem sc_law_walk : FnScope ["rows", "log", "states", "deed"] ["rows", "log"] (defScope s_law_walk) := ⟨rfl, rfl, rfl, by decide +kernel, rfl, by decide +kernel, by decide +kernel⟩
abbrev s_law_finished : Stmt := topS 53
theorem sc_law_finished : FnScope ["rows", "log", "pick", "done", "k", "top", "under", "source", "target", "j", "row"] ["rows", "log", "pick"] (defScope s_law_finished) := ⟨rfl, rfl, rfl, by decide +kernel, rfl, by decide +kernel, by decide +kernel⟩
abbrev s_law_shares : Stmt := topS 56
theorem sc_law_shares : FnScope ["rows", "shares", "row"] ["rows"] (defScope s_law_shares) := ⟨rfl, rfl, rfl, by decide +kernel, rfl, by decide +kernel, by decide +kernel⟩
abbrev s_law_lessened : Stmt := topS 57
theorem sc_law_lessened : FnScope ["shares", "cell", "names", "drawn", "lessened", "k"] ["shares", "cell"] (defScope s_law_lessened) := ⟨rfl, rfl, rfl, by decide +kernel, rfl, by decide +kernel, by decide +kernel⟩
abbrev s_InvalidSheaf_init : Stmt := inClass (topS 11) 0
theorem sc_InvalidSheaf_init : FnScope ["self", "index"] ["self", "index"] (defScope s_InvalidSheaf_init) := ⟨rfl, rfl, rfl, by decide +kernel, rfl, by decide +kernel, by decide +kernel⟩
abbrev s_valid_record : Stmt := topS 42
theorem sc_valid_record : FnScope ["text", "sign"] ["text"] (defScope s_valid_record) := ⟨rfl, rfl, rfl, by decide +kernel, rfl, by decide +kernel, by decide +kernel⟩
abbrev s_Sheaf_init : Stmt := inClass (topS 43) 0
theorem sc_Sheaf_init : FnScope ["self", "rows", "index", "row"] ["self", "rows"] (defScope s_Sheaf_init) := ⟨rfl, rfl, rfl, by decide +kernel, rfl, by decide +kernel, by decide +kernel⟩
abbrev s_law_single : Stmt := topS 54
theorem sc_law_single : FnScope ["error", "kinds", "kind"] ["error"] (defScope s_law_single) := ⟨rfl, rfl, rfl, by decide +kernel, rfl, by decide +kernel, by decide +kernel⟩
abbrev s_InvalidDemands_init : Stmt := inClass (topS 16) 0
theorem sc_InvalidDemands_init : FnScope ["self", "record"] ["self", "record"] (defScope s_InvalidDemands_init) := ⟨rfl, rfl, rfl, by decide +kernel, rfl, by decide +kernel, by decide +kernel⟩
abbrev s_check_demands : Stmt := topS 32
theorem sc_check_demands : FnScope ["demands", "record"] ["demands"] (defScope s_check_demands) := ⟨rfl, rfl, rfl, by decide +kernel, rfl, by decide +kernel, by decide +kernel⟩
abbrev s_Sheaf_len : Stmt := inClass (topS 43) 2
theorem sc_Sheaf_len : FnScope ["self"] ["self"] (defScope s_Sheaf_len) := ⟨rfl, rfl, rfl, by decide +kernel, rfl, by decide +kernel, by decide +kernel⟩
abbrev s_Sheaf_rows : Stmt := inClass (topS 43) 1
theorem sc_Sheaf_rows : FnScope ["self"] ["self"] (defScope s_Sheaf_rows) := ⟨rfl, rfl, rfl, by decide +kernel, rfl, by decide +kernel, by decide +kernel⟩
abbrev s_power : Stmt := topS 2
theorem sc_power : FnScope ["base", "exponent", "result", "factor", "left"] ["base", "exponent"] (defScope s_power) := ⟨rfl, rfl, rfl, by decide +kernel, rfl, by decide +kernel, by decide +kernel⟩
abbrev s_cap : Stmt := topS 6
theorem sc_cap : FnScope ["sharpness", "end", "breadth"] ["sharpness", "end", "breadth"] (defScope s_cap) := ⟨rfl, rfl, rfl, by decide +kernel, rfl, by decide +kernel, by decide +kernel⟩
abbrev s_reach : Stmt := topS 7
theorem sc_reach : FnScope ["sheaf", "end", "breadth", "row"] ["sheaf", "end", "breadth"] (defScope s_reach) := ⟨rfl, rfl, rfl, by decide +kernel, rfl, by decide +kernel, by decide +kernel⟩
abbrev s_record_reach : Stmt := topS 8
theorem sc_record_reach : FnScope ["sheaf", "record", "end", "breadth", "row"] ["sheaf", "record", "end", "breadth"] (defScope s_record_reach) := ⟨rfl, rfl, rfl, by decide +kernel, rfl, by decide +kernel, by decide +kernel⟩
abbrev s_own_order : Stmt := topS 33
theorem sc_own_order : FnScope ["rows", "record", "end", "own", "index"] ["rows", "record", "end"] (defScope s_own_order) := ⟨rfl, rfl, rfl, by decide +kernel, rfl, by decide +kernel, by decide +kernel⟩
abbrev s_capped_power : Stmt := topS 3
theorem sc_capped_power : FnScope ["base", "exponent", "limit", "result", "left"] ["base", "exponent", "limit"] (defScope s_capped_power) := ⟨rfl, rfl, rfl, by decide +kernel, rfl, by decide +kernel, by decide +kernel⟩
abbrev s_set_aside : Stmt := topS 34
theorem sc_set_aside : FnScope ["sheaf", "end", "demands", "breadth", "rows", "aside", "record", "demand", "total", "index"] ["sheaf", "end", "demands", "breadth"] (defScope s_set_aside) := ⟨rfl, rfl, rfl, by decide +kernel, rfl, by decide +kernel, by decide +kernel⟩
abbrev s_spare_values : Stmt := topS 35
theorem sc_spare_values : FnScope ["sheaf", "aside", "rows", "index"] ["sheaf", "aside"] (defScope s_spare_values) := ⟨rfl, rfl, rfl, by decide +kernel, rfl, by decide +kernel, by decide +kernel⟩
abbrev s_count_no_sharper : Stmt := topS 4
theorem sc_count_no_sharper : FnScope ["values", "level", "value"] ["values", "level"] (defScope s_count_no_sharper) := ⟨rfl, rfl, rfl, by decide +kernel, rfl, by decide +kernel, by decide +kernel⟩
abbrev s_first_lack : Stmt := topS 36
theorem sc_first_lack : FnScope ["values", "end", "spare", "height", "number"] ["values", "end", "spare"] (defScope s_first_lack) := ⟨rfl, rfl, rfl, by decide +kernel, rfl, by decide +kernel, by decide +kernel⟩
abbrev s_trouble : Stmt := topS 37
theorem sc_trouble : FnScope ["sheaf", "end", "demands", "breadth", "total", "reached", "record", "spare", "lack", "row"] ["sheaf", "end", "demands", "breadth"] (defScope s_trouble) := ⟨rfl, rfl, rfl, by decide +kernel, rfl, by decide +kernel, by decide +kernel⟩
abbrev s_can_meet : Stmt := topS 38
theorem sc_can_meet : FnScope ["sheaf", "end", "demands", "breadth"] ["sheaf", "end", "demands", "breadth"] (defScope s_can_meet) := ⟨rfl, rfl, rfl, by decide +kernel, rfl, by decide +kernel, by decide +kernel⟩
abbrev s_law_asked : Stmt := topS 58
theorem sc_law_asked : FnScope ["sheaf", "end", "demands", "width", "plain", "e"] ["sheaf", "end", "demands", "width", "plain"] (defScope s_law_asked) := ⟨rfl, rfl, rfl, by decide +kernel, rfl, by decide +kernel, by decide +kernel⟩
abbrev s_Sheaf_eq : Stmt := inClass (topS 43) 4
theorem sc_Sheaf_eq : FnScope ["self", "other"] ["self", "other"] (defScope s_Sheaf_eq) := ⟨rfl, rfl, rfl, by decide +kernel, rfl, by decide +kernel, by decide +kernel⟩
abbrev s_law_met : Stmt := topS 59
theorem sc_law_met : FnScope ["rows", "end", "demands", "width", "plain", "due", "sheaf", "handed", "told"] ["rows", "end", "demands", "width", "plain", "due"] (defScope s_law_met) := ⟨rfl, rfl, rfl, by decide +kernel, rfl, by decide +kernel, by decide +kernel⟩
abbrev s_law_refused : Stmt := topS 60
theorem sc_law_refused : FnScope ["rows", "end", "demands", "name", "strange", "less", "width", "plain", "bad", "least", "handed", "one"] ["rows", "end", "demands", "name", "strange", "less", "width", "plain"] (defScope s_law_refused) := ⟨rfl, rfl, rfl, by decide +kernel, rfl, by decide +kernel, by decide +kernel⟩
abbrev s_law : Stmt := topS 61
theorem sc_law : FnScope ["script", "built", "rows", "count", "strange", "drawn", "plain", "width", "log", "left", "states", "end", "shares", "middle", "state", "more", "name", "above", "k", "lessened", "row"] ["script"] (defScope s_law) := ⟨rfl, rfl, rfl, by decide +kernel, rfl, by decide +kernel, by decide +kernel⟩
set_option genInjectivity false in
set_option genSizeOf false in
/-- what the top has written -/
structure Txt (K : PySem.W.Frag) (mg : Str → Option Value) where
  a_law_cell : Addr
  d_law_cell : FuncData
  F_law_cell : Fun K "_law_cell" "_law_cell" s_law_cell a_law_cell d_law_cell
  b_law_cell : Binds K d_law_cell ["script", "k"] []
  g_law_cell : mg "_law_cell" = some (.ref a_law_cell)
  a_law_given : Addr
  d_law_given : FuncData
  F_law_given : Fun K "_law_given" "_law_given" s_law_given a_law_given d_law_given
  b_law_given : Binds K d_law_given ["script", "k"] []
  g_law_given : mg "_law_given" = some (.ref a_law_given)
  a_law_draws : Addr
  d_law_draws : FuncData
  F_law_draws : Fun K "_law_draws" "_law_draws" s_law_draws a_law_draws d_law_draws
  b_law_draws : Binds K d_law_draws ["cell", "sizes"] []
  g_law_draws : mg "_law_draws" = some (.ref a_law_draws)
  a_law_names : Addr
  d_law_names : FuncData
  F_law_names : Fun K "_law_names" "_law_names" s_law_names a_law_names d_law_names
  b_law_names : Binds K d_law_names ["cell", "count"] []
  g_law_names : mg "_law_names" = some (.ref a_law_names)
  a_law_sheets : Addr
  d_law_sheets : FuncData
  F_law_sheets : Fun K "_law_sheets" "_law_sheets" s_law_sheets a_law_sheets d_law_sheets
  b_law_sheets : Binds K d_law_sheets ["script", "small", "wide", "large", "more", "tall", "hand", "kind"] []
  g_law_sheets : mg "_law_sheets" = some (.ref a_law_sheets)
  a_law_width : Addr
  d_law_width : FuncData
  F_law_width : Fun K "_law_width" "_law_width" s_law_width a_law_width d_law_width
  b_law_width : Binds K d_law_width ["drawn"] []
  g_law_width : mg "_law_width" = some (.ref a_law_width)
  a_law_moved : Addr
  d_law_moved : FuncData
  F_law_moved : Fun K "_law_moved" "_law_moved" s_law_moved a_law_moved d_law_moved
  b_law_moved : Binds K d_law_moved ["rows", "source", "targets"] []
  g_law_moved : mg "_law_moved" = some (.ref a_law_moved)
  a_law_wild_log : Addr
  d_law_wild_log : FuncData
  F_law_wild_log : Fun K "_law_wild_log" "_law_wild_log" s_law_wild_log a_law_wild_log d_law_wild_log
  b_law_wild_log : Binds K d_law_wild_log ["rows", "cells", "width", "most"] []
  g_law_wild_log : mg "_law_wild_log" = some (.ref a_law_wild_log)
  a_law_walk : Addr
  d_law_walk : FuncData
  F_law_walk : Fun K "_law_walk" "_law_walk" s_law_walk a_law_walk d_law_walk
  b_law_walk : Binds K d_law_walk ["rows", "log"] []
  g_law_walk : mg "_law_walk" = some (.ref a_law_walk)
  a_law_finished : Addr
  d_law_finished : FuncData
  F_law_finished : Fun K "_law_finished" "_law_finished" s_law_finished a_law_finished d_law_finished
  b_law_finished : Binds K d_law_finished ["rows", "log", "pick"] []
  g_law_finished : mg "_law_finished" = some (.ref a_law_finished)
  a_law_shares : Addr
  d_law_shares : FuncData
  F_law_shares : Fun K "_law_shares" "_law_shares" s_law_shares a_law_shares d_law_shares
  b_law_shares : Binds K d_law_shares ["rows"] []
  g_law_shares : mg "_law_shares" = some (.ref a_law_shares)
  a_law_lessened : Addr
  d_law_lessened : FuncData
  F_law_lessened : Fun K "_law_lessened" "_law_lessened" s_law_lessened a_law_lessened d_law_lessened
  b_law_lessened : Binds K d_law_lessened ["shares", "cell"] []
  g_law_lessened : mg "_law_lessened" = some (.ref a_law_lessened)
  a_InvalidSheaf_init : Addr
  d_InvalidSheaf_init : FuncData
  F_InvalidSheaf_init : Fun K "__init__" "InvalidSheaf.__init__" s_InvalidSheaf_init a_InvalidSheaf_init d_InvalidSheaf_init
  b_InvalidSheaf_init : Binds K d_InvalidSheaf_init ["self", "index"] []
  a_valid_record : Addr
  d_valid_record : FuncData
  F_valid_record : Fun K "valid_record" "valid_record" s_valid_record a_valid_record d_valid_record
  b_valid_record : Binds K d_valid_record ["text"] []
  g_valid_record : mg "valid_record" = some (.ref a_valid_record)
  a_Sheaf_init : Addr
  d_Sheaf_init : FuncData
  F_Sheaf_init : Fun K "__init__" "Sheaf.__init__" s_Sheaf_init a_Sheaf_init d_Sheaf_init
  b_Sheaf_init : Binds K d_Sheaf_init ["self", "rows"] []
  a_law_single : Addr
  d_law_single : FuncData
  F_law_single : Fun K "_law_single" "_law_single" s_law_single a_law_single d_law_single
  b_law_single : Binds K d_law_single ["error"] []
  g_law_single : mg "_law_single" = some (.ref a_law_single)
  a_InvalidDemands_init : Addr
  d_InvalidDemands_init : FuncData
  F_InvalidDemands_init : Fun K "__init__" "InvalidDemands.__init__" s_InvalidDemands_init a_InvalidDemands_init d_InvalidDemands_init
  b_InvalidDemands_init : Binds K d_InvalidDemands_init ["self", "record"] []
  a_check_demands : Addr
  d_check_demands : FuncData
  F_check_demands : Fun K "check_demands" "check_demands" s_check_demands a_check_demands d_check_demands
  b_check_demands : Binds K d_check_demands ["demands"] []
  g_check_demands : mg "check_demands" = some (.ref a_check_demands)
  a_Sheaf_len : Addr
  d_Sheaf_len : FuncData
  F_Sheaf_len : Fun K "__len__" "Sheaf.__len__" s_Sheaf_len a_Sheaf_len d_Sheaf_len
  b_Sheaf_len : Binds K d_Sheaf_len ["self"] []
  a_Sheaf_rows : Addr
  d_Sheaf_rows : FuncData
  F_Sheaf_rows : Fun K "rows" "Sheaf.rows" s_Sheaf_rows a_Sheaf_rows d_Sheaf_rows
  b_Sheaf_rows : Binds K d_Sheaf_rows ["self"] []
  a_power : Addr
  d_power : FuncData
  F_power : Fun K "power" "power" s_power a_power d_power
  b_power : Binds K d_power ["base", "exponent"] []
  g_power : mg "power" = some (.ref a_power)
  a_cap : Addr
  d_cap : FuncData
  F_cap : Fun K "cap" "cap" s_cap a_cap d_cap
  dk_cap : ∃ ds, Vals [.int 1] ds ∧ Binds K d_cap ["sharpness", "end", "breadth"] ds
  kb_cap : KBn K d_cap ["sharpness", "end", "breadth"] 2 ["breadth"] (fun us ws => us ++ ws) (fun vs zs => vs ++ zs)
  g_cap : mg "cap" = some (.ref a_cap)
  a_reach : Addr
  d_reach : FuncData
  F_reach : Fun K "reach" "reach" s_reach a_reach d_reach
  dk_reach : ∃ ds, Vals [.int 1] ds ∧ Binds K d_reach ["sheaf", "end", "breadth"] ds
  kb_reach : KBn K d_reach ["sheaf", "end", "breadth"] 2 ["breadth"] (fun us ws => us ++ ws) (fun vs zs => vs ++ zs)
  g_reach : mg "reach" = some (.ref a_reach)
  a_record_reach : Addr
  d_record_reach : FuncData
  F_record_reach : Fun K "record_reach" "record_reach" s_record_reach a_record_reach d_record_reach
  dk_record_reach : ∃ ds, Vals [.int 1] ds ∧ Binds K d_record_reach ["sheaf", "record", "end", "breadth"] ds
  kb_record_reach : KBn K d_record_reach ["sheaf", "record", "end", "breadth"] 3 ["breadth"] (fun us ws => us ++ ws) (fun vs zs => vs ++ zs)
  g_record_reach : mg "record_reach" = some (.ref a_record_reach)
  a_own_order : Addr
  d_own_order : FuncData
  F_own_order : Fun K "own_order" "own_order" s_own_order a_own_order d_own_order
  b_own_order : Binds K d_own_order ["rows", "record", "end"] []
  g_own_order : mg "own_order" = some (.ref a_own_order)
  a_capped_power : Addr
  d_capped_power : FuncData
  F_capped_power : Fun K "capped_power" "capped_power" s_capped_power a_capped_power d_capped_power
  b_capped_power : Binds K d_capped_power ["base", "exponent", "limit"] []
  g_capped_power : mg "capped_power" = some (.ref a_capped_power)
  a_set_aside : Addr
  d_set_aside : FuncData
  F_set_aside : Fun K "set_aside" "set_aside" s_set_aside a_set_aside d_set_aside
  dk_set_aside : ∃ ds, Vals [.int 1] ds ∧ Binds K d_set_aside ["sheaf", "end", "demands", "breadth"] ds
  kb_set_aside : KBn K d_set_aside ["sheaf", "end", "demands", "breadth"] 3 ["breadth"] (fun us ws => us ++ ws) (fun vs zs => vs ++ zs)
  g_set_aside : mg "set_aside" = some (.ref a_set_aside)
  a_spare_values : Addr
  d_spare_values : FuncData
  F_spare_values : Fun K "spare_values" "spare_values" s_spare_values a_spare_values d_spare_values
  b_spare_values : Binds K d_spare_values ["sheaf", "aside"] []
  g_spare_values : mg "spare_values" = some (.ref a_spare_values)
  a_count_no_sharper : Addr
  d_count_no_sharper : FuncData
  F_count_no_sharper : Fun K "count_no_sharper" "count_no_sharper" s_count_no_sharper a_count_no_sharper d_count_no_sharper
  b_count_no_sharper : Binds K d_count_no_sharper ["values", "level"] []
  g_count_no_sharper : mg "count_no_sharper" = some (.ref a_count_no_sharper)
  a_first_lack : Addr
  d_first_lack : FuncData
  F_first_lack : Fun K "first_lack" "first_lack" s_first_lack a_first_lack d_first_lack
  b_first_lack : Binds K d_first_lack ["values", "end", "spare"] []
  g_first_lack : mg "first_lack" = some (.ref a_first_lack)
  a_trouble : Addr
  d_trouble : FuncData
  F_trouble : Fun K "trouble" "trouble" s_trouble a_trouble d_trouble
  dk_trouble : ∃ ds, Vals [.int 1] ds ∧ Binds K d_trouble ["sheaf", "end", "demands", "breadth"] ds
  kb_trouble : KBn K d_trouble ["sheaf", "end", "demands", "breadth"] 3 ["breadth"] (fun us ws => us ++ ws) (fun vs zs => vs ++ zs)
  g_trouble : mg "trouble" = some (.ref a_trouble)
  a_can_meet : Addr
  d_can_meet : FuncData
  F_can_meet : Fun K "can_meet" "can_meet" s_can_meet a_can_meet d_can_meet
  dk_can_meet : ∃ ds, Vals [.int 1] ds ∧ Binds K d_can_meet ["sheaf", "end", "demands", "breadth"] ds
  kb_can_meet : KBn K d_can_meet ["sheaf", "end", "demands", "breadth"] 3 ["breadth"] (fun us ws => us ++ ws) (fun vs zs => vs ++ zs)
  g_can_meet : mg "can_meet" = some (.ref a_can_meet)
  a_law_asked : Addr
  d_law_asked : FuncData
  F_law_asked : Fun K "_law_asked" "_law_asked" s_law_asked a_law_asked d_law_asked
  b_law_asked : Binds K d_law_asked ["sheaf", "end", "demands", "width", "plain"] []
  g_law_asked : mg "_law_asked" = some (.ref a_law_asked)
  a_Sheaf_eq : Addr
  d_Sheaf_eq : FuncData
  F_Sheaf_eq : Fun K "__eq__" "Sheaf.__eq__" s_Sheaf_eq a_Sheaf_eq d_Sheaf_eq
  b_Sheaf_eq : Binds K d_Sheaf_eq ["self", "other"] []
  a_law_met : Addr
  d_law_met : FuncData
  F_law_met : Fun K "_law_met" "_law_met" s_law_met a_law_met d_law_met
  b_law_met : Binds K d_law_met ["rows", "end", "demands", "width", "plain", "due"] []
  g_law_met : mg "_law_met" = some (.ref a_law_met)
  a_law_refused : Addr
  d_law_refused : FuncData
  F_law_refused : Fun K "_law_refused" "_law_refused" s_law_refused a_law_refused d_law_refused
  b_law_refused : Binds K d_law_refused ["rows", "end", "demands", "name", "strange", "less", "width", "plain"] []
  g_law_refused : mg "_law_refused" = some (.ref a_law_refused)
  a_law : Addr
  d_law : FuncData
  F_law : Fun K "law" "law" s_law a_law d_law
  b_law : Binds K d_law ["script"] []
  g_law : mg "law" = some (.ref a_law)
  c_WornError : Addr
  g_WornError : mg "WornError" = some (.ref c_WornError)
  bx_WornError : BaseX K c_WornError
  xc_WornError : ClsX K c_WornError
  c_InvalidSheaf : Addr
  g_InvalidSheaf : mg "InvalidSheaf" = some (.ref c_InvalidSheaf)
  ox_InvalidSheaf : OwnX K c_InvalidSheaf a_InvalidSheaf_init
  nf_InvalidSheaf : PySem.W.findIn K (.ref c_InvalidSheaf) "index" = some none
  xc_InvalidSheaf : ClsX K c_InvalidSheaf
  c_InvalidDemands : Addr
  g_InvalidDemands : mg "InvalidDemands" = some (.ref c_InvalidDemands)
  ox_InvalidDemands : OwnX K c_InvalidDemands a_InvalidDemands_init
  nf_InvalidDemands : PySem.W.findIn K (.ref c_InvalidDemands) "record" = some none
  cx_InvalidDemands : CatC K c_InvalidDemands
  xc_InvalidDemands : ClsX K c_InvalidDemands
  c_InvalidDeed : Addr
  g_InvalidDeed : mg "InvalidDeed" = some (.ref c_InvalidDeed)
  xc_InvalidDeed : ClsX K c_InvalidDeed
  c_InvalidEntry : Addr
  g_InvalidEntry : mg "InvalidEntry" = some (.ref c_InvalidEntry)
  xc_InvalidEntry : ClsX K c_InvalidEntry
  c_InvalidText : Addr
  g_InvalidText : mg "InvalidText" = some (.ref c_InvalidText)
  xc_InvalidText : ClsX K c_InvalidText
  c_InvalidBox : Addr
  g_InvalidBox : mg "InvalidBox" = some (.ref c_InvalidBox)
  xc_InvalidBox : ClsX K c_InvalidBox
  c_NoOutcome : Addr
  g_NoOutcome : mg "NoOutcome" = some (.ref c_NoOutcome)
  xc_NoOutcome : ClsX K c_NoOutcome
  c_UnknownRecord : Addr
  g_UnknownRecord : mg "UnknownRecord" = some (.ref c_UnknownRecord)
  xc_UnknownRecord : ClsX K c_UnknownRecord
  c_Spoiled : Addr
  g_Spoiled : mg "Spoiled" = some (.ref c_Spoiled)
  xc_Spoiled : ClsX K c_Spoiled
  c_Impossible : Addr
  g_Impossible : mg "Impossible" = some (.ref c_Impossible)
  xc_Impossible : ClsX K c_Impossible
  c_RepeatedRecord : Addr
  g_RepeatedRecord : mg "RepeatedRecord" = some (.ref c_RepeatedRecord)
  xc_RepeatedRecord : ClsX K c_RepeatedRecord
  c_WrongMove : Addr
  g_WrongMove : mg "WrongMove" = some (.ref c_WrongMove)
  xc_WrongMove : ClsX K c_WrongMove
  c_ContradictoryLog : Addr
  g_ContradictoryLog : mg "ContradictoryLog" = some (.ref c_ContradictoryLog)
  xc_ContradictoryLog : ClsX K c_ContradictoryLog
  c_InvalidRound : Addr
  g_InvalidRound : mg "InvalidRound" = some (.ref c_InvalidRound)
  xc_InvalidRound : ClsX K c_InvalidRound
  c_UsedName : Addr
  g_UsedName : mg "UsedName" = some (.ref c_UsedName)
  xc_UsedName : ClsX K c_UsedName
  c_InvalidName : Addr
  g_InvalidName : mg "InvalidName" = some (.ref c_InvalidName)
  xc_InvalidName : ClsX K c_InvalidName
  c_UnknownName : Addr
  g_UnknownName : mg "UnknownName" = some (.ref c_UnknownName)
  xc_UnknownName : ClsX K c_UnknownName
  c_InvalidPage : Addr
  g_InvalidPage : mg "InvalidPage" = some (.ref c_InvalidPage)
  xc_InvalidPage : ClsX K c_InvalidPage
  c_NothingToUndo : Addr
  g_NothingToUndo : mg "NothingToUndo" = some (.ref c_NothingToUndo)
  xc_NothingToUndo : ClsX K c_NothingToUndo
  c_NothingToRedo : Addr
  g_NothingToRedo : mg "NothingToRedo" = some (.ref c_NothingToRedo)
  xc_NothingToRedo : ClsX K c_NothingToRedo
  su_InvalidDemands_InvalidSheaf : PySem.W.subIn K (.ref c_InvalidDemands) (.ref c_InvalidSheaf) = some false
  su_InvalidDemands_InvalidDeed : PySem.W.subIn K (.ref c_InvalidDemands) (.ref c_InvalidDeed) = some false
  su_InvalidDemands_InvalidEntry : PySem.W.subIn K (.ref c_InvalidDemands) (.ref c_InvalidEntry) = some false
  su_InvalidDemands_InvalidText : PySem.W.subIn K (.ref c_InvalidDemands) (.ref c_InvalidText) = some false
  su_InvalidDemands_InvalidBox : PySem.W.subIn K (.ref c_InvalidDemands) (.ref c_InvalidBox) = some false
  su_InvalidDemands_NoOutcome : PySem.W.subIn K (.ref c_InvalidDemands) (.ref c_NoOutcome) = some false
  su_InvalidDemands_InvalidDemands : PySem.W.subIn K (.ref c_InvalidDemands) (.ref c_InvalidDemands) = some true
  su_InvalidDemands_UnknownRecord : PySem.W.subIn K (.ref c_InvalidDemands) (.ref c_UnknownRecord) = some false
  su_InvalidDemands_Spoiled : PySem.W.subIn K (.ref c_InvalidDemands) (.ref c_Spoiled) = some false
  su_InvalidDemands_Impossible : PySem.W.subIn K (.ref c_InvalidDemands) (.ref c_Impossible) = some false
  su_InvalidDemands_RepeatedRecord : PySem.W.subIn K (.ref c_InvalidDemands) (.ref c_RepeatedRecord) = some false
  su_InvalidDemands_WrongMove : PySem.W.subIn K (.ref c_InvalidDemands) (.ref c_WrongMove) = some false
  su_InvalidDemands_ContradictoryLog : PySem.W.subIn K (.ref c_InvalidDemands) (.ref c_ContradictoryLog) = some false
  su_InvalidDemands_InvalidRound : PySem.W.subIn K (.ref c_InvalidDemands) (.ref c_InvalidRound) = some false
  su_InvalidDemands_UsedName : PySem.W.subIn K (.ref c_InvalidDemands) (.ref c_UsedName) = some false
  su_InvalidDemands_InvalidName : PySem.W.subIn K (.ref c_InvalidDemands) (.ref c_InvalidName) = some false
  su_InvalidDemands_UnknownName : PySem.W.subIn K (.ref c_InvalidDemands) (.ref c_UnknownName) = some false
  su_InvalidDemands_InvalidPage : PySem.W.subIn K (.ref c_InvalidDemands) (.ref c_InvalidPage) = some false
  su_InvalidDemands_NothingToUndo : PySem.W.subIn K (.ref c_InvalidDemands) (.ref c_NothingToUndo) = some false
  su_InvalidDemands_NothingToRedo : PySem.W.subIn K (.ref c_InvalidDemands) (.ref c_NothingToRedo) = some false
  su_InvalidDemands_WornError : PySem.W.subIn K (.ref c_InvalidDemands) (.ref c_WornError) = some true
  kv_InvalidDemands : PySem.W.kitOne K (.ref c_InvalidDemands) (.type "ValueError") = some true
  c_Sheaf : Addr
  g_Sheaf : mg "Sheaf" = some (.ref c_Sheaf)
  cls_Sheaf : Cls K c_Sheaf
  na_Sheaf__rows : NoAttr K c_Sheaf "_rows"
  isi_Sheaf : IsiC K c_Sheaf
  mk_Sheaf : Mk K c_Sheaf a_Sheaf_init
  me_Sheaf_len : Meth K c_Sheaf "__len__" a_Sheaf_len
  me_Sheaf_rows : Meth K c_Sheaf "rows" a_Sheaf_rows
  me_Sheaf_eq : Meth K c_Sheaf "__eq__" a_Sheaf_eq
  cc_own_order : Addr
  P_own_order : Addr
  co_own_order : d_own_order.code = .ref cc_own_order
  n_ValueError : mg "ValueError" = none
  n_bool : mg "bool" = none
  n_dict : mg "dict" = none
  n_enumerate : mg "enumerate" = none
  n_int : mg "int" = none
  n_isinstance : mg "isinstance" = none
  n_len : mg "len" = none
  n_list : mg "list" = none
  n_max : mg "max" = none
  n_min : mg "min" = none
  n_range : mg "range" = none
  n_sorted : mg "sorted" = none
  n_str : mg "str" = none
  n_sum : mg "sum" = none
  n_tuple : mg "tuple" = none
  t_LONGEST : Tok
  g_LONGEST : mg "LONGEST" = some (.int 8 t_LONGEST)
  t_SIGNS : Tok
  g_SIGNS : mg "SIGNS" = some (.str "abcdefghijklmnopqrstuvwxyz0123456789" t_SIGNS)
abbrev Txt.a_law_moved_v2 {K : PySem.W.Frag} {mg : Str → Option Value} (T : Txt K mg) := T.a_law_moved
abbrev Txt.d_law_moved_v2 {K : PySem.W.Frag} {mg : Str → Option Value} (T : Txt K mg) := T.d_law_moved
abbrev Txt.F_law_moved_v2 {K : PySem.W.Frag} {mg : Str → Option Value} (T : Txt K mg) := T.F_law_moved
abbrev Txt.g_law_moved_v2 {K : PySem.W.Frag} {mg : Str → Option Value} (T : Txt K mg) := T.g_law_moved
abbrev Txt.b_law_moved_v2 {K : PySem.W.Frag} {mg : Str → Option Value} (T : Txt K mg) := T.b_law_moved
def cmOf {K : PySem.W.Frag} {mg : Str → Option Value} (T : Txt K mg) : String → Addr := fun s => if s = "Sheaf" then T.c_Sheaf else if s = "WornError" then T.c_WornError else if s = "InvalidSheaf" then T.c_InvalidSheaf else if s = "InvalidDemands" then T.c_InvalidDemands else if s = "InvalidDeed" then T.c_InvalidDeed else if s = "InvalidEntry" then T.c_InvalidEntry else if s = "InvalidText" then T.c_InvalidText else if s = "InvalidBox" then T.c_InvalidBox else if s = "NoOutcome" then T.c_NoOutcome else if s = "UnknownRecord" then T.c_UnknownRecord else if s = "Spoiled" then T.c_Spoiled else if s = "Impossible" then T.c_Impossible else if s = "RepeatedRecord" then T.c_RepeatedRecord else if s = "WrongMove" then T.c_WrongMove else if s = "ContradictoryLog" then T.c_ContradictoryLog else if s = "InvalidRound" then T.c_InvalidRound else if s = "UsedName" then T.c_UsedName else if s = "InvalidName" then T.c_InvalidName else if s = "UnknownName" then T.c_UnknownName else if s = "InvalidPage" then T.c_InvalidPage else if s = "NothingToUndo" then T.c_NothingToUndo else if s = "NothingToRedo" then T.c_NothingToRedo else 0
def wdOf {K : PySem.W.Frag} {mg : Str → Option Value} (T : Txt K mg) : Wd := ⟨K, cmOf T⟩
/-- the tables of the defs with a lambda -/
structure Lm [TabT] {K : PySem.W.Frag} {mg : Str → Option Value} (T : Txt K mg) (base : Heap) : Prop where
  tb_own_order : LamX.TabB base mg T.cc_own_order T.P_own_order
  in_own_order : (T.P_own_order, (("own_order" : Str) ++ ".<locals>.") ++ "<lambda>") ∈ TabT.T
  un_own_order : ∀ p ∈ TabT.T, p.1 = T.P_own_order → p.2 = (("own_order" : Str) ++ ".<locals>.") ++ "<lambda>"
theorem cm_Sheaf {K : PySem.W.Frag} {mg : Str → Option Value} (T : Txt K mg) : (wdOf T).cm "Sheaf" = T.c_Sheaf := by simp [wdOf, cmOf]
theorem cm_InvalidSheaf {K : PySem.W.Frag} {mg : Str → Option Value} (T : Txt K mg) : (wdOf T).cm "InvalidSheaf" = T.c_InvalidSheaf := by simp [wdOf, cmOf]
theorem cm_InvalidDemands {K : PySem.W.Frag} {mg : Str → Option Value} (T : Txt K mg) : (wdOf T).cm "InvalidDemands" = T.c_InvalidDemands := by simp [wdOf, cmOf]
/-! ### the mirrors -/
noncomputable def m_law_cell : Ctx.T [.fz 0 Script, .fz 1 Int] → Rs Int := fun γ => Rs.bind (Rs.bind (Rs.ok γ.2.1) (fun x => Rs.bind (Rs.bind (Rs.ok γ.1) (fun x => Rs.ok (x.ns.length : Int))) (fun y => Rs.ok (decide (x < y))))) (fun b => if b = true then Rs.bind (Rs.bind (Rs.ok γ.1) (fun x => Rs.bind (Rs.ok γ.2.1) (fun y => getI x.ns y))) (fun x => Rs.ok x) else Rs.ok (0 : Int))
noncomputable def m_law_given : Ctx.T [.fz 0 Script, .fz 1 Int] → Rs Int := fun γ => Rs.bind (Rs.bind (Rs.ok γ.2.1) (fun x => Rs.bind (Rs.bind (Rs.ok γ.1) (fun x => Rs.ok (x.ns.length : Int))) (fun y => Rs.ok (decide (x < y))))) (fun b => if b = true then Rs.bind (Rs.bind (Rs.ok γ.1) (fun x => Rs.bind (Rs.ok γ.2.1) (fun y => getI x.ns y))) (fun x => Rs.ok x) else Rs.bind (Rs.bind (Rs.ok (3909 : Int)) (fun x => Rs.bind (Rs.bind (Rs.ok γ.2.1) (fun x => Rs.bind (Rs.ok (1 : Int)) (fun y => Rs.ok (x + y)))) (fun y => if CMul x y then Rs.ok (x * y) else Rs.no))) (fun x => Rs.bind (Rs.bind (Rs.ok (31 : Int)) (fun x => Rs.bind (Rs.bind (Rs.bind (Rs.ok γ.1) (fun a => Rs.bind (Rs.bind (Rs.ok (0 : Int)) (fun a => Rs.bind (Rs.ok ()) (fun g => Rs.ok (a, g)))) (fun g => Rs.ok (a, g)))) m_law_cell) (fun y => if CMul x y then Rs.ok (x * y) else Rs.no))) (fun y => Rs.ok (x + y))))
noncomputable def m_law_draws_l1 : Ctx.T [.fz 5 Int, .fz 4 Bool, .fz 3 Int, .ow 2 (List Int), .fz 0 Int, .bo 1 (List Int)] → Rs (Ctx.T [.fz 4 Bool, .fz 3 Int, .ow 2 (List Int), .fz 0 Int, .bo 1 (List Int)]) := fun γ => Rs.bind (Rs.bind (Rs.bind (Rs.ok γ.2.1) (fun b => if b = true then Rs.bind (Rs.ok γ.2.2.1) (fun x => Rs.bind (Rs.ok (0 : Int)) (fun y => Rs.ok (decide (y < x)))) else Rs.ok false)) (fun b => if b = true then Rs.bind (Rs.bind (Rs.bind (Rs.bind (Rs.ok γ.2.2.1) (fun x => Rs.ok x)) (fun x => Rs.bind (Rs.bind (Rs.ok γ.2.2.2.2.2.1) (fun x => Rs.bind (Rs.ok γ.1) (fun y => getI x y))) (fun y => if 0 < y then Rs.ok (x % y) else Rs.no))) (fun a => Rs.bind (appI γ.2.2.2.1 a) (fun ys => Rs.ok (γ.1, γ.2.1, γ.2.2.1, ys, γ.2.2.2.2.1, γ.2.2.2.2.2.1, ())))) (fun γ => Rs.bind (Rs.bind (Rs.bind (Rs.bind (Rs.ok γ.2.2.1) (fun x => Rs.ok x)) (fun x => Rs.bind (Rs.bind (Rs.ok γ.2.2.2.2.2.1) (fun x => Rs.bind (Rs.ok γ.1) (fun y => getI x y))) (fun y => if CDiv x y then Rs.ok (x / y) else Rs.no))) (fun a => Rs.ok (γ.1, γ.2.1, a, γ.2.2.2.1, γ.2.2.2.2.1, γ.2.2.2.2.2.1, ()))) (fun γ => Rs.ok (γ.2.1, γ.2.2.1, γ.2.2.2.1, γ.2.2.2.2.1, γ.2.2.2.2.2.1, ()))) else Rs.bind (Rs.bind (Rs.bind (Rs.bind (Rs.bind (Rs.bind (Rs.ok γ.2.2.2.2.1) (fun x => Rs.bind (Rs.bind (Rs.ok (7919 : Int)) (fun x => Rs.bind (Rs.ok γ.1) (fun y => if CMul x y then Rs.ok (x * y) else Rs.no))) (fun y => Rs.ok (x + y)))) (fun x => Rs.bind (Rs.ok (13 : Int)) (fun y => Rs.ok (x + y)))) (fun x => Rs.ok x)) (fun x => Rs.bind (Rs.ok (2147483647 : Int)) (fun y => if 0 < y then Rs.ok (x % y) else Rs.no))) (fun a => Rs.ok (a, γ.1, γ.2.1, γ.2.2.1, γ.2.2.2.1, γ.2.2.2.2.1, γ.2.2.2.2.2.1, ()))) (fun γ => Rs.bind (Rs.bind (Rs.bind (Rs.bind (Rs.bind (Rs.ok γ.1) (fun x => Rs.bind (Rs.bind (Rs.ok γ.1) (fun x => Rs.bind (Rs.ok (48271 : Int)) (fun y => Rs.ok (x + y)))) (fun y => if CMul x y then Rs.ok (x * y) else Rs.no))) (fun x => Rs.ok x)) (fun x => Rs.bind (Rs.ok (2147483629 : Int)) (fun y => if 0 < y then Rs.ok (x % y) else Rs.no))) (fun a => Rs.ok (a, γ.2.1, γ.2.2.1, γ.2.2.2.1, γ.2.2.2.2.1, γ.2.2.2.2.2.1, γ.2.2.2.2.2.2.1, ()))) (fun γ => Rs.bind (Rs.bind (Rs.bind (Rs.bind (Rs.bind (Rs.bind (Rs.ok γ.1) (fun x => Rs.bind (Rs.bind (Rs.ok γ.1) (fun x => Rs.bind (Rs.ok (69621 : Int)) (fun y => Rs.ok (x + y)))) (fun y => if CMul x y then Rs.ok (x * y) else Rs.no))) (fun x => Rs.bind (Rs.bind (Rs.ok (31 : Int)) (fun x => Rs.bind (Rs.ok γ.2.1) (fun y => if CMul x y then Rs.ok (x * y) else Rs.no))) (fun y => Rs.ok (x + y)))) (fun x => Rs.ok x)) (fun x => Rs.bind (Rs.ok (2147483647 : Int)) (fun y => if 0 < y then Rs.ok (x % y) else Rs.no))) (fun a => Rs.ok (a, γ.2.1, γ.2.2.1, γ.2.2.2.1, γ.2.2.2.2.1, γ.2.2.2.2.2.1, γ.2.2.2.2.2.2.1, ()))) (fun γ => Rs.bind (Rs.bind (Rs.bind (Rs.bind (Rs.bind (Rs.ok γ.1) (fun x => Rs.bind (Rs.ok (9 : Int)) (fun y => if CDiv x y then Rs.ok (x / y) else Rs.no))) (fun x => Rs.ok x)) (fun x => Rs.bind (Rs.bind (Rs.ok γ.2.2.2.2.2.2.1) (fun x => Rs.bind (Rs.ok γ.2.1) (fun y => getI x y))) (fun y => if 0 < y then Rs.ok (x % y) else Rs.no))) (fun a => Rs.bind (appI γ.2.2.2.2.1 a) (fun ys => Rs.ok (γ.1, γ.2.1, γ.2.2.1, γ.2.2.2.1, ys, γ.2.2.2.2.2.1, γ.2.2.2.2.2.2.1, ())))) (fun γ => Rs.ok (γ.2.2.1, γ.2.2.2.1, γ.2.2.2.2.1, γ.2.2.2.2.2.1, γ.2.2.2.2.2.2.1, ()))))))) (fun γ => Rs.ok (γ.1, γ.2.1, γ.2.2.1, γ.2.2.2.1, γ.2.2.2.2.1, ()))
noncomputable def m_law_draws : Ctx.T [.fz 0 Int, .bo 1 (List Int)] → Rs (List Int) := fun γ => Rs.bind (Rs.bind (Rs.bind (Rs.ok ([] : List Int)) Rs.ok) (fun a => Rs.ok (a, γ.1, γ.2.1, ()))) (fun γ => Rs.bind (Rs.bind (Rs.bind (Rs.ok γ.2.1) (fun x => Rs.ok x)) (fun a => Rs.ok (a, γ.1, γ.2.1, γ.2.2.1, ()))) (fun γ => Rs.bind (Rs.bind (Rs.bind (Rs.ok γ.1) (fun x => Rs.bind (Rs.bind (Rs.ok (10 : Int)) (fun x => Rs.bind (Rs.ok (18 : Int)) (fun y => if CPow x y then Rs.ok (x ^ y.toNat) else Rs.no))) (fun y => Rs.ok (decide (y ≤ x))))) (fun a => Rs.ok (a, γ.1, γ.2.1, γ.2.2.1, γ.2.2.2.1, ()))) (fun γ => Rs.bind (Rs.bind (Rs.bind (Rs.bind (Rs.ok γ.2.2.2.2.1) (fun x => Rs.ok (x.length : Int))) (fun n => Rng 0 n)) (fun xs => Rs.fold (fun γ x => m_law_draws_l1 (x, γ)) γ xs)) (fun γ => Rs.ok γ.2.2.1))))
noncomputable def m_law_names_l1 : Ctx.T [.fz 5 Int, .ow 4 (List Str), .ow 3 (List Int), .fz 2 Str, .fz 1 Int] → Rs (Ctx.T [.ow 4 (List Str), .ow 3 (List Int), .fz 2 Str, .fz 1 Int]) := fun γ => Rs.bind (Rs.bind (Rs.bind (Rs.bind (Rs.bind (Rs.bind (Rs.ok γ.2.2.1) (fun x => Rs.bind (Rs.ok (1 : Int)) (fun y => getI x y))) (fun x => Rs.bind (Rs.bind (Rs.ok γ.1) (fun x => Rs.bind (Rs.bind (Rs.ok (1 : Int)) (fun x => Rs.bind (Rs.bind (Rs.bind (Rs.ok γ.2.2.1) (fun x => Rs.bind (Rs.ok (2 : Int)) (fun y => getI x y))) (fun x => Rs.bind (Rs.ok (5 : Int)) (fun y => if CDiv x y then Rs.ok (x / y) else Rs.no))) (fun y => Rs.ok (x + y)))) (fun y => if CMul x y then Rs.ok (x * y) else Rs.no))) (fun y => Rs.ok (x + y)))) (fun x => Rs.ok x)) (fun x => Rs.bind (Rs.ok (36 : Int)) (fun y => if 0 < y then Rs.ok (x % y) else Rs.no))) (fun a => Rs.ok (a, γ.1, γ.2.1, γ.2.2.1, γ.2.2.2.1, γ.2.2.2.2.1, ()))) (fun γ => Rs.bind (Rs.bind (Rs.bind (Rs.bind (Rs.bind (Rs.ok γ.2.2.2.1) (fun x => Rs.bind (Rs.ok (0 : Int)) (fun y => getI x y))) (fun x => Rs.bind (Rs.ok (0 : Int)) (fun y => Rs.ok (decide (x = y))))) (fun b => if b = true then Rs.bind (Rs.bind (Rs.ok γ.2.2.2.2.2.1) (fun x => Rs.bind (Rs.bind (Rs.ok (1 : Int)) (fun x => Rs.bind (Rs.bind (Rs.bind (Rs.ok γ.2.2.2.1) (fun x => Rs.bind (Rs.ok (2 : Int)) (fun y => getI x y))) (fun x => Rs.bind (Rs.ok (5 : Int)) (fun y => if CDiv x y then Rs.ok (x / y) else Rs.no))) (fun y => Rs.ok (x + y)))) (fun y => if CMul x y then Rs.ok (x * y) else Rs.no))) (fun x => Rs.bind (Rs.ok (36 : Int)) (fun y => Rs.ok (decide (x ≤ y)))) else Rs.ok false)) (fun b => if b = true then Rs.bind (Rs.bind (Rs.bind (Rs.ok γ.2.2.2.2.1) (fun x => Rs.bind (Rs.ok γ.1) (fun y => getI (chars x) y))) (fun a => Rs.bind (appI γ.2.2.1 a) (fun ys => Rs.ok (γ.1, γ.2.1, ys, γ.2.2.2.1, γ.2.2.2.2.1, γ.2.2.2.2.2.1, ())))) (fun γ => Rs.ok (γ.2.2.1, γ.2.2.2.1, γ.2.2.2.2.1, γ.2.2.2.2.2.1, ())) else Rs.bind (Rs.bind (Rs.bind (Rs.bind (Rs.bind (Rs.bind (Rs.bind (Rs.ok (36 : Int)) (fun x => Rs.bind (Rs.bind (Rs.ok γ.2.2.2.1) (fun x => Rs.bind (Rs.ok (1 : Int)) (fun y => getI x y))) (fun y => if CMul x y then Rs.ok (x * y) else Rs.no))) (fun x => Rs.bind (Rs.bind (Rs.ok γ.2.2.2.1) (fun x => Rs.bind (Rs.ok (2 : Int)) (fun y => getI x y))) (fun y => Rs.ok (x + y)))) (fun x => Rs.bind (Rs.bind (Rs.ok (7 : Int)) (fun x => Rs.bind (Rs.ok γ.2.1) (fun y => if CMul x y then Rs.ok (x * y) else Rs.no))) (fun y => Rs.ok (x + y)))) (fun x => Rs.ok x)) (fun x => Rs.bind (Rs.ok (1296 : Int)) (fun y => if 0 < y then Rs.ok (x % y) else Rs.no))) (fun a => Rs.ok (a, γ.2.1, γ.2.2.1, γ.2.2.2.1, γ.2.2.2.2.1, γ.2.2.2.2.2.1, ()))) (fun γ => Rs.bind (Rs.bind (Rs.bind (Rs.bind (Rs.ok (4 : Int)) (fun x => Rs.bind (Rs.ok γ.2.1) (fun y => if CMul x y then Rs.ok (x * y) else Rs.no))) (fun x => Rs.bind (Rs.bind (Rs.bind (Rs.bind (Rs.bind (Rs.bind (Rs.ok γ.2.2.2.1) (fun x => Rs.bind (Rs.ok (2 : Int)) (fun y => getI x y))) (fun x => Rs.ok x)) (fun x => Rs.bind (Rs.ok (4 : Int)) (fun y => if 0 < y then Rs.ok (x % y) else Rs.no))) (fun x => Rs.bind (Rs.ok (1 : Int)) (fun y => Rs.ok (decide (y < x))))) (fun x => Rs.ok (if x = true then (1 : Int) else 0))) (fun y => if CMul x y then Rs.ok (x * y) else Rs.no))) (fun a => Rs.ok (a, γ.1, γ.2.2.1, γ.2.2.2.1, γ.2.2.2.2.1, γ.2.2.2.2.2.1, ()))) (fun γ => Rs.bind (Rs.bind (Rs.bind (Rs.bind (Rs.bind (Rs.ok γ.2.2.2.2.1) (fun x => Rs.bind (Rs.bind (Rs.ok γ.2.2.2.1) (fun x => Rs.bind (Rs.bind (Rs.ok (4 : Int)) (fun x => Rs.bind (Rs.ok γ.1) (fun y => Rs.ok (x + y)))) (fun y => getI x y))) (fun y => getI (chars x) y))) (fun x => Rs.bind (Rs.bind (Rs.ok γ.2.2.2.2.1) (fun x => Rs.bind (Rs.bind (Rs.ok γ.2.2.2.1) (fun x => Rs.bind (Rs.bind (Rs.ok (5 : Int)) (fun x => Rs.bind (Rs.ok γ.1) (fun y => Rs.ok (x + y)))) (fun y => getI x y))) (fun y => getI (chars x) y))) (fun y => catS x y))) (fun x => Rs.bind (Rs.bind (Rs.ok γ.2.2.2.2.1) (fun x => Rs.bind (Rs.bind (Rs.ok γ.2.2.2.1) (fun x => Rs.bind (Rs.bind (Rs.ok (6 : Int)) (fun x => Rs.bind (Rs.ok γ.1) (fun y => Rs.ok (x + y)))) (fun y => getI x y))) (fun y => getI (chars x) y))) (fun y => catS x y))) (fun a => Rs.ok (a, γ.1, γ.2.1, γ.2.2.1, γ.2.2.2.1, γ.2.2.2.2.1, γ.2.2.2.2.2.1, ()))) (fun γ => Rs.bind (Rs.bind (Rs.bind (Rs.bind (Rs.ok γ.1) (fun x => Rs.bind (Rs.ok γ.1) (fun y => catS x y))) (fun x => Rs.bind (Rs.ok none) (fun l => Rs.bind (Rs.bind (Rs.bind (Rs.ok γ.2.2.2.2.1) (fun x => Rs.bind (Rs.bind (Rs.ok (3 : Int)) (fun x => Rs.bind (Rs.ok γ.2.1) (fun y => Rs.ok (x + y)))) (fun y => getI x y))) (fun i => Rs.ok (some i))) (fun h => Rs.ok (cutS x l h))))) (fun a => Rs.ok (a, γ.2.1, γ.2.2.1, γ.2.2.2.1, γ.2.2.2.2.1, γ.2.2.2.2.2.1, γ.2.2.2.2.2.2.1, ()))) (fun γ => Rs.bind (Rs.bind (Rs.bind (Rs.bind (Rs.ok γ.2.2.2.2.2.1) (fun x => Rs.bind (Rs.bind (Rs.ok γ.2.2.1) (fun x => Rs.bind (Rs.ok (36 : Int)) (fun y => if CDiv x y then Rs.ok (x / y) else Rs.no))) (fun y => getI (chars x) y))) (fun x => Rs.bind (Rs.bind (Rs.ok γ.2.2.2.2.2.1) (fun x => Rs.bind (Rs.bind (Rs.bind (Rs.ok γ.2.2.1) (fun x => Rs.ok x)) (fun x => Rs.bind (Rs.ok (36 : Int)) (fun y => if 0 < y then Rs.ok (x % y) else Rs.no))) (fun y => getI (chars x) y))) (fun y => catS x y))) (fun a => Rs.ok (a, γ.1, γ.2.2.2.1, γ.2.2.2.2.1, γ.2.2.2.2.2.1, γ.2.2.2.2.2.2.1, ()))) (fun γ => Rs.bind (Rs.bind (Rs.bind (Rs.bind (Rs.bind (Rs.bind (Rs.ok γ.2.1) (fun x => Rs.bind (Rs.ok γ.1) (fun y => catS x y))) (fun a => Rs.bind (Rs.bind (Rs.bind (Rs.ok γ.1) (fun x => Rs.bind (Rs.ok γ.2.1) (fun y => catS x y))) (fun a => Rs.bind (Rs.ok ([] : List Str)) (fun g => Rs.ok (a :: g)))) (fun g => Rs.ok (a :: g)))) Rs.ok) (fun x => Rs.bind (Rs.bind (Rs.bind (Rs.bind (Rs.ok γ.2.2.2.1) (fun x => Rs.bind (Rs.ok (2 : Int)) (fun y => getI x y))) (fun x => Rs.ok x)) (fun x => Rs.bind (Rs.ok (2 : Int)) (fun y => if 0 < y then Rs.ok (x % y) else Rs.no))) (fun y => getI x y))) (fun a => Rs.bind (appI γ.2.2.1 a) (fun ys => Rs.ok (γ.1, γ.2.1, ys, γ.2.2.2.1, γ.2.2.2.2.1, γ.2.2.2.2.2.1, ())))) (fun γ => Rs.ok (γ.2.2.1, γ.2.2.2.1, γ.2.2.2.2.1, γ.2.2.2.2.2.1, ()))))))))) (fun γ => Rs.ok (γ.1, γ.2.1, γ.2.2.1, γ.2.2.2.1, ())))
noncomputable def m_law_names : Ctx.T [.fz 0 Int, .fz 1 Int] → Rs (List Str) := fun γ => Rs.bind (Rs.bind (Rs.ok ("abcdefghijklmnopqrstuvwxyz0123456789" : Str)) (fun a => Rs.ok (a, γ.1, γ.2.1, ()))) (fun γ => Rs.bind (Rs.bind (Rs.bind (Rs.bind (Rs.ok γ.2.1) (fun a => Rs.bind (Rs.bind (Rs.bind (Rs.bind (Rs.bind (Rs.ok (2 : Int)) (fun a => Rs.bind (Rs.bind (Rs.ok (36 : Int)) (fun a => Rs.bind (Rs.bind (Rs.ok (35 : Int)) (fun a => Rs.bind (Rs.ok ([] : List Int)) (fun g => Rs.ok (a :: g)))) (fun g => Rs.ok (a :: g)))) (fun g => Rs.ok (a :: g)))) Rs.ok) (fun x => Rs.bind (Rs.bind (Rs.bind (Rs.bind (Rs.ok (7 : Int)) (fun a => Rs.bind (Rs.bind (Rs.ok (36 : Int)) (fun a => Rs.bind (Rs.bind (Rs.ok (36 : Int)) (fun a => Rs.bind (Rs.bind (Rs.ok (36 : Int)) (fun a => Rs.bind (Rs.ok ([] : List Int)) (fun g => Rs.ok (a :: g)))) (fun g => Rs.ok (a :: g)))) (fun g => Rs.ok (a :: g)))) (fun g => Rs.ok (a :: g)))) Rs.ok) (fun x => Rs.bind (Rs.ok γ.2.2.1) (fun y => repI x y))) (fun y => catI x y))) (fun a => Rs.bind (Rs.ok ()) (fun g => Rs.ok (a, g)))) (fun g => Rs.ok (a, g)))) m_law_draws) (fun a => Rs.ok (a, γ.1, γ.2.2.1, ()))) (fun γ => Rs.bind (Rs.bind (Rs.bind (Rs.ok ([] : List Str)) Rs.ok) (fun a => Rs.ok (a, γ.1, γ.2.1, γ.2.2.1, ()))) (fun γ => Rs.bind (Rs.bind (Rs.bind (Rs.ok γ.2.2.2.1) (fun n => Rng 0 n)) (fun xs => Rs.fold (fun γ x => m_law_names_l1 (x, γ)) γ xs)) (fun γ => Rs.ok γ.1))))
noncomputable def m_law_sheets_e1 : Ctx.T [.fz 18 Int, .ow 12 (List Int)] → Rs Int := fun γ => Rs.bind (Rs.ok γ.2.1) (fun x => Rs.bind (Rs.bind (Rs.ok (3 : Int)) (fun x => Rs.bind (Rs.ok γ.1) (fun y => if CMul x y then Rs.ok (x * y) else Rs.no))) (fun y => getI x y))
noncomputable def m_law_sheets_e2 : Ctx.T [.fz 18 Int, .ow 12 (List Int), .ow 8 (List Int)] → Rs Int := fun γ => Rs.bind (Rs.bind (Rs.ok (1 : Int)) (fun x => Rs.bind (Rs.bind (Rs.ok γ.2.2.1) (fun x => Rs.bind (Rs.ok (9 : Int)) (fun y => getI x y))) (fun y => Rs.ok (x + y)))) (fun x => Rs.bind (Rs.bind (Rs.ok γ.2.1) (fun x => Rs.bind (Rs.bind (Rs.bind (Rs.ok (3 : Int)) (fun x => Rs.bind (Rs.ok γ.1) (fun y => if CMul x y then Rs.ok (x * y) else Rs.no))) (fun x => Rs.bind (Rs.ok (1 : Int)) (fun y => Rs.ok (x + y)))) (fun y => getI x y))) (fun y => if CMul x y then Rs.ok (x * y) else Rs.no))
noncomputable def m_law_sheets_e3 : Ctx.T [.fz 18 Int, .fz 9 Int, .ow 8 (List Int)] → Rs Int := fun γ => Rs.bind (Rs.bind (Rs.bind (Rs.ok γ.1) (fun x => Rs.bind (Rs.bind (Rs.ok γ.2.2.1) (fun x => Rs.bind (Rs.ok (9 : Int)) (fun y => getI x y))) (fun y => Rs.ok (x + y)))) (fun x => Rs.ok x)) (fun x => Rs.bind (Rs.ok γ.2.1) (fun y => if 0 < y then Rs.ok (x % y) else Rs.no))
noncomputable def m_law_sheets_e4 : Ctx.T [.fz 18 Int, .fz 17 Int, .ow 12 (List Int)] → Rs Int := fun γ => Rs.bind (Rs.bind (Rs.bind (Rs.ok γ.2.2.1) (fun x => Rs.bind (Rs.bind (Rs.bind (Rs.ok (3 : Int)) (fun x => Rs.bind (Rs.ok γ.1) (fun y => if CMul x y then Rs.ok (x * y) else Rs.no))) (fun x => Rs.bind (Rs.ok (2 : Int)) (fun y => Rs.ok (x + y)))) (fun y => getI x y))) (fun x => Rs.ok x)) (fun x => Rs.bind (Rs.ok γ.2.1) (fun y => if 0 < y then Rs.ok (x % y) else Rs.no))
noncomputable def m_law_sheets_e5 : Ctx.T [.fz 18 Int, .fz 17 Int, .ow 12 (List Int)] → Rs Int := fun γ => Rs.bind (Rs.bind (Rs.bind (Rs.ok γ.2.2.1) (fun x => Rs.bind (Rs.bind (Rs.bind (Rs.ok (3 : Int)) (fun x => Rs.bind (Rs.ok γ.1) (fun y => if CMul x y then Rs.ok (x * y) else Rs.no))) (fun x => Rs.bind (Rs.ok (2 : Int)) (fun y => Rs.ok (x + y)))) (fun y => getI x y))) (fun x => Rs.ok x)) (fun x => Rs.bind (Rs.ok γ.2.1) (fun y => if 0 < y then Rs.ok (x % y) else Rs.no))
noncomputable def m_law_sheets_e6 : Ctx.T [.fz 18 Int, .ow 16 (List Int), .ow 15 (List Str), .fz 14 Int, .ow 13 (List Int)] → Rs (Int × Str) := fun γ => Rs.bind (Rs.bind (Rs.ok γ.2.2.2.1) (fun x => Rs.bind (Rs.bind (Rs.ok γ.2.2.2.2.1) (fun x => Rs.bind (Rs.ok γ.1) (fun y => getI x y))) (fun y => Rs.ok (x + y)))) (fun x => Rs.bind (Rs.bind (Rs.ok γ.2.2.1) (fun x => Rs.bind (Rs.bind (Rs.ok γ.2.1) (fun x => Rs.bind (Rs.ok γ.1) (fun y => getI x y))) (fun y => getI x y))) (fun y => Rs.ok (x, y)))
noncomputable def m_law_sheets_e7 : Ctx.T [.fz 18 Int, .ow 16 (List Int), .fz 15 (List Str), .fz 14 Int, .ow 13 (List Int)] → Rs (Int × Str) := fun γ => Rs.bind (Rs.bind (Rs.ok γ.2.2.2.1) (fun x => Rs.bind (Rs.bind (Rs.ok γ.2.2.2.2.1) (fun x => Rs.bind (Rs.ok γ.1) (fun y => getI x y))) (fun y => Rs.ok (x + y)))) (fun x => Rs.bind (Rs.bind (Rs.ok γ.2.2.1) (fun x => Rs.bind (Rs.bind (Rs.ok γ.2.1) (fun x => Rs.bind (Rs.ok γ.1) (fun y => getI x y))) (fun y => getI x y))) (fun y => Rs.ok (x, y)))
noncomputable def m_law_sheets_b8 : Ctx.T [.ow 16 (List Int), .fz 15 (List Str), .fz 14 Int, .ow 13 (List Int), .fz 9 Int] → Rs ((List (Int × Str)) × (List Str)) := fun γ => Rs.bind (Rs.bind (Rs.bind (Rs.ok γ.2.2.2.2.1) (fun n => Rng 0 n)) (fun xs => if xs.length ≤ 16777216 then Rs.comp (fun x => Rs.ok true) (fun x => m_law_sheets_e7 (x, (γ.1, γ.2.1, γ.2.2.1, γ.2.2.2.1, ()))) xs else Rs.no)) (fun x => Rs.bind (Rs.ok γ.2.1) (fun y => Rs.ok (x, y)))
noncomputable def m_law_sheets : Ctx.T [.fz 0 Script, .fz 1 Int, .fz 2 Int, .fz 3 Int, .fz 4 Int, .fz 5 Int, .fz 6 Int, .fz 7 Int] → Rs ((List (Int × Str)) × (List Str)) := fun γ => Rs.bind (Rs.bind (Rs.bind (Rs.bind (Rs.bind (Rs.bind (Rs.ok γ.1) (fun a => Rs.bind (Rs.bind (Rs.ok (0 : Int)) (fun a => Rs.bind (Rs.ok ()) (fun g => Rs.ok (a, g)))) (fun g => Rs.ok (a, g)))) m_law_given) (fun a => Rs.bind (Rs.bind (Rs.bind (Rs.bind (Rs.ok (8 : Int)) (fun a => Rs.bind (Rs.bind (Rs.ok (8 : Int)) (fun a => Rs.bind (Rs.bind (Rs.ok (16 : Int)) (fun a => Rs.bind (Rs.bind (Rs.ok (13 : Int)) (fun a => Rs.bind (Rs.bind (Rs.ok γ.2.1) (fun a => Rs.bind (Rs.bind (Rs.bind (Rs.ok γ.2.2.1) (fun x => Rs.bind (Rs.ok (1 : Int)) (fun y => Rs.ok (x - y)))) (fun a => Rs.bind (Rs.bind (Rs.ok γ.2.2.2.2.1) (fun a => Rs.bind (Rs.bind (Rs.ok γ.2.2.2.2.2.1) (fun a => Rs.bind (Rs.bind (Rs.ok (4 : Int)) (fun a => Rs.bind (Rs.bind (Rs.ok (40 : Int)) (fun a => Rs.bind (Rs.bind (Rs.ok (2 : Int)) (fun a => Rs.bind (Rs.bind (Rs.ok (840 : Int)) (fun a => Rs.bind (Rs.bind (Rs.ok γ.2.2.2.2.2.2.1) (fun a => Rs.bind (Rs.ok ([] : List Int)) (fun g => Rs.ok (a :: g)))) (fun g => Rs.ok (a :: g)))) (fun g => Rs.ok (a :: g)))) (fun g => Rs.ok (a :: g)))) (fun g => Rs.ok (a :: g)))) (fun g => Rs.ok (a :: g)))) (fun g => Rs.ok (a :: g)))) (fun g => Rs.ok (a :: g)))) (fun g => Rs.ok (a :: g)))) (fun g => Rs.ok (a :: g)))) (fun g => Rs.ok (a :: g)))) (fun g => Rs.ok (a :: g)))) (fun g => Rs.ok (a :: g)))) Rs.ok) (fun a => Rs.bind (Rs.ok ()) (fun g => Rs.ok (a, g)))) (fun g => Rs.ok (a, g)))) m_law_draws) (fun a => Rs.ok (a, γ.1, γ.2.2.2.1, γ.2.2.2.2.2.2.2.1, ()))) (fun γ => Rs.bind (Rs.bind (Rs.bind (Rs.ok (1 : Int)) (fun x => Rs.bind (Rs.bind (Rs.ok γ.1) (fun x => Rs.bind (Rs.ok (4 : Int)) (fun y => getI x y))) (fun y => Rs.ok (x + y)))) (fun a => Rs.ok (a, γ.1, γ.2.1, γ.2.2.1, γ.2.2.2.1, ()))) (fun γ => Rs.bind (Rs.bind (Rs.bind (Rs.ok (2 : Int)) (fun x => Rs.bind (Rs.bind (Rs.ok γ.2.1) (fun x => Rs.bind (Rs.ok (5 : Int)) (fun y => getI x y))) (fun y => Rs.ok (x + y)))) (fun a => Rs.ok (a, γ.1, γ.2.1, γ.2.2.1, γ.2.2.2.1, γ.2.2.2.2.1, ()))) (fun γ => Rs.bind (Rs.bind (Rs.bind (Rs.bind (Rs.ok γ.2.2.1) (fun x => Rs.bind (Rs.ok (1 : Int)) (fun y => getI x y))) (fun x => Rs.bind (Rs.ok (0 : Int)) (fun y => Rs.ok (decide (x = y))))) (fun b => if b = true then Rs.bind (Rs.bind (Rs.bind (Rs.ok γ.2.2.2.2.1) (fun x => Rs.bind (Rs.bind (Rs.ok γ.2.2.1) (fun x => Rs.bind (Rs.ok (6 : Int)) (fun y => getI x y))) (fun y => Rs.ok (x + y)))) (fun a => Rs.ok (γ.1, a, γ.2.2.1, γ.2.2.2.1, γ.2.2.2.2.1, γ.2.2.2.2.2.1, ()))) (fun γ => Rs.bind (Rs.bind (Rs.bind (Rs.ok (1 : Int)) (fun x => Rs.bind (Rs.bind (Rs.ok γ.2.2.1) (fun x => Rs.bind (Rs.ok (7 : Int)) (fun y => getI x y))) (fun y => Rs.ok (x + y)))) (fun a => Rs.ok (a, γ.2.1, γ.2.2.1, γ.2.2.2.1, γ.2.2.2.2.1, γ.2.2.2.2.2.1, ()))) (fun γ => Rs.ok (γ.1, γ.2.1, γ.2.2.1, γ.2.2.2.1, γ.2.2.2.2.2.1, ()))) else Rs.ok (γ.1, γ.2.1, γ.2.2.1, γ.2.2.2.1, γ.2.2.2.2.2.1, ()))) (fun γ => Rs.bind (Rs.bind (Rs.ok (4 : Int)) (fun a => Rs.ok (a, γ.1, γ.2.1, γ.2.2.1, γ.2.2.2.1, γ.2.2.2.2.1, ()))) (fun γ => Rs.bind (Rs.bind (Rs.bind (Rs.bind (Rs.ok γ.2.2.2.1) (fun x => Rs.bind (Rs.ok (0 : Int)) (fun y => getI x y))) (fun x => Rs.bind (Rs.ok (0 : Int)) (fun y => Rs.ok (decide (x = y))))) (fun b => if b = true then Rs.bind (Rs.bind (Rs.bind (Rs.ok γ.2.2.2.1) (fun x => Rs.bind (Rs.ok (8 : Int)) (fun y => getI x y))) (fun a => Rs.ok (a, γ.2.1, γ.2.2.1, γ.2.2.2.1, γ.2.2.2.2.1, γ.2.2.2.2.2.1, ()))) (fun γ => Rs.bind (Rs.bind (Rs.bind (Rs.ok (1 : Int)) (fun x => Rs.bind (Rs.bind (Rs.ok γ.2.2.2.1) (fun x => Rs.bind (Rs.ok (12 : Int)) (fun y => getI x y))) (fun y => Rs.ok (x + y)))) (fun a => Rs.ok (γ.1, γ.2.1, a, γ.2.2.2.1, γ.2.2.2.2.1, γ.2.2.2.2.2.1, ()))) (fun γ => Rs.ok (γ.1, γ.2.1, γ.2.2.1, γ.2.2.2.1, γ.2.2.2.2.1, γ.2.2.2.2.2.1, ()))) else Rs.ok (γ.1, γ.2.1, γ.2.2.1, γ.2.2.2.1, γ.2.2.2.2.1, γ.2.2.2.2.2.1, ()))) (fun γ => Rs.bind (Rs.bind (Rs.bind (Rs.ok γ.1) (fun x => Rs.bind (Rs.ok (1 : Int)) (fun y => Rs.ok (decide (x = y))))) (fun b => if b = true then Rs.bind (Rs.bind (Rs.ok (1 : Int)) (fun a => Rs.ok (γ.1, γ.2.1, a, γ.2.2.2.1, γ.2.2.2.2.1, γ.2.2.2.2.2.1, ()))) (fun γ => Rs.ok (γ.1, γ.2.1, γ.2.2.1, γ.2.2.2.1, γ.2.2.2.2.1, γ.2.2.2.2.2.1, ())) else Rs.ok (γ.1, γ.2.1, γ.2.2.1, γ.2.2.2.1, γ.2.2.2.2.1, γ.2.2.2.2.2.1, ()))) (fun γ => Rs.bind (Rs.bind (Rs.bind (Rs.bind (Rs.bind (Rs.bind (Rs.ok γ.2.2.2.2.1) (fun a => Rs.bind (Rs.bind (Rs.ok (1 : Int)) (fun a => Rs.bind (Rs.ok ()) (fun g => Rs.ok (a, g)))) (fun g => Rs.ok (a, g)))) m_law_given) (fun a => Rs.bind (Rs.bind (Rs.bind (Rs.bind (Rs.bind (Rs.ok γ.2.1) (fun a => Rs.bind (Rs.bind (Rs.ok (2 : Int)) (fun a => Rs.bind (Rs.bind (Rs.ok (840 : Int)) (fun a => Rs.bind (Rs.ok ([] : List Int)) (fun g => Rs.ok (a :: g)))) (fun g => Rs.ok (a :: g)))) (fun g => Rs.ok (a :: g)))) Rs.ok) (fun x => Rs.bind (Rs.ok γ.2.2.1) (fun y => repI x y))) (fun a => Rs.bind (Rs.ok ()) (fun g => Rs.ok (a, g)))) (fun g => Rs.ok (a, g)))) m_law_draws) (fun a => Rs.ok (a, γ.1, γ.2.2.1, γ.2.2.2.1, γ.2.2.2.2.1, γ.2.2.2.2.2.1, ()))) (fun γ => Rs.bind (Rs.bind (Rs.bind (Rs.bind (Rs.ok γ.2.2.1) (fun n => Rng 0 n)) (fun xs => if xs.length ≤ 16777216 then Rs.comp (fun x => Rs.ok true) (fun x => m_law_sheets_e1 (x, (γ.1, ()))) xs else Rs.no)) (fun a => Rs.ok (a, γ.1, γ.2.1, γ.2.2.1, γ.2.2.2.1, γ.2.2.2.2.1, γ.2.2.2.2.2.1, ()))) (fun γ => Rs.bind (Rs.bind (Rs.bind (Rs.ok γ.2.2.1) (fun x => Rs.bind (Rs.ok (2 : Int)) (fun y => Rs.ok (decide (x < y))))) (fun b => if b = true then Rs.bind (Rs.bind (Rs.bind (Rs.bind (Rs.bind (Rs.ok (0 : Int)) (fun a => Rs.bind (Rs.ok ([] : List Int)) (fun g => Rs.ok (a :: g)))) Rs.ok) (fun x => Rs.bind (Rs.ok γ.2.2.2.1) (fun y => repI x y))) (fun a => Rs.ok (a, γ.2.1, γ.2.2.1, γ.2.2.2.1, γ.2.2.2.2.1, γ.2.2.2.2.2.1, γ.2.2.2.2.2.2.1, ()))) (fun γ => Rs.ok (γ.1, γ.2.1, γ.2.2.1, γ.2.2.2.1, γ.2.2.2.2.1, γ.2.2.2.2.2.1, γ.2.2.2.2.2.2.1, ())) else Rs.ok (γ.1, γ.2.1, γ.2.2.1, γ.2.2.2.1, γ.2.2.2.2.1, γ.2.2.2.2.2.1, γ.2.2.2.2.2.2.1, ()))) (fun γ => Rs.bind (Rs.bind (Rs.bind (Rs.ok γ.2.2.1) (fun x => Rs.bind (Rs.ok (2 : Int)) (fun y => Rs.ok (decide (x = y))))) (fun b => if b = true then Rs.bind (Rs.bind (Rs.bind (Rs.bind (Rs.ok γ.2.2.2.1) (fun n => Rng 0 n)) (fun xs => if xs.length ≤ 16777216 then Rs.comp (fun x => Rs.ok true) (fun x => m_law_sheets_e2 (x, (γ.2.1, γ.2.2.2.2.1, ()))) xs else Rs.no)) (fun a => Rs.ok (a, γ.2.1, γ.2.2.1, γ.2.2.2.1, γ.2.2.2.2.1, γ.2.2.2.2.2.1, γ.2.2.2.2.2.2.1, ()))) (fun γ => Rs.ok (γ.1, γ.2.1, γ.2.2.1, γ.2.2.2.1, γ.2.2.2.2.1, γ.2.2.2.2.2.1, γ.2.2.2.2.2.2.1, ())) else Rs.ok (γ.1, γ.2.1, γ.2.2.1, γ.2.2.2.1, γ.2.2.2.2.1, γ.2.2.2.2.2.1, γ.2.2.2.2.2.2.1, ()))) (fun γ => Rs.bind (Rs.bind (Rs.bind (Rs.ok γ.2.2.1) (fun x => Rs.bind (Rs.ok (3 : Int)) (fun y => Rs.ok (decide (x = y))))) (fun b => if b = true then Rs.bind (Rs.bind (Rs.bind (Rs.bind (Rs.ok γ.2.2.2.1) (fun n => Rng 0 n)) (fun xs => if xs.length ≤ 16777216 then Rs.comp (fun x => Rs.ok true) (fun x => m_law_sheets_e3 (x, (γ.2.2.2.1, γ.2.2.2.2.1, ()))) xs else Rs.no)) (fun a => Rs.ok (a, γ.2.1, γ.2.2.1, γ.2.2.2.1, γ.2.2.2.2.1, γ.2.2.2.2.2.1, γ.2.2.2.2.2.2.1, ()))) (fun γ => Rs.ok (γ.1, γ.2.1, γ.2.2.2.1, γ.2.2.2.2.1, γ.2.2.2.2.2.1, γ.2.2.2.2.2.2.1, ())) else Rs.ok (γ.1, γ.2.1, γ.2.2.2.1, γ.2.2.2.2.1, γ.2.2.2.2.2.1, γ.2.2.2.2.2.2.1, ()))) (fun γ => Rs.bind (Rs.bind (Rs.bind (Rs.bind (Rs.ok γ.2.2.2.1) (fun x => Rs.bind (Rs.ok (3 : Int)) (fun y => getI x y))) (fun x => Rs.bind (Rs.ok (6 : Int)) (fun y => Rs.ok (x - y)))) (fun a => Rs.ok (a, γ.1, γ.2.1, γ.2.2.1, γ.2.2.2.1, γ.2.2.2.2.1, γ.2.2.2.2.2.1, ()))) (fun γ => Rs.bind (Rs.bind (Rs.bind (Rs.bind (Rs.ok γ.2.2.2.2.1) (fun x => Rs.bind (Rs.ok (2 : Int)) (fun y => getI x y))) (fun x => Rs.bind (Rs.ok (0 : Int)) (fun y => Rs.ok (decide (x = y))))) (fun b => if b = true then Rs.bind (Rs.bind (Rs.bind (Rs.ok (900 : Int)) (fun x => Rs.bind (Rs.bind (Rs.ok (1800 : Int)) (fun x => Rs.bind (Rs.bind (Rs.bind (Rs.ok γ.2.2.2.2.1) (fun x => Rs.bind (Rs.ok (3 : Int)) (fun y => getI x y))) (fun x => Rs.bind (Rs.ok (7 : Int)) (fun y => if CDiv x y then Rs.ok (x / y) else Rs.no))) (fun y => if CMul x y then Rs.ok (x * y) else Rs.no))) (fun y => Rs.ok (x - y)))) (fun a => Rs.ok (a, γ.2.1, γ.2.2.1, γ.2.2.2.1, γ.2.2.2.2.1, γ.2.2.2.2.2.1, γ.2.2.2.2.2.2.1, ()))) (fun γ => Rs.ok (γ.1, γ.2.1, γ.2.2.1, γ.2.2.2.1, γ.2.2.2.2.1, γ.2.2.2.2.2.1, γ.2.2.2.2.2.2.1, ())) else Rs.ok (γ.1, γ.2.1, γ.2.2.1, γ.2.2.2.1, γ.2.2.2.2.1, γ.2.2.2.2.2.1, γ.2.2.2.2.2.2.1, ()))) (fun γ => Rs.bind (Rs.bind (Rs.bind (Rs.bind (Rs.bind (Rs.bind (Rs.ok γ.2.2.2.2.2.1) (fun a => Rs.bind (Rs.bind (Rs.ok (2 : Int)) (fun a => Rs.bind (Rs.ok ()) (fun g => Rs.ok (a, g)))) (fun g => Rs.ok (a, g)))) m_law_given) (fun a => Rs.bind (Rs.bind (Rs.bind (Rs.ok γ.2.2.2.1) (fun x => Rs.bind (Rs.ok (1 : Int)) (fun y => Rs.ok (x + y)))) (fun a => Rs.bind (Rs.ok ()) (fun g => Rs.ok (a, g)))) (fun g => Rs.ok (a, g)))) m_law_names) (fun a => Rs.ok (a, γ.1, γ.2.1, γ.2.2.1, γ.2.2.2.1, γ.2.2.2.2.1, γ.2.2.2.2.2.2.1, ()))) (fun γ => Rs.bind (Rs.bind (Rs.bind (Rs.ok γ.2.2.2.2.1) (fun y => RngL 0 y)) (fun a => Rs.ok (a, γ.1, γ.2.1, γ.2.2.1, γ.2.2.2.1, γ.2.2.2.2.1, γ.2.2.2.2.2.1, γ.2.2.2.2.2.2.1, ()))) (fun γ => Rs.bind (Rs.bind (Rs.bind (Rs.bind (Rs.ok γ.2.2.2.2.2.2.2.1) (fun x => Rs.bind (Rs.ok (1 : Int)) (fun y => Rs.ok (decide (x = y))))) (fun b => if b = true then Rs.ok true else Rs.bind (Rs.bind (Rs.ok γ.2.2.2.2.2.2.2.1) (fun x => Rs.bind (Rs.ok (2 : Int)) (fun y => Rs.ok (decide (x = y))))) (fun b => if b = true then Rs.bind (Rs.bind (Rs.ok γ.2.2.2.2.2.2.1) (fun x => Rs.bind (Rs.ok (10 : Int)) (fun y => getI x y))) (fun x => Rs.bind (Rs.ok (1 : Int)) (fun y => Rs.ok (decide (x = y)))) else Rs.ok false))) (fun b => if b = true then Rs.bind (Rs.bind (Rs.bind (Rs.ok (1 : Int)) (fun x => Rs.bind (Rs.bind (Rs.bind (Rs.bind (Rs.ok γ.2.2.2.2.2.2.1) (fun x => Rs.bind (Rs.ok (11 : Int)) (fun y => getI x y))) (fun x => Rs.ok x)) (fun x => Rs.bind (Rs.ok γ.2.2.2.2.2.1) (fun y => if 0 < y then Rs.ok (x % y) else Rs.no))) (fun y => Rs.ok (x + y)))) (fun a => Rs.ok (a, γ.1, γ.2.1, γ.2.2.1, γ.2.2.2.1, γ.2.2.2.2.1, γ.2.2.2.2.2.1, γ.2.2.2.2.2.2.1, γ.2.2.2.2.2.2.2.1, ()))) (fun γ => Rs.bind (Rs.bind (Rs.bind (Rs.bind (Rs.ok γ.2.2.2.2.2.2.1) (fun n => Rng 0 n)) (fun xs => if xs.length ≤ 16777216 then Rs.comp (fun x => Rs.ok true) (fun x => m_law_sheets_e4 (x, (γ.1, γ.2.2.2.2.2.1, ()))) xs else Rs.no)) (fun a => Rs.ok (γ.1, a, γ.2.2.1, γ.2.2.2.1, γ.2.2.2.2.1, γ.2.2.2.2.2.1, γ.2.2.2.2.2.2.1, γ.2.2.2.2.2.2.2.1, γ.2.2.2.2.2.2.2.2.1, ()))) (fun γ => Rs.ok (γ.2.1, γ.2.2.1, γ.2.2.2.1, γ.2.2.2.2.1, γ.2.2.2.2.2.1, γ.2.2.2.2.2.2.1, γ.2.2.2.2.2.2.2.1, γ.2.2.2.2.2.2.2.2.1, ()))) else Rs.ok (γ.1, γ.2.1, γ.2.2.1, γ.2.2.2.1, γ.2.2.2.2.1, γ.2.2.2.2.2.1, γ.2.2.2.2.2.2.1, γ.2.2.2.2.2.2.2.1, ()))) (fun γ => Rs.bind (Rs.bind (Rs.bind (Rs.bind (Rs.ok γ.2.2.2.2.2.2.2.1) (fun x => Rs.bind (Rs.ok (3 : Int)) (fun y => Rs.ok (decide (x = y))))) (fun b => if b = true then Rs.bind (Rs.bind (Rs.ok γ.2.2.2.2.2.2.1) (fun x => Rs.bind (Rs.ok (10 : Int)) (fun y => getI x y))) (fun x => Rs.bind (Rs.ok (0 : Int)) (fun y => Rs.ok (decide (x = y)))) else Rs.ok false)) (fun b => if b = true then Rs.bind (Rs.bind (Rs.bind (Rs.ok (1 : Int)) (fun x => Rs.bind (Rs.bind (Rs.bind (Rs.bind (Rs.ok γ.2.2.2.2.2.2.1) (fun x => Rs.bind (Rs.ok (11 : Int)) (fun y => getI x y))) (fun x => Rs.ok x)) (fun x => Rs.bind (Rs.bind (Rs.ok γ.2.2.2.2.2.1) (fun x => Rs.bind (Rs.ok (3 : Int)) (fun y => Rs.ok (min x y)))) (fun y => if 0 < y then Rs.ok (x % y) else Rs.no))) (fun y => Rs.ok (x + y)))) (fun a => Rs.ok (a, γ.1, γ.2.1, γ.2.2.1, γ.2.2.2.1, γ.2.2.2.2.1, γ.2.2.2.2.2.1, ()))) (fun γ => Rs.bind (Rs.bind (Rs.bind (Rs.bind (Rs.ok γ.2.2.2.2.2.2.1) (fun n => Rng 0 n)) (fun xs => if xs.length ≤ 16777216 then Rs.comp (fun x => Rs.ok true) (fun x => m_law_sheets_e5 (x, (γ.1, γ.2.2.2.2.2.1, ()))) xs else Rs.no)) (fun a => Rs.ok (γ.1, a, γ.2.2.1, γ.2.2.2.1, γ.2.2.2.2.1, γ.2.2.2.2.2.1, γ.2.2.2.2.2.2.1, ()))) (fun γ => Rs.ok (γ.2.1, γ.2.2.1, γ.2.2.2.1, γ.2.2.2.2.1, γ.2.2.2.2.2.2.1, ()))) else Rs.ok (γ.1, γ.2.1, γ.2.2.1, γ.2.2.2.1, γ.2.2.2.2.2.1, ()))) (fun γ => m_law_sheets_b8 (γ.1, γ.2.1, γ.2.2.1, γ.2.2.2.1, γ.2.2.2.2.1, ())))))))))))))))))))
noncomputable def m_law_width : Ctx.T [.bo 0 (List Int)] → Rs Int := fun γ => Rs.bind (Rs.bind (Rs.bind (Rs.ok γ.1) (fun x => Rs.bind (Rs.ok (0 : Int)) (fun y => getI x y))) (fun x => Rs.bind (Rs.ok (1 : Int)) (fun y => Rs.ok (decide (y < x))))) (fun b => if b = true then Rs.bind (Rs.ok (1 : Int)) (fun x => Rs.bind (Rs.bind (Rs.ok γ.1) (fun x => Rs.bind (Rs.ok (1 : Int)) (fun y => getI x y))) (fun y => Rs.ok (x + y))) else Rs.ok (1 : Int))
noncomputable def m_law_moved_l1 : Ctx.T [.fz 4 Int, .ow 3 (List (Int × Str)), .bo 0 (List (Int × Str)), .fz 1 Int, .bo 2 (List Int)] → Rs (Ctx.T [.ow 3 (List (Int × Str)), .bo 0 (List (Int × Str)), .fz 1 Int, .bo 2 (List Int)]) := fun γ => Rs.bind (Rs.bind (Rs.bind (Rs.bind (Rs.bind (Rs.bind (Rs.ok γ.2.2.1) (fun x => Rs.bind (Rs.ok γ.2.2.2.1) (fun y => getI x y))) (fun x => Rs.ok x.1)) (fun x => Rs.bind (Rs.ok (1 : Int)) (fun y => Rs.ok (x - y)))) (fun x => Rs.bind (Rs.bind (Rs.bind (Rs.ok γ.2.2.1) (fun x => Rs.bind (Rs.ok γ.2.2.2.1) (fun y => getI x y))) (fun x => Rs.ok x.2)) (fun y => Rs.ok (x, y)))) (fun a => Rs.bind (Rs.ok γ.1) (fun k => Rs.bind (setI γ.2.1 k a) (fun ys => Rs.ok (γ.1, ys, γ.2.2.1, γ.2.2.2.1, γ.2.2.2.2.1, ()))))) (fun γ => Rs.ok (γ.2.1, γ.2.2.1, γ.2.2.2.1, γ.2.2.2.2.1, ()))
noncomputable def m_law_moved : Ctx.T [.bo 0 (List (Int × Str)), .fz 1 Int, .bo 2 (List Int)] → Rs (List (Int × Str)) := fun γ => Rs.bind (Rs.bind (Rs.bind (Rs.ok γ.1) (fun x => Rs.ok x)) (fun a => Rs.ok (a, γ.1, γ.2.1, γ.2.2.1, ()))) (fun γ => Rs.bind (Rs.bind (Rs.bind (Rs.bind (Rs.bind (Rs.bind (Rs.ok γ.2.2.1) (fun a => Rs.bind (Rs.ok ([] : List Int)) (fun g => Rs.ok (a :: g)))) Rs.ok) (fun x => Rs.bind (Rs.bind (Rs.ok γ.2.2.2.1) (fun x => Rs.ok x)) (fun y => catI x y))) Rs.ok) (fun xs => Rs.fold (fun γ x => m_law_moved_l1 (x, γ)) γ xs)) (fun γ => Rs.ok γ.1))
noncomputable def m_law_wild_log_t1 : Ctx.T [.fz 12 (Int × Str), .fz 11 Int, .fz 0 (List (Int × Str))] → Rs Bool := fun γ => Rs.bind (Rs.bind (Rs.ok γ.1) (fun x => Rs.ok x.1)) (fun x => Rs.bind (Rs.bind (Rs.bind (Rs.ok γ.2.2.1) (fun x => Rs.bind (Rs.ok γ.2.1) (fun y => getI x y))) (fun x => Rs.ok x.1)) (fun y => Rs.ok (decide (x < y))))
noncomputable def m_law_wild_log_e2 : Ctx.T [.fz 12 (Int × Str), .fz 11 Int, .fz 0 (List (Int × Str))] → Rs (Int × Str) := fun γ => Rs.ok γ.1
noncomputable def m_law_wild_log_t3 : Ctx.T [.fz 11 Int, .fz 0 (List (Int × Str))] → Rs Bool := fun γ => Rs.bind (Rs.bind (Rs.bind (Rs.bind (Rs.ok γ.2.1) Rs.ok) (fun xs => if xs.length ≤ 16777216 then Rs.comp (fun x => m_law_wild_log_t1 (x, (γ.1, γ.2.1, ()))) (fun x => m_law_wild_log_e2 (x, (γ.1, γ.2.1, ()))) xs else Rs.no)) (fun x => Rs.ok (x.length : Int))) (fun x => Rs.bind (Rs.ok (0 : Int)) (fun y => Rs.ok (decide (y < x))))
noncomputable def m_law_wild_log_e4 : Ctx.T [.fz 11 Int, .fz 0 (List (Int × Str))] → Rs Int := fun γ => Rs.ok γ.1
noncomputable def m_law_wild_log_t5 : Ctx.T [.fz 11 Int, .fz 8 Int, .fz 0 (List (Int × Str))] → Rs Bool := fun γ => Rs.bind (Rs.bind (Rs.bind (Rs.ok γ.2.2.1) (fun x => Rs.bind (Rs.ok γ.1) (fun y => getI x y))) (fun x => Rs.ok x.1)) (fun x => Rs.bind (Rs.bind (Rs.bind (Rs.ok γ.2.2.1) (fun x => Rs.bind (Rs.ok γ.2.1) (fun y => getI x y))) (fun x => Rs.ok x.1)) (fun y => Rs.ok (decide (x < y))))
noncomputable def m_law_wild_log_e6 : Ctx.T [.fz 11 Int, .fz 8 Int, .fz 0 (List (Int × Str))] → Rs Int := fun γ => Rs.ok γ.1
noncomputable def m_law_wild_log_t7 : Ctx.T [.fz 11 Int, .ow 9 (List Int), .ow 6 (List Int)] → Rs Bool := fun γ => Rs.bind (Rs.bind (Rs.ok γ.2.2.1) (fun x => Rs.bind (Rs.bind (Rs.ok (2 : Int)) (fun x => Rs.bind (Rs.ok γ.1) (fun y => Rs.ok (x + y)))) (fun y => getI x y))) (fun x => Rs.bind (Rs.ok (1 : Int)) (fun y => Rs.ok (decide (x = y))))
noncomputable def m_law_wild_log_e8 : Ctx.T [.fz 11 Int, .ow 9 (List Int), .ow 6 (List Int)] → Rs Int := fun γ => Rs.bind (Rs.ok γ.2.1) (fun x => Rs.bind (Rs.ok γ.1) (fun y => getI x y))
noncomputable def m_law_wild_log_l9 : Ctx.T [.fz 5 Int, .ow 4 (List (Int × (Tup Int))), .fz 0 (List (Int × Str)), .bo 1 (List Int), .fz 2 Int, .fz 3 Int] → Rs (Ctx.T [.ow 4 (List (Int × (Tup Int))), .fz 0 (List (Int × Str)), .bo 1 (List Int), .fz 2 Int, .fz 3 Int] ⊕ (List (Int × (Tup Int)))) := fun γ => Rs.bind (Rs.bind (Rs.bind (Rs.bind (Rs.ok γ.1) (fun a => Rs.bind (Rs.bind (Rs.bind (Rs.bind (Rs.bind (Rs.ok (64 : Int)) (fun a => Rs.bind (Rs.bind (Rs.ok (3 : Int)) (fun a => Rs.bind (Rs.ok ([] : List Int)) (fun g => Rs.ok (a :: g)))) (fun g => Rs.ok (a :: g)))) Rs.ok) (fun x => Rs.bind (Rs.bind (Rs.bind (Rs.bind (Rs.ok (2 : Int)) (fun a => Rs.bind (Rs.ok ([] : List Int)) (fun g => Rs.ok (a :: g)))) Rs.ok) (fun x => Rs.bind (Rs.bind (Rs.ok γ.2.2.1) (fun x => Rs.ok (x.length : Int))) (fun y => repI x y))) (fun y => catI x y))) (fun a => Rs.bind (Rs.ok ()) (fun g => Rs.ok (a, g)))) (fun g => Rs.ok (a, g)))) m_law_draws) (fun a => Rs.ok (a, γ.2.1, γ.2.2.1, γ.2.2.2.1, γ.2.2.2.2.1, γ.2.2.2.2.2.1, ()))) (fun γ => Rs.bind (Rs.bind (Rs.bind (Rs.bind (Rs.bind (Rs.ok γ.2.2.1) (fun x => Rs.ok (x.length : Int))) (fun n => Rng 0 n)) (fun xs => if xs.length ≤ 16777216 then Rs.comp (fun x => m_law_wild_log_t3 (x, (γ.2.2.1, ()))) (fun x => m_law_wild_log_e4 (x, (γ.2.2.1, ()))) xs else Rs.no)) (fun a => Rs.ok (a, γ.1, γ.2.1, γ.2.2.1, γ.2.2.2.1, γ.2.2.2.2.1, γ.2.2.2.2.2.1, ()))) (fun γ => Rs.bind (Rs.bind (Rs.bind (Rs.bind (Rs.ok γ.1) (fun x => Rs.ok (x.length : Int))) (fun x => Rs.bind (Rs.ok (0 : Int)) (fun y => Rs.ok (decide (x = y))))) (fun b => if b = true then Rs.ok true else Rs.bind (Rs.bind (Rs.ok γ.2.2.1) (fun x => Rs.ok (x.length : Int))) (fun x => Rs.bind (Rs.ok γ.2.2.2.2.2.2.1) (fun y => Rs.ok (decide (y ≤ x)))))) (fun b => if b = true then Rs.bind (Rs.ok γ.2.2.1) (fun z => Rs.ok (.inr z)) else Rs.bind (Rs.bind (Rs.bind (Rs.ok γ.1) (fun x => Rs.bind (Rs.bind (Rs.bind (Rs.bind (Rs.ok γ.2.1) (fun x => Rs.bind (Rs.ok (0 : Int)) (fun y => getI x y))) (fun x => Rs.ok x)) (fun x => Rs.bind (Rs.bind (Rs.ok γ.1) (fun x => Rs.ok (x.length : Int))) (fun y => if 0 < y then Rs.ok (x % y) else Rs.no))) (fun y => getI x y))) (fun a => Rs.ok (a, γ.2.1, γ.2.2.1, γ.2.2.2.1, γ.2.2.2.2.1, γ.2.2.2.2.2.1, γ.2.2.2.2.2.2.1, ()))) (fun γ => Rs.bind (Rs.bind (Rs.bind (Rs.bind (Rs.bind (Rs.ok γ.2.2.2.1) (fun x => Rs.ok (x.length : Int))) (fun n => Rng 0 n)) (fun xs => if xs.length ≤ 16777216 then Rs.comp (fun x => m_law_wild_log_t5 (x, (γ.1, γ.2.2.2.1, ()))) (fun x => m_law_wild_log_e6 (x, (γ.1, γ.2.2.2.1, ()))) xs else Rs.no)) (fun a => Rs.ok (a, γ.1, γ.2.1, γ.2.2.1, γ.2.2.2.1, γ.2.2.2.2.1, γ.2.2.2.2.2.1, γ.2.2.2.2.2.2.1, ()))) (fun γ => Rs.bind (Rs.bind (Rs.bind (Rs.bind (Rs.bind (Rs.ok γ.1) (fun x => Rs.ok (x.length : Int))) (fun n => Rng 0 n)) (fun xs => if xs.length ≤ 16777216 then Rs.comp (fun x => m_law_wild_log_t7 (x, (γ.1, γ.2.2.1, ()))) (fun x => m_law_wild_log_e8 (x, (γ.1, γ.2.2.1, ()))) xs else Rs.no)) (fun a => Rs.ok (a, γ.1, γ.2.1, γ.2.2.1, γ.2.2.2.1, γ.2.2.2.2.1, γ.2.2.2.2.2.1, γ.2.2.2.2.2.2.1, γ.2.2.2.2.2.2.2.1, ()))) (fun γ => Rs.bind (Rs.bind (Rs.bind (Rs.ok γ.1) (fun x => Rs.bind (Rs.ok none) (fun l => Rs.bind (Rs.bind (Rs.bind (Rs.ok (1 : Int)) (fun x => Rs.bind (Rs.bind (Rs.bind (Rs.bind (Rs.ok γ.2.2.2.1) (fun x => Rs.bind (Rs.ok (1 : Int)) (fun y => getI x y))) (fun x => Rs.bind (Rs.bind (Rs.ok γ.2.2.2.2.2.2.2.1) (fun x => Rs.bind (Rs.ok (1 : Int)) (fun y => Rs.ok (x - y)))) (fun y => if CMul x y then Rs.ok (x * y) else Rs.no))) (fun x => Rs.bind (Rs.ok (2 : Int)) (fun y => if CDiv x y then Rs.ok (x / y) else Rs.no))) (fun y => Rs.ok (x + y)))) (fun i => Rs.ok (some i))) (fun h => Rs.ok (cutI x l h))))) (fun a => Rs.ok (a, γ.2.1, γ.2.2.1, γ.2.2.2.1, γ.2.2.2.2.1, γ.2.2.2.2.2.1, γ.2.2.2.2.2.2.1, γ.2.2.2.2.2.2.2.1, γ.2.2.2.2.2.2.2.2.1, ()))) (fun γ => Rs.bind (Rs.bind (Rs.bind (Rs.bind (Rs.ok γ.1) (fun x => Rs.ok (x.length : Int))) (fun x => Rs.bind (Rs.ok (0 : Int)) (fun y => Rs.ok (decide (x = y))))) (fun b => if b = true then Rs.bind (Rs.bind (Rs.bind (Rs.bind (Rs.bind (Rs.ok γ.2.1) (fun x => Rs.bind (Rs.bind (Rs.bind (Rs.bind (Rs.bind (Rs.ok γ.2.2.2.1) (fun x => Rs.bind (Rs.ok (0 : Int)) (fun y => getI x y))) (fun x => Rs.bind (Rs.ok (8 : Int)) (fun y => if CDiv x y then Rs.ok (x / y) else Rs.no))) (fun x => Rs.ok x)) (fun x => Rs.bind (Rs.bind (Rs.ok γ.2.1) (fun x => Rs.ok (x.length : Int))) (fun y => if 0 < y then Rs.ok (x % y) else Rs.no))) (fun y => getI x y))) (fun a => Rs.bind (Rs.ok ([] : List Int)) (fun g => Rs.ok (a :: g)))) Rs.ok) (fun a => Rs.ok (a, γ.2.1, γ.2.2.1, γ.2.2.2.1, γ.2.2.2.2.1, γ.2.2.2.2.2.1, γ.2.2.2.2.2.2.1, γ.2.2.2.2.2.2.2.1, γ.2.2.2.2.2.2.2.2.1, ()))) (fun γ => Rs.ok (γ.1, γ.2.2.1, γ.2.2.2.2.1, γ.2.2.2.2.2.1, γ.2.2.2.2.2.2.1, γ.2.2.2.2.2.2.2.1, γ.2.2.2.2.2.2.2.2.1, ())) else Rs.ok (γ.1, γ.2.2.1, γ.2.2.2.2.1, γ.2.2.2.2.2.1, γ.2.2.2.2.2.2.1, γ.2.2.2.2.2.2.2.1, γ.2.2.2.2.2.2.2.2.1, ()))) (fun γ => Rs.bind (Rs.bind (Rs.bind (Rs.ok γ.2.1) (fun x => Rs.bind (Rs.bind (Rs.ok γ.1) (fun x => Rs.ok (Tup.mk x))) (fun y => Rs.ok (x, y)))) (fun a => Rs.bind (appI γ.2.2.1 a) (fun ys => Rs.ok (γ.1, γ.2.1, ys, γ.2.2.2.1, γ.2.2.2.2.1, γ.2.2.2.2.2.1, γ.2.2.2.2.2.2.1, ())))) (fun γ => Rs.bind (Rs.bind (Rs.bind (Rs.bind (Rs.ok γ.2.2.2.1) (fun a => Rs.bind (Rs.bind (Rs.ok γ.2.1) (fun a => Rs.bind (Rs.bind (Rs.ok γ.1) (fun a => Rs.bind (Rs.ok ()) (fun g => Rs.ok (a, g)))) (fun g => Rs.ok (a, g)))) (fun g => Rs.ok (a, g)))) m_law_moved) (fun a => Rs.ok (γ.1, γ.2.1, γ.2.2.1, a, γ.2.2.2.2.1, γ.2.2.2.2.2.1, γ.2.2.2.2.2.2.1, ()))) (fun γ => Rs.ok (.inl (γ.2.2.1, γ.2.2.2.1, γ.2.2.2.2.1, γ.2.2.2.2.2.1, γ.2.2.2.2.2.2.1, ()))))))))))))
noncomputable def m_law_wild_log_b10 : Ctx.T [.ow 4 (List (Int × (Tup Int))), .fz 0 (List (Int × Str)), .bo 1 (List Int), .fz 2 Int, .fz 3 Int] → Rs (List (Int × (Tup Int))) := fun γ => Rs.ok γ.1
noncomputable def m_law_wild_log : Ctx.T [.fz 0 (List (Int × Str)), .bo 1 (List Int), .fz 2 Int, .fz 3 Int] → Rs (List (Int × (Tup Int))) := fun γ => Rs.bind (Rs.bind (Rs.bind (Rs.ok ([] : List (Int × (Tup Int)))) Rs.ok) (fun a => Rs.ok (a, γ.1, γ.2.1, γ.2.2.1, γ.2.2.2.1, ()))) (fun γ => Rs.left (Rs.bind (Rs.ok γ.2.2.1) (fun xs => Rs.foldR (fun γ x => m_law_wild_log_l9 (x, γ)) γ xs)) m_law_wild_log_b10)
noncomputable def m_law_moved_v2_l1 : Ctx.T [.fz 4 Int, .ow 3 (List (Int × Str)), .bo 0 (List (Int × Str)), .fz 1 Int, .fz 2 (Tup Int)] → Rs (Ctx.T [.ow 3 (List (Int × Str)), .bo 0 (List (Int × Str)), .fz 1 Int, .fz 2 (Tup Int)]) := fun γ => Rs.bind (Rs.bind (Rs.bind (Rs.bind (Rs.bind (Rs.bind (Rs.ok γ.2.2.1) (fun x => Rs.bind (Rs.ok γ.2.2.2.1) (fun y => getI x y))) (fun x => Rs.ok x.1)) (fun x => Rs.bind (Rs.ok (1 : Int)) (fun y => Rs.ok (x - y)))) (fun x => Rs.bind (Rs.bind (Rs.bind (Rs.ok γ.2.2.1) (fun x => Rs.bind (Rs.ok γ.2.2.2.1) (fun y => getI x y))) (fun x => Rs.ok x.2)) (fun y => Rs.ok (x, y)))) (fun a => Rs.bind (Rs.ok γ.1) (fun k => Rs.bind (setI γ.2.1 k a) (fun ys => Rs.ok (γ.1, ys, γ.2.2.1, γ.2.2.2.1, γ.2.2.2.2.1, ()))))) (fun γ => Rs.ok (γ.2.1, γ.2.2.1, γ.2.2.2.1, γ.2.2.2.2.1, ()))
noncomputable def m_law_moved_v2 : Ctx.T [.bo 0 (List (Int × Str)), .fz 1 Int, .fz 2 (Tup Int)] → Rs (List (Int × Str)) := fun γ => Rs.bind (Rs.bind (Rs.bind (Rs.ok γ.1) (fun x => Rs.ok x)) (fun a => Rs.ok (a, γ.1, γ.2.1, γ.2.2.1, ()))) (fun γ => Rs.bind (Rs.bind (Rs.bind (Rs.bind (Rs.bind (Rs.bind (Rs.ok γ.2.2.1) (fun a => Rs.bind (Rs.ok ([] : List Int)) (fun g => Rs.ok (a :: g)))) Rs.ok) (fun x => Rs.bind (Rs.bind (Rs.ok γ.2.2.2.1) (fun x => Rs.ok x.items)) (fun y => catI x y))) Rs.ok) (fun xs => Rs.fold (fun γ x => m_law_moved_v2_l1 (x, γ)) γ xs)) (fun γ => Rs.ok γ.1))
noncomputable def m_law_walk_l1 : Ctx.T [.fz 3 (Int × (Tup Int)), .ow 2 (List (List (Int × Str))), .fz 0 (List (Int × Str)), .bo 1 (List (Int × (Tup Int)))] → Rs (Ctx.T [.ow 2 (List (List (Int × Str))), .fz 0 (List (Int × Str)), .bo 1 (List (Int × (Tup Int)))]) := fun γ => Rs.bind (Rs.bind (Rs.bind (Rs.bind (Rs.ok γ.2.2.1) (fun a => Rs.bind (Rs.bind (Rs.bind (Rs.ok γ.1) (fun x => Rs.ok x.1)) (fun a => Rs.bind (Rs.bind (Rs.bind (Rs.ok γ.1) (fun x => Rs.ok x.2)) (fun a => Rs.bind (Rs.ok ()) (fun g => Rs.ok (a, g)))) (fun g => Rs.ok (a, g)))) (fun g => Rs.ok (a, g)))) m_law_moved_v2) (fun a => Rs.ok (γ.1, γ.2.1, a, γ.2.2.2.1, ()))) (fun γ => Rs.bind (Rs.bind (Rs.ok γ.2.2.1) (fun a => Rs.bind (appI γ.2.1 a) (fun ys => Rs.ok (γ.1, ys, γ.2.2.1, γ.2.2.2.1, ())))) (fun γ => Rs.ok (γ.2.1, γ.2.2.1, γ.2.2.2.1, ())))
noncomputable def m_law_walk : Ctx.T [.fz 0 (List (Int × Str)), .bo 1 (List (Int × (Tup Int)))] → Rs (List (List (Int × Str))) := fun γ => Rs.bind (Rs.bind (Rs.bind (Rs.bind (Rs.ok γ.1) (fun a => Rs.bind (Rs.ok ([] : List (List (Int × Str)))) (fun g => Rs.ok (a :: g)))) Rs.ok) (fun a => Rs.ok (a, γ.1, γ.2.1, ()))) (fun γ => Rs.bind (Rs.bind (Rs.ok γ.2.2.1) (fun xs => Rs.fold (fun γ x => m_law_walk_l1 (x, γ)) γ xs)) (fun γ => Rs.ok γ.1))
noncomputable def m_law_finished_e1 : Ctx.T [.fz 10 (Int × Str)] → Rs Int := fun γ => Rs.bind (Rs.ok γ.1) (fun x => Rs.ok x.1)
noncomputable def m_law_finished_t2 : Ctx.T [.fz 9 Int, .fz 5 Int, .fz 0 (List (Int × Str))] → Rs Bool := fun γ => Rs.bind (Rs.bind (Rs.bind (Rs.ok γ.2.2.1) (fun x => Rs.bind (Rs.ok γ.1) (fun y => getI x y))) (fun x => Rs.ok x.1)) (fun x => Rs.bind (Rs.ok γ.2.1) (fun y => Rs.ok (decide (x < y))))
noncomputable def m_law_finished_e3 : Ctx.T [.fz 9 Int, .fz 5 Int, .fz 0 (List (Int × Str))] → Rs Int := fun γ => Rs.ok γ.1
noncomputable def m_law_finished_t4 : Ctx.T [.fz 9 Int, .fz 5 Int, .fz 0 (List (Int × Str))] → Rs Bool := fun γ => Rs.bind (Rs.bind (Rs.bind (Rs.ok γ.2.2.1) (fun x => Rs.bind (Rs.ok γ.1) (fun y => getI x y))) (fun x => Rs.ok x.1)) (fun x => Rs.bind (Rs.ok γ.2.1) (fun y => Rs.ok (decide (x = y))))
noncomputable def m_law_finished_e5 : Ctx.T [.fz 9 Int, .fz 5 Int, .fz 0 (List (Int × Str))] → Rs Int := fun γ => Rs.ok γ.1
noncomputable def m_law_finished_l6 : Ctx.T [.fz 4 Int, .ow 3 (List (Int × (Tup Int))), .fz 0 (List (Int × Str)), .fz 2 Int] → Rs (Ctx.T [.ow 3 (List (Int × (Tup Int))), .fz 0 (List (Int × Str)), .fz 2 Int] ⊕ (List (Int × (Tup Int)))) := fun γ => Rs.bind (Rs.bind (Rs.bind (Rs.bind (Rs.bind (Rs.ok γ.2.2.1) Rs.ok) (fun xs => if xs.length ≤ 16777216 then Rs.comp (fun x => Rs.ok true) (fun x => m_law_finished_e1 (x, (()))) xs else Rs.no)) maxI) (fun a => Rs.ok (a, γ.1, γ.2.1, γ.2.2.1, γ.2.2.2.1, ()))) (fun γ => Rs.bind (Rs.bind (Rs.bind (Rs.bind (Rs.bind (Rs.ok γ.2.2.2.1) (fun x => Rs.ok (x.length : Int))) (fun n => Rng 0 n)) (fun xs => if xs.length ≤ 16777216 then Rs.comp (fun x => m_law_finished_t2 (x, (γ.1, γ.2.2.2.1, ()))) (fun x => m_law_finished_e3 (x, (γ.1, γ.2.2.2.1, ()))) xs else Rs.no)) (fun a => Rs.ok (a, γ.1, γ.2.1, γ.2.2.1, γ.2.2.2.1, γ.2.2.2.2.1, ()))) (fun γ => Rs.bind (Rs.bind (Rs.bind (Rs.ok γ.1) (fun x => Rs.ok (x.length : Int))) (fun x => Rs.bind (Rs.ok (0 : Int)) (fun y => Rs.ok (decide (x = y))))) (fun b => if b = true then Rs.bind (Rs.ok γ.2.2.2.1) (fun z => Rs.ok (.inr z)) else Rs.bind (Rs.bind (Rs.bind (Rs.bind (Rs.bind (Rs.bind (Rs.ok γ.2.2.2.2.1) (fun x => Rs.ok (x.length : Int))) (fun n => Rng 0 n)) (fun xs => if xs.length ≤ 16777216 then Rs.comp (fun x => m_law_finished_t4 (x, (γ.2.1, γ.2.2.2.2.1, ()))) (fun x => m_law_finished_e5 (x, (γ.2.1, γ.2.2.2.2.1, ()))) xs else Rs.no)) (fun x => Rs.bind (Rs.ok (0 : Int)) (fun y => getI x y))) (fun a => Rs.ok (a, γ.1, γ.2.2.1, γ.2.2.2.1, γ.2.2.2.2.1, γ.2.2.2.2.2.1, ()))) (fun γ => Rs.bind (Rs.bind (Rs.bind (Rs.ok γ.2.1) (fun x => Rs.bind (Rs.bind (Rs.bind (Rs.bind (Rs.ok γ.2.2.2.2.2.1) (fun x => Rs.bind (Rs.bind (Rs.ok (7 : Int)) (fun x => Rs.bind (Rs.ok γ.2.2.1) (fun y => if CMul x y then Rs.ok (x * y) else Rs.no))) (fun y => Rs.ok (x + y)))) (fun x => Rs.ok x)) (fun x => Rs.bind (Rs.bind (Rs.ok γ.2.1) (fun x => Rs.ok (x.length : Int))) (fun y => if 0 < y then Rs.ok (x % y) else Rs.no))) (fun y => getI x y))) (fun a => Rs.ok (a, γ.1, γ.2.2.2.1, γ.2.2.2.2.1, γ.2.2.2.2.2.1, ()))) (fun γ => Rs.bind (Rs.bind (Rs.bind (Rs.ok γ.2.1) (fun x => Rs.bind (Rs.bind (Rs.bind (Rs.ok γ.1) (fun a => Rs.bind (Rs.ok ([] : List Int)) (fun g => Rs.ok (a :: g)))) (fun a => Rs.ok (Tup.mk a))) (fun y => Rs.ok (x, y)))) (fun a => Rs.bind (appI γ.2.2.1 a) (fun ys => Rs.ok (γ.1, γ.2.1, ys, γ.2.2.2.1, γ.2.2.2.2.1, ())))) (fun γ => Rs.bind (Rs.bind (Rs.bind (Rs.bind (Rs.ok γ.2.2.2.1) (fun a => Rs.bind (Rs.bind (Rs.ok γ.2.1) (fun a => Rs.bind (Rs.bind (Rs.bind (Rs.bind (Rs.ok γ.1) (fun a => Rs.bind (Rs.ok ([] : List Int)) (fun g => Rs.ok (a :: g)))) Rs.ok) (fun a => Rs.bind (Rs.ok ()) (fun g => Rs.ok (a, g)))) (fun g => Rs.ok (a, g)))) (fun g => Rs.ok (a, g)))) m_law_moved) (fun a => Rs.ok (γ.1, γ.2.1, γ.2.2.1, a, γ.2.2.2.2.1, ()))) (fun γ => Rs.ok (.inl (γ.2.2.1, γ.2.2.2.1, γ.2.2.2.2.1, ())))))))))
noncomputable def m_law_finished_b7 : Ctx.T [.ow 3 (List (Int × (Tup Int))), .fz 0 (List (Int × Str)), .fz 2 Int] → Rs (List (Int × (Tup Int))) := fun γ => Rs.ok γ.1
noncomputable def m_law_finished : Ctx.T [.fz 0 (List (Int × Str)), .bo 1 (List (Int × (Tup Int))), .fz 2 Int] → Rs (List (Int × (Tup Int))) := fun γ => Rs.bind (Rs.bind (Rs.bind (Rs.ok γ.2.1) (fun x => Rs.ok x)) (fun a => Rs.ok (a, γ.1, γ.2.2.1, ()))) (fun γ => Rs.left (Rs.bind (Rs.bind (Rs.ok (1600 : Int)) (fun n => Rng 0 n)) (fun xs => Rs.foldR (fun γ x => m_law_finished_l6 (x, γ)) γ xs)) m_law_finished_b7)
noncomputable def m_law_shares_l1 : Ctx.T [.fz 2 (Int × Str), .ow 1 (Dct Str Int), .bo 0 (List (Int × Str))] → Rs (Ctx.T [.ow 1 (Dct Str Int), .bo 0 (List (Int × Str))]) := fun γ => Rs.bind (Rs.bind (Rs.bind (Rs.bind (Rs.bind (Rs.ok γ.2.1) (fun d => Rs.ok (DV.mk d))) (fun x => Rs.bind (Rs.bind (Rs.ok γ.1) (fun x => Rs.ok x.2)) (fun y => Rs.bind (Rs.ok (0 : Int)) (fun z => Rs.ok ((x.d.get? y).getD z))))) (fun x => Rs.bind (Rs.ok (1 : Int)) (fun y => Rs.ok (x + y)))) (fun a => Rs.bind (Rs.bind (Rs.ok γ.1) (fun x => Rs.ok x.2)) (fun k => Rs.bind (dputR γ.2.1 k a) (fun ys => Rs.ok (γ.1, ys, γ.2.2.1, ()))))) (fun γ => Rs.ok (γ.2.1, γ.2.2.1, ()))
noncomputable def m_law_shares : Ctx.T [.bo 0 (List (Int × Str))] → Rs (Dct Str Int) := fun γ => Rs.bind (Rs.bind (Rs.ok (⟨[]⟩ : Dct Str Int)) (fun a => Rs.ok (a, γ.1, ()))) (fun γ => Rs.bind (Rs.bind (Rs.ok γ.2.1) (fun xs => Rs.fold (fun γ x => m_law_shares_l1 (x, γ)) γ xs)) (fun γ => Rs.ok γ.1))
noncomputable def m_law_lessened_l1 : Ctx.T [.fz 5 Int, .ow 4 (Dct Str Int), .ow 3 (List Int), .ow 2 (List Str), .bo 0 (DV Str Int)] → Rs (Ctx.T [.ow 4 (Dct Str Int), .ow 3 (List Int), .ow 2 (List Str), .bo 0 (DV Str Int)]) := fun γ => Rs.bind (Rs.bind (Rs.bind (Rs.bind (Rs.ok γ.2.2.1) (fun x => Rs.bind (Rs.bind (Rs.ok (1 : Int)) (fun x => Rs.bind (Rs.bind (Rs.ok (2 : Int)) (fun x => Rs.bind (Rs.ok γ.1) (fun y => if CMul x y then Rs.ok (x * y) else Rs.no))) (fun y => Rs.ok (x + y)))) (fun y => getI x y))) (fun x => Rs.bind (Rs.ok (0 : Int)) (fun y => Rs.ok (decide (x = y))))) (fun b => if b = true then Rs.bind (Rs.bind (Rs.bind (Rs.ok γ.2.2.2.2.1) (fun x => Rs.bind (Rs.bind (Rs.ok γ.2.2.2.1) (fun x => Rs.bind (Rs.ok γ.1) (fun y => getI x y))) (fun y => dgetR x.d y))) (fun a => Rs.bind (Rs.bind (Rs.ok γ.2.2.2.1) (fun x => Rs.bind (Rs.ok γ.1) (fun y => getI x y))) (fun k => Rs.bind (dputR γ.2.1 k a) (fun ys => Rs.ok (γ.1, ys, γ.2.2.1, γ.2.2.2.1, γ.2.2.2.2.1, ()))))) (fun γ => Rs.ok (γ.2.1, γ.2.2.1, γ.2.2.2.1, γ.2.2.2.2.1, ())) else Rs.bind (Rs.bind (Rs.bind (Rs.bind (Rs.bind (Rs.ok γ.2.2.1) (fun x => Rs.bind (Rs.bind (Rs.ok (1 : Int)) (fun x => Rs.bind (Rs.bind (Rs.ok (2 : Int)) (fun x => Rs.bind (Rs.ok γ.1) (fun y => if CMul x y then Rs.ok (x * y) else Rs.no))) (fun y => Rs.ok (x + y)))) (fun y => getI x y))) (fun x => Rs.bind (Rs.ok (3 : Int)) (fun y => Rs.ok (decide (x < y))))) (fun b => if b = true then Rs.ok true else Rs.bind (Rs.bind (Rs.ok γ.2.2.1) (fun x => Rs.bind (Rs.ok (0 : Int)) (fun y => getI x y))) (fun x => Rs.bind (Rs.ok (0 : Int)) (fun y => Rs.ok (decide (x = y)))))) (fun b => if b = true then Rs.bind (Rs.bind (Rs.bind (Rs.bind (Rs.bind (Rs.ok γ.2.2.1) (fun x => Rs.bind (Rs.bind (Rs.ok (2 : Int)) (fun x => Rs.bind (Rs.bind (Rs.ok (2 : Int)) (fun x => Rs.bind (Rs.ok γ.1) (fun y => if CMul x y then Rs.ok (x * y) else Rs.no))) (fun y => Rs.ok (x + y)))) (fun y => getI x y))) (fun x => Rs.ok x)) (fun x => Rs.bind (Rs.bind (Rs.bind (Rs.ok γ.2.2.2.2.1) (fun x => Rs.bind (Rs.bind (Rs.ok γ.2.2.2.1) (fun x => Rs.bind (Rs.ok γ.1) (fun y => getI x y))) (fun y => dgetR x.d y))) (fun x => Rs.bind (Rs.ok (1 : Int)) (fun y => Rs.ok (x + y)))) (fun y => if 0 < y then Rs.ok (x % y) else Rs.no))) (fun a => Rs.bind (Rs.bind (Rs.ok γ.2.2.2.1) (fun x => Rs.bind (Rs.ok γ.1) (fun y => getI x y))) (fun k => Rs.bind (dputR γ.2.1 k a) (fun ys => Rs.ok (γ.1, ys, γ.2.2.1, γ.2.2.2.1, γ.2.2.2.2.1, ()))))) (fun γ => Rs.ok (γ.2.1, γ.2.2.1, γ.2.2.2.1, γ.2.2.2.2.1, ())) else Rs.ok (γ.2.1, γ.2.2.1, γ.2.2.2.1, γ.2.2.2.2.1, ()))) (fun γ => Rs.ok (γ.1, γ.2.1, γ.2.2.1, γ.2.2.2.1, ())))) (fun γ => Rs.ok (γ.1, γ.2.1, γ.2.2.1, γ.2.2.2.1, ()))
noncomputable def m_law_lessened : Ctx.T [.bo 0 (DV Str Int), .fz 1 Int] → Rs (Dct Str Int) := fun γ => Rs.bind (Rs.bind (Rs.bind (Rs.bind (Rs.ok γ.1) (fun x => Rs.ok (x.d.es.map (·.1)))) sortS) (fun a => Rs.ok (a, γ.1, γ.2.1, ()))) (fun γ => Rs.bind (Rs.bind (Rs.bind (Rs.bind (Rs.ok γ.2.2.1) (fun a => Rs.bind (Rs.bind (Rs.bind (Rs.bind (Rs.bind (Rs.ok (3 : Int)) (fun a => Rs.bind (Rs.ok ([] : List Int)) (fun g => Rs.ok (a :: g)))) Rs.ok) (fun x => Rs.bind (Rs.bind (Rs.bind (Rs.bind (Rs.ok (4 : Int)) (fun a => Rs.bind (Rs.bind (Rs.ok (840 : Int)) (fun a => Rs.bind (Rs.ok ([] : List Int)) (fun g => Rs.ok (a :: g)))) (fun g => Rs.ok (a :: g)))) Rs.ok) (fun x => Rs.bind (Rs.bind (Rs.ok γ.1) (fun x => Rs.ok (x.length : Int))) (fun y => repI x y))) (fun y => catI x y))) (fun a => Rs.bind (Rs.ok ()) (fun g => Rs.ok (a, g)))) (fun g => Rs.ok (a, g)))) m_law_draws) (fun a => Rs.ok (a, γ.1, γ.2.1, ()))) (fun γ => Rs.bind (Rs.bind (Rs.ok (⟨[]⟩ : Dct Str Int)) (fun a => Rs.ok (a, γ.1, γ.2.1, γ.2.2.1, ()))) (fun γ => Rs.bind (Rs.bind (Rs.bind (Rs.bind (Rs.ok γ.2.2.1) (fun x => Rs.ok (x.length : Int))) (fun n => Rng 0 n)) (fun xs => Rs.fold (fun γ x => m_law_lessened_l1 (x, γ)) γ xs)) (fun γ => Rs.ok γ.1))))
noncomputable def m_valid_record_l1 : Ctx.T [.fz 1 Str, .fz 0 Str] → Rs (Ctx.T [.fz 0 Str] ⊕ Bool) := fun γ => Rs.bind (Rs.bind (Rs.ok γ.1) (fun x => Rs.bind (Rs.ok ("abcdefghijklmnopqrstuvwxyz0123456789" : Str)) (fun y => notInS x y))) (fun b => if b = true then Rs.bind (Rs.ok false) (fun z => Rs.ok (.inr z)) else Rs.ok (.inl (γ.2.1, ())))
noncomputable def m_valid_record_b2 : Ctx.T [.fz 0 Str] → Rs Bool := fun γ => Rs.ok true
noncomputable def m_valid_record : Ctx.T [.fz 0 Str] → Rs Bool := fun γ => Rs.bind (Rs.bind (Rs.bind (Rs.bind (Rs.ok γ.1) (fun x => Rs.ok (x.length : Int))) (fun x => Rs.bind (Rs.ok (1 : Int)) (fun y => Rs.ok (decide (x < y))))) (fun b => if b = true then Rs.ok true else Rs.bind (Rs.bind (Rs.ok γ.1) (fun x => Rs.ok (x.length : Int))) (fun x => Rs.bind (Rs.ok (8 : Int)) (fun y => Rs.ok (decide (y < x)))))) (fun b => if b = true then Rs.ok false else Rs.left (Rs.bind (Rs.bind (Rs.ok γ.1) (fun x => Rs.ok (chars x))) (fun xs => Rs.foldR (fun γ x => m_valid_record_l1 (x, γ)) γ xs)) m_valid_record_b2)
noncomputable def m_Sheaf_init_l1 : Ctx.T [.fz 3 (Int × Str), .fz 2 Int, .ow 0 (Ini "Sheaf"), .bo 1 (List (Int × Str))] → Rs (Ctx.T [.ow 0 (Ini "Sheaf"), .bo 1 (List (Int × Str))]) := fun γ => Rs.bind (Rs.bind (Rs.bind (Rs.bind (Rs.bind (Rs.bind (Rs.ok γ.1) (fun x => Rs.ok x.2)) (fun a => Rs.bind (Rs.ok ()) (fun g => Rs.ok (a, g)))) m_valid_record) (fun b => Rs.ok (!b))) (fun b => if b = true then Rs.bind (Rs.rai "InvalidSheaf" "index" (Rs.ok γ.2.1) : Rs Unit) (fun _ => Rs.no) else Rs.ok (γ.2.2.1, γ.2.2.2.1, ()))) (fun γ => Rs.ok (γ.1, γ.2.1, ()))
noncomputable def m_Sheaf_init : Ctx.T [.ow 0 (Ini "Sheaf"), .bo 1 (List (Int × Str))] → Rs (Ctx.T [.ow 0 Sheaf]) := fun γ => Rs.bind (Rs.bind (Rs.bind (Rs.bind (Rs.ok γ.2.1) (fun x => Rs.ok (x.length : Int))) (fun x => Rs.bind (Rs.ok (0 : Int)) (fun y => Rs.ok (decide (x = y))))) (fun b => if b = true then Rs.bind (Rs.rai "InvalidSheaf" "index" (Rs.ok (0 : Int)) : Rs Unit) (fun _ => Rs.no) else Rs.ok (γ.1, γ.2.1, ()))) (fun γ => Rs.bind (Rs.bind (Rs.ok (enumI γ.2.1)) (fun xs => Rs.fold (fun γ x => m_Sheaf_init_l1 (x.2, x.1, γ)) γ xs)) (fun γ => Rs.bind (Rs.bind (Rs.bind (Rs.ok γ.2.1) (fun x => Rs.ok (Tup.mk x))) (fun z => Rs.ok (Sheaf.mk z, γ.2))) (fun γ => Rs.ok (γ.1, ()))))
noncomputable def mi_Sheaf_init : Ctx.T [.bo 1 (List (Int × Str))] → Rs Sheaf := fun γ => Rs.bind (m_Sheaf_init (⟨⟩, γ)) (fun g => Rs.ok g.1)
noncomputable def m_law_single_t1 : Ctx.T [.fz 2 Bool] → Rs Bool := fun γ => Rs.ok γ.1
noncomputable def m_law_single_e2 : Ctx.T [.fz 2 Bool] → Rs Bool := fun γ => Rs.ok γ.1
noncomputable def m_law_single : Ctx.T [.fz 0 Exc] → Rs Bool := fun γ => Rs.bind (Rs.bind (Rs.bind (Rs.bind (Rs.ok false) (fun a => Rs.bind (Rs.bind (Rs.ok false) (fun a => Rs.bind (Rs.bind (Rs.ok false) (fun a => Rs.bind (Rs.ok ([] : List Bool)) (fun g => Rs.ok (a :: g)))) (fun g => Rs.ok (a :: g)))) (fun g => Rs.ok (a :: g)))) Rs.ok) (fun a => Rs.ok (a, γ.1, ()))) (fun γ => Rs.bind (Rs.bind (Rs.bind (Rs.ok γ.1) (fun x => Rs.bind (Rs.bind (Rs.bind (Rs.ok false) (fun a => Rs.bind (Rs.bind (Rs.ok false) (fun a => Rs.bind (Rs.bind (Rs.ok false) (fun a => Rs.bind (Rs.ok ([] : List Bool)) (fun g => Rs.ok (a :: g)))) (fun g => Rs.ok (a :: g)))) (fun g => Rs.ok (a :: g)))) Rs.ok) (fun y => catI x y))) (fun a => Rs.ok (a, γ.2.1, ()))) (fun γ => Rs.bind (Rs.bind (Rs.bind (Rs.ok γ.1) (fun x => Rs.bind (Rs.bind (Rs.bind (Rs.ok true) (fun a => Rs.bind (Rs.bind (Rs.ok false) (fun a => Rs.bind (Rs.bind (Rs.ok false) (fun a => Rs.bind (Rs.ok ([] : List Bool)) (fun g => Rs.ok (a :: g)))) (fun g => Rs.ok (a :: g)))) (fun g => Rs.ok (a :: g)))) Rs.ok) (fun y => catI x y))) (fun a => Rs.ok (a, γ.2.1, ()))) (fun γ => Rs.bind (Rs.bind (Rs.bind (Rs.ok γ.1) (fun x => Rs.bind (Rs.bind (Rs.bind (Rs.ok false) (fun a => Rs.bind (Rs.bind (Rs.ok false) (fun a => Rs.bind (Rs.bind (Rs.ok false) (fun a => Rs.bind (Rs.ok ([] : List Bool)) (fun g => Rs.ok (a :: g)))) (fun g => Rs.ok (a :: g)))) (fun g => Rs.ok (a :: g)))) Rs.ok) (fun y => catI x y))) (fun a => Rs.ok (a, γ.2.1, ()))) (fun γ => Rs.bind (Rs.bind (Rs.bind (Rs.ok γ.1) (fun x => Rs.bind (Rs.bind (Rs.bind (Rs.ok false) (fun a => Rs.bind (Rs.bind (Rs.ok false) (fun a => Rs.bind (Rs.bind (Rs.ok false) (fun a => Rs.bind (Rs.ok ([] : List Bool)) (fun g => Rs.ok (a :: g)))) (fun g => Rs.ok (a :: g)))) (fun g => Rs.ok (a :: g)))) Rs.ok) (fun y => catI x y))) (fun a => Rs.ok (a, γ.2.1, ()))) (fun γ => Rs.bind (Rs.bind (Rs.bind (Rs.ok γ.1) (fun x => Rs.bind (Rs.bind (Rs.bind (Rs.ok false) (fun a => Rs.bind (Rs.bind (Rs.ok false) (fun a => Rs.bind (Rs.bind (Rs.ok false) (fun a => Rs.bind (Rs.ok ([] : List Bool)) (fun g => Rs.ok (a :: g)))) (fun g => Rs.ok (a :: g)))) (fun g => Rs.ok (a :: g)))) Rs.ok) (fun y => catI x y))) (fun a => Rs.ok (a, γ.2.1, ()))) (fun γ => Rs.bind (Rs.bind (Rs.bind (Rs.ok γ.1) (fun x => Rs.bind (Rs.bind (Rs.bind (Rs.ok false) (fun a => Rs.bind (Rs.bind (Rs.ok false) (fun a => Rs.bind (Rs.ok ([] : List Bool)) (fun g => Rs.ok (a :: g)))) (fun g => Rs.ok (a :: g)))) Rs.ok) (fun y => catI x y))) (fun a => Rs.ok (a, γ.2.1, ()))) (fun γ => Rs.bind (Rs.bind (Rs.bind (Rs.ok true) (fun b => Rs.ok (!b))) (fun b => if b = true then Rs.ok true else Rs.bind (Rs.ok true) (fun b => Rs.ok (!b)))) (fun b => if b = true then Rs.ok false else Rs.bind (Rs.bind (Rs.bind (Rs.bind (Rs.ok γ.1) Rs.ok) (fun xs => if xs.length ≤ 16777216 then Rs.comp (fun x => m_law_single_t1 (x, (()))) (fun x => m_law_single_e2 (x, (()))) xs else Rs.no)) (fun x => Rs.ok (x.length : Int))) (fun x => Rs.bind (Rs.ok (1 : Int)) (fun y => Rs.ok (decide (x = y))))))))))))
noncomputable def m_check_demands_l1 : Ctx.T [.fz 1 Str, .bo 0 (DV Str Int)] → Rs (Ctx.T [.bo 0 (DV Str Int)]) := fun γ => Rs.bind (Rs.bind (Rs.bind (Rs.bind (Rs.ok γ.2.1) (fun x => Rs.bind (Rs.ok γ.1) (fun y => dgetR x.d y))) (fun x => Rs.bind (Rs.ok (0 : Int)) (fun y => Rs.ok (decide (x < y))))) (fun b => if b = true then Rs.bind (Rs.rai "InvalidDemands" "record" (Rs.ok γ.1) : Rs Unit) (fun _ => Rs.no) else Rs.ok (γ.2.1, ()))) (fun γ => Rs.ok (γ.1, ()))
noncomputable def m_check_demands_z2 : Ctx.T [.bo 0 (DV Str Int)] → Rs (Ctx.T []) := fun γ => Rs.bind (Rs.bind (Rs.bind (Rs.bind (Rs.ok γ.1) (fun x => sortS (x.d.es.map (·.1)))) Rs.ok) (fun xs => Rs.fold (fun γ x => m_check_demands_l1 (x, γ)) γ xs)) (fun γ => Rs.ok (()))
noncomputable def m_check_demands : Ctx.T [.bo 0 (DV Str Int)] → Rs Unit := fun γ => Rs.bind (m_check_demands_z2 γ) (fun _ => Rs.ok ())
noncomputable def m_Sheaf_len : Ctx.T [.bo 0 Sheaf] → Rs Int := fun γ => Rs.bind (Rs.bind (Rs.ok γ.1) (fun b => Rs.ok b.rows)) (fun x => Rs.ok (x.items.length : Int))
noncomputable def m_Sheaf_rows : Ctx.T [.bo 0 Sheaf] → Rs (List (Int × Str)) := fun γ => Rs.bind (Rs.bind (Rs.ok γ.1) (fun b => Rs.ok b.rows)) (fun x => Rs.ok x.items)
noncomputable def m_power_w1 : Ctx.T [.fz 4 Int, .fz 3 Int, .fz 2 Int] → Rs Bool := fun γ => Rs.bind (Rs.ok γ.1) (fun x => Rs.bind (Rs.ok (0 : Int)) (fun y => Rs.ok (decide (y < x))))
noncomputable def m_power_l2 : Ctx.T [.fz 4 Int, .fz 3 Int, .fz 2 Int] → Rs (Ctx.T [.fz 4 Int, .fz 3 Int, .fz 2 Int]) := fun γ => Rs.bind (Rs.bind (Rs.bind (Rs.bind (Rs.ok γ.1) (fun x => Rs.bind (Rs.ok (1 : Int)) (fun y => Rs.ok (Builtin.bitAnd x y)))) (fun x => Rs.bind (Rs.ok (1 : Int)) (fun y => Rs.ok (decide (x = y))))) (fun b => if b = true then Rs.bind (Rs.bind (Rs.bind (Rs.ok γ.2.2.1) (fun x => Rs.bind (Rs.ok γ.2.1) (fun y => if CMulW x y then Rs.ok (x * y) else Rs.no))) (fun a => Rs.ok (γ.1, γ.2.1, a, ()))) (fun γ => Rs.ok (γ.1, γ.2.1, γ.2.2.1, ())) else Rs.ok (γ.1, γ.2.1, γ.2.2.1, ()))) (fun γ => Rs.bind (Rs.bind (Rs.bind (Rs.ok γ.2.1) (fun x => Rs.bind (Rs.ok γ.2.1) (fun y => if CMulW x y then Rs.ok (x * y) else Rs.no))) (fun a => Rs.ok (γ.1, a, γ.2.2.1, ()))) (fun γ => Rs.bind (Rs.bind (Rs.bind (Rs.ok γ.1) (fun x => Rs.bind (Rs.ok (2 : Int)) (fun y => if CDivW x y then Rs.ok (x / y) else Rs.no))) (fun a => Rs.ok (a, γ.2.1, γ.2.2.1, ()))) (fun γ => Rs.ok (γ.1, γ.2.1, γ.2.2.1, ()))))
noncomputable def m_power : Ctx.T [.fz 0 Int, .fz 1 Int] → Rs Int := fun γ => Rs.bind (Rs.bind (Rs.ok (1 : Int)) (fun a => Rs.ok (a, γ.1, γ.2.1, ()))) (fun γ => Rs.bind (Rs.bind (Rs.ok γ.2.1) (fun a => Rs.ok (a, γ.1, γ.2.2.1, ()))) (fun γ => Rs.bind (Rs.bind (Rs.ok γ.2.2.1) (fun a => Rs.ok (a, γ.1, γ.2.1, ()))) (fun γ => Rs.bind (Rs.whl m_power_w1 m_power_l2 γ) (fun γ => Rs.ok γ.2.2.1))))
noncomputable def m_cap : Ctx.T [.fz 0 Int, .fz 1 Int, .fz 2 Int] → Rs Int := fun γ => Rs.bind (Rs.bind (Rs.ok γ.1) (fun x => Rs.bind (Rs.ok γ.2.1) (fun y => Rs.ok (decide (x < y))))) (fun b => if b = true then Rs.ok (0 : Int) else Rs.bind (Rs.bind (Rs.bind (Rs.ok γ.2.2.1) (fun x => Rs.bind (Rs.ok (1 : Int)) (fun y => Rs.ok (x + y)))) (fun a => Rs.bind (Rs.bind (Rs.bind (Rs.ok γ.1) (fun x => Rs.bind (Rs.ok γ.2.1) (fun y => Rs.ok (x - y)))) (fun a => Rs.bind (Rs.ok ()) (fun g => Rs.ok (a, g)))) (fun g => Rs.ok (a, g)))) m_power)
noncomputable def m_reach_e1 : Ctx.T [.fz 3 (Int × Str), .fz 1 Int, .fz 2 Int] → Rs Int := fun γ => Rs.bind (Rs.bind (Rs.bind (Rs.ok γ.1) (fun x => Rs.ok x.1)) (fun a => Rs.bind (Rs.bind (Rs.ok γ.2.1) (fun a => Rs.bind (Rs.ok ()) (fun g => Rs.ok (a, g)))) (fun g => Rs.ok (a, g)))) (fun g => Rs.bind (Rs.ok γ.2.2.1) (fun a => m_cap (g.1, g.2.1, a, ())))
noncomputable def m_reach : Ctx.T [.bo 0 Sheaf, .fz 1 Int, .fz 2 Int] → Rs Int := fun γ => Rs.bind (Rs.bind (Rs.bind (Rs.bind (Rs.ok γ.1) (fun s => m_Sheaf_rows (s, ()))) Rs.ok) (fun xs => if xs.length ≤ 16777216 then Rs.comp (fun x => Rs.ok true) (fun x => m_reach_e1 (x, (γ.2.1, γ.2.2.1, ()))) xs else Rs.no)) (fun x => Rs.ok x.sum)
noncomputable def m_record_reach_t1 : Ctx.T [.fz 4 (Int × Str), .fz 1 Str, .fz 2 Int, .fz 3 Int] → Rs Bool := fun γ => Rs.bind (Rs.bind (Rs.ok γ.1) (fun x => Rs.ok x.2)) (fun x => Rs.bind (Rs.ok γ.2.1) (fun y => Rs.ok (decide (x = y))))
noncomputable def m_record_reach_e2 : Ctx.T [.fz 4 (Int × Str), .fz 1 Str, .fz 2 Int, .fz 3 Int] → Rs Int := fun γ => Rs.bind (Rs.bind (Rs.bind (Rs.ok γ.1) (fun x => Rs.ok x.1)) (fun a => Rs.bind (Rs.bind (Rs.ok γ.2.2.1) (fun a => Rs.bind (Rs.ok ()) (fun g => Rs.ok (a, g)))) (fun g => Rs.ok (a, g)))) (fun g => Rs.bind (Rs.ok γ.2.2.2.1) (fun a => m_cap (g.1, g.2.1, a, ())))
noncomputable def m_record_reach : Ctx.T [.bo 0 Sheaf, .fz 1 Str, .fz 2 Int, .fz 3 Int] → Rs Int := fun γ => Rs.bind (Rs.bind (Rs.bind (Rs.bind (Rs.ok γ.1) (fun s => m_Sheaf_rows (s, ()))) Rs.ok) (fun xs => if xs.length ≤ 16777216 then Rs.comp (fun x => m_record_reach_t1 (x, (γ.2.1, γ.2.2.1, γ.2.2.2.1, ()))) (fun x => m_record_reach_e2 (x, (γ.2.1, γ.2.2.1, γ.2.2.2.1, ()))) xs else Rs.no)) (fun x => Rs.ok x.sum)
noncomputable def m_own_order_t1 : Ctx.T [.fz 4 Int, .bo 0 (List (Int × Str)), .fz 1 Str, .fz 2 Int] → Rs Bool := fun γ => Rs.bind (Rs.bind (Rs.bind (Rs.bind (Rs.ok γ.2.1) (fun x => Rs.bind (Rs.ok γ.1) (fun y => getI x y))) (fun x => Rs.ok x.2)) (fun x => Rs.bind (Rs.ok γ.2.2.1) (fun y => Rs.ok (decide (x = y))))) (fun b => if b = true then Rs.bind (Rs.bind (Rs.bind (Rs.ok γ.2.1) (fun x => Rs.bind (Rs.ok γ.1) (fun y => getI x y))) (fun x => Rs.ok x.1)) (fun x => Rs.bind (Rs.ok γ.2.2.2.1) (fun y => Rs.ok (decide (y ≤ x)))) else Rs.ok false)
noncomputable def m_own_order_e2 : Ctx.T [.fz 4 Int, .bo 0 (List (Int × Str)), .fz 1 Str, .fz 2 Int] → Rs Int := fun γ => Rs.ok γ.1
noncomputable def m_own_order : Ctx.T [.bo 0 (List (Int × Str)), .fz 1 Str, .fz 2 Int] → Rs (List Int) := fun γ => Rs.bind (Rs.bind (Rs.bind (Rs.bind (Rs.bind (Rs.ok γ.1) (fun x => Rs.ok (x.length : Int))) (fun n => Rng 0 n)) (fun xs => if xs.length ≤ 16777216 then Rs.comp (fun x => m_own_order_t1 (x, (γ.1, γ.2.1, γ.2.2.1, ()))) (fun x => m_own_order_e2 (x, (γ.1, γ.2.1, γ.2.2.1, ()))) xs else Rs.no)) (fun a => Rs.ok (a, γ.1, ()))) (fun γ => Rs.bind (Rs.ok γ.1) (fun x => sortOwn γ.2.1 x))
noncomputable def m_capped_power_w1 : Ctx.T [.fz 4 Int, .fz 3 Int, .fz 0 Int, .fz 2 Int] → Rs Bool := fun γ => Rs.bind (Rs.bind (Rs.ok γ.1) (fun x => Rs.bind (Rs.ok (0 : Int)) (fun y => Rs.ok (decide (y < x))))) (fun b => if b = true then Rs.bind (Rs.ok γ.2.1) (fun x => Rs.bind (Rs.ok γ.2.2.2.1) (fun y => Rs.ok (decide (x < y)))) else Rs.ok false)
noncomputable def m_capped_power_l2 : Ctx.T [.fz 4 Int, .fz 3 Int, .fz 0 Int, .fz 2 Int] → Rs (Ctx.T [.fz 4 Int, .fz 3 Int, .fz 0 Int, .fz 2 Int]) := fun γ => Rs.bind (Rs.bind (Rs.bind (Rs.ok γ.2.1) (fun x => Rs.bind (Rs.ok γ.2.2.1) (fun y => if CMul x y then Rs.ok (x * y) else Rs.no))) (fun a => Rs.ok (γ.1, a, γ.2.2.1, γ.2.2.2.1, ()))) (fun γ => Rs.bind (Rs.bind (Rs.bind (Rs.ok γ.1) (fun x => Rs.bind (Rs.ok (1 : Int)) (fun y => Rs.ok (x - y)))) (fun a => Rs.ok (a, γ.2.1, γ.2.2.1, γ.2.2.2.1, ()))) (fun γ => Rs.ok (γ.1, γ.2.1, γ.2.2.1, γ.2.2.2.1, ())))
noncomputable def m_capped_power : Ctx.T [.fz 0 Int, .fz 1 Int, .fz 2 Int] → Rs Int := fun γ => Rs.bind (Rs.bind (Rs.ok (1 : Int)) (fun a => Rs.ok (a, γ.1, γ.2.1, γ.2.2.1, ()))) (fun γ => Rs.bind (Rs.bind (Rs.ok γ.2.2.1) (fun a => Rs.ok (a, γ.1, γ.2.1, γ.2.2.2.1, ()))) (fun γ => Rs.bind (Rs.whl m_capped_power_w1 m_capped_power_l2 γ) (fun γ => Rs.bind (Rs.bind (Rs.bind (Rs.ok γ.2.1) (fun a => Rs.bind (Rs.bind (Rs.ok γ.2.2.2.1) (fun a => Rs.bind (Rs.ok ([] : List Int)) (fun g => Rs.ok (a :: g)))) (fun g => Rs.ok (a :: g)))) Rs.ok) minI)))
noncomputable def m_set_aside_l1 : Ctx.T [.fz 9 Int, .fz 8 Int, .fz 7 Int, .fz 6 Str, .ow 5 (List Int), .ow 4 (List (Int × Str)), .fz 1 Int, .bo 2 (DV Str Int), .fz 3 Int] → Rs (Ctx.T [.fz 8 Int, .fz 7 Int, .fz 6 Str, .ow 5 (List Int), .ow 4 (List (Int × Str)), .fz 1 Int, .bo 2 (DV Str Int), .fz 3 Int]) := fun γ => Rs.bind (Rs.bind (Rs.bind (Rs.ok γ.2.1) (fun x => Rs.bind (Rs.ok γ.2.2.1) (fun y => Rs.ok (decide (x < y))))) (fun b => if b = true then Rs.bind (Rs.bind (Rs.ok γ.1) (fun a => Rs.bind (appI γ.2.2.2.2.1 a) (fun ys => Rs.ok (γ.1, γ.2.1, γ.2.2.1, γ.2.2.2.1, ys, γ.2.2.2.2.2.1, γ.2.2.2.2.2.2.1, γ.2.2.2.2.2.2.2.1, γ.2.2.2.2.2.2.2.2.1, ())))) (fun γ => Rs.bind (Rs.bind (Rs.bind (Rs.ok γ.2.1) (fun x => Rs.bind (Rs.bind (Rs.bind (Rs.bind (Rs.ok γ.2.2.2.2.2.2.2.2.1) (fun x => Rs.bind (Rs.ok (1 : Int)) (fun y => Rs.ok (x + y)))) (fun a => Rs.bind (Rs.bind (Rs.bind (Rs.bind (Rs.bind (Rs.ok γ.2.2.2.2.2.1) (fun x => Rs.bind (Rs.ok γ.1) (fun y => getI x y))) (fun x => Rs.ok x.1)) (fun x => Rs.bind (Rs.ok γ.2.2.2.2.2.2.1) (fun y => Rs.ok (x - y)))) (fun a => Rs.bind (Rs.bind (Rs.ok γ.2.2.1) (fun a => Rs.bind (Rs.ok ()) (fun g => Rs.ok (a, g)))) (fun g => Rs.ok (a, g)))) (fun g => Rs.ok (a, g)))) m_capped_power) (fun y => Rs.ok (x + y)))) (fun a => Rs.ok (γ.1, a, γ.2.2.1, γ.2.2.2.1, γ.2.2.2.2.1, γ.2.2.2.2.2.1, γ.2.2.2.2.2.2.1, γ.2.2.2.2.2.2.2.1, γ.2.2.2.2.2.2.2.2.1, ()))) (fun γ => Rs.ok (γ.2.1, γ.2.2.1, γ.2.2.2.1, γ.2.2.2.2.1, γ.2.2.2.2.2.1, γ.2.2.2.2.2.2.1, γ.2.2.2.2.2.2.2.1, γ.2.2.2.2.2.2.2.2.1, ()))) else Rs.ok (γ.2.1, γ.2.2.1, γ.2.2.2.1, γ.2.2.2.2.1, γ.2.2.2.2.2.1, γ.2.2.2.2.2.2.1, γ.2.2.2.2.2.2.2.1, γ.2.2.2.2.2.2.2.2.1, ()))) (fun γ => Rs.ok (γ.1, γ.2.1, γ.2.2.1, γ.2.2.2.1, γ.2.2.2.2.1, γ.2.2.2.2.2.1, γ.2.2.2.2.2.2.1, γ.2.2.2.2.2.2.2.1, ()))
noncomputable def m_set_aside_l2 : Ctx.T [.fz 6 Str, .ow 5 (List Int), .ow 4 (List (Int × Str)), .fz 1 Int, .bo 2 (DV Str Int), .fz 3 Int] → Rs (Ctx.T [.ow 5 (List Int), .ow 4 (List (Int × Str)), .fz 1 Int, .bo 2 (DV Str Int), .fz 3 Int]) := fun γ => Rs.bind (Rs.bind (Rs.bind (Rs.ok γ.2.2.2.2.1) (fun x => Rs.bind (Rs.ok γ.1) (fun y => dgetR x.d y))) (fun a => Rs.ok (a, γ.1, γ.2.1, γ.2.2.1, γ.2.2.2.1, γ.2.2.2.2.1, γ.2.2.2.2.2.1, ()))) (fun γ => Rs.bind (Rs.bind (Rs.ok (0 : Int)) (fun a => Rs.ok (a, γ.1, γ.2.1, γ.2.2.1, γ.2.2.2.1, γ.2.2.2.2.1, γ.2.2.2.2.2.1, γ.2.2.2.2.2.2.1, ()))) (fun γ => Rs.bind (Rs.bind (Rs.bind (Rs.bind (Rs.bind (Rs.ok γ.2.2.2.2.1) (fun a => Rs.bind (Rs.bind (Rs.ok γ.2.2.1) (fun a => Rs.bind (Rs.bind (Rs.ok γ.2.2.2.2.2.1) (fun a => Rs.bind (Rs.ok ()) (fun g => Rs.ok (a, g)))) (fun g => Rs.ok (a, g)))) (fun g => Rs.ok (a, g)))) m_own_order) Rs.ok) (fun xs => Rs.fold (fun γ x => m_set_aside_l1 (x, γ)) γ xs)) (fun γ => Rs.ok (γ.2.2.2.1, γ.2.2.2.2.1, γ.2.2.2.2.2.1, γ.2.2.2.2.2.2.1, γ.2.2.2.2.2.2.2.1, ()))))
noncomputable def m_set_aside : Ctx.T [.bo 0 Sheaf, .fz 1 Int, .bo 2 (DV Str Int), .fz 3 Int] → Rs (List Int) := fun γ => Rs.bind (Rs.bind (Rs.bind (Rs.bind (Rs.ok γ.2.2.1) (fun a => Rs.bind (Rs.ok ()) (fun g => Rs.ok (a, g)))) m_check_demands) (fun _ => Rs.ok γ)) (fun γ => Rs.bind (Rs.bind (Rs.bind (Rs.ok γ.1) (fun s => m_Sheaf_rows (s, ()))) (fun a => Rs.ok (a, γ.2.1, γ.2.2.1, γ.2.2.2.1, ()))) (fun γ => Rs.bind (Rs.bind (Rs.bind (Rs.ok ([] : List Int)) Rs.ok) (fun a => Rs.ok (a, γ.1, γ.2.1, γ.2.2.1, γ.2.2.2.1, ()))) (fun γ => Rs.bind (Rs.bind (Rs.bind (Rs.bind (Rs.ok γ.2.2.2.1) (fun x => sortS (x.d.es.map (·.1)))) Rs.ok) (fun xs => Rs.fold (fun γ x => m_set_aside_l2 (x, γ)) γ xs)) (fun γ => Rs.bind (Rs.ok γ.1) (fun x => Rs.ok (sortI x))))))
noncomputable def m_spare_values_t1 : Ctx.T [.fz 3 Int, .ow 2 (List (Int × Str)), .bo 1 (List Int)] → Rs Bool := fun γ => Rs.bind (Rs.ok γ.1) (fun x => Rs.bind (Rs.ok γ.2.2.1) (fun y => Rs.ok (!decide (x ∈ y))))
noncomputable def m_spare_values_e2 : Ctx.T [.fz 3 Int, .ow 2 (List (Int × Str)), .bo 1 (List Int)] → Rs Int := fun γ => Rs.bind (Rs.bind (Rs.ok γ.2.1) (fun x => Rs.bind (Rs.ok γ.1) (fun y => getI x y))) (fun x => Rs.ok x.1)
noncomputable def m_spare_values : Ctx.T [.bo 0 Sheaf, .bo 1 (List Int)] → Rs (List Int) := fun γ => Rs.bind (Rs.bind (Rs.bind (Rs.ok γ.1) (fun s => m_Sheaf_rows (s, ()))) (fun a => Rs.ok (a, γ.2.1, ()))) (fun γ => Rs.bind (Rs.bind (Rs.bind (Rs.ok γ.1) (fun x => Rs.ok (x.length : Int))) (fun n => Rng 0 n)) (fun xs => if xs.length ≤ 16777216 then Rs.comp (fun x => m_spare_values_t1 (x, (γ.1, γ.2.1, ()))) (fun x => m_spare_values_e2 (x, (γ.1, γ.2.1, ()))) xs else Rs.no))
noncomputable def m_count_no_sharper_t1 : Ctx.T [.fz 2 Int, .fz 1 Int] → Rs Bool := fun γ => Rs.bind (Rs.ok γ.1) (fun x => Rs.bind (Rs.ok γ.2.1) (fun y => Rs.ok (decide (x ≤ y))))
noncomputable def m_count_no_sharper_e2 : Ctx.T [.fz 2 Int, .fz 1 Int] → Rs Int := fun γ => Rs.ok γ.1
noncomputable def m_count_no_sharper : Ctx.T [.bo 0 (List Int), .fz 1 Int] → Rs Int := fun γ => Rs.bind (Rs.bind (Rs.ok γ.1) (fun xs => if xs.length ≤ 16777216 then Rs.comp (fun x => m_count_no_sharper_t1 (x, (γ.2.1, ()))) (fun x => m_count_no_sharper_e2 (x, (γ.2.1, ()))) xs else Rs.no)) (fun x => Rs.ok (x.length : Int))
noncomputable def m_first_lack_l1 : Ctx.T [.fz 3 Int, .bo 0 (List Int), .fz 1 Int, .bo 2 (List Int)] → Rs (Ctx.T [.bo 0 (List Int), .fz 1 Int, .bo 2 (List Int)] ⊕ (Option (Int × Int))) := fun γ => Rs.bind (Rs.bind (Rs.bind (Rs.bind (Rs.ok γ.2.2.2.1) (fun a => Rs.bind (Rs.bind (Rs.ok γ.1) (fun a => Rs.bind (Rs.ok ()) (fun g => Rs.ok (a, g)))) (fun g => Rs.ok (a, g)))) m_count_no_sharper) (fun a => Rs.ok (a, γ.1, γ.2.1, γ.2.2.1, γ.2.2.2.1, ()))) (fun γ => Rs.bind (Rs.bind (Rs.ok γ.1) (fun x => Rs.bind (Rs.bind (Rs.bind (Rs.ok γ.2.1) (fun x => Rs.bind (Rs.ok (1 : Int)) (fun y => Rs.ok (x + y)))) (fun x => Rs.bind (Rs.ok γ.2.2.2.1) (fun y => Rs.ok (x - y)))) (fun y => Rs.ok (decide (x < y))))) (fun b => if b = true then Rs.bind (Rs.bind (Rs.bind (Rs.ok γ.2.1) (fun x => Rs.bind (Rs.ok γ.1) (fun y => Rs.ok (x, y)))) (fun a => Rs.ok (some a))) (fun z => Rs.ok (.inr z)) else Rs.ok (.inl (γ.2.2.1, γ.2.2.2.1, γ.2.2.2.2.1, ()))))
noncomputable def m_first_lack_b2 : Ctx.T [.bo 0 (List Int), .fz 1 Int, .bo 2 (List Int)] → Rs (Option (Int × Int)) := fun γ => Rs.ok (none : (Option (Int × Int)))
noncomputable def m_first_lack : Ctx.T [.bo 0 (List Int), .fz 1 Int, .bo 2 (List Int)] → Rs (Option (Int × Int)) := fun γ => Rs.left (Rs.bind (Rs.bind (Rs.ok γ.2.1) (fun a => Rs.bind (Rs.bind (Rs.ok γ.1) maxI) (fun b => Rng a b))) (fun xs => Rs.foldR (fun γ x => m_first_lack_l1 (x, γ)) γ xs)) m_first_lack_b2
noncomputable def m_trouble_e1 : Ctx.T [.fz 6 Str, .bo 2 (LV Str Int)] → Rs Int := fun γ => Rs.bind (Rs.bind (Rs.ok γ.2.1) (fun d => Rs.ok (DV.mk d.d))) (fun x => Rs.bind (Rs.ok γ.1) (fun y => dgetR x.d y))
noncomputable def m_trouble_k2 : Ctx.T [.bo 2 (LV Str Int)] → Rs (List Int) := fun γ => Rs.bind (Rs.ok (γ.1.d.es.map (·.1))) (fun xs => if xs.length ≤ 16777216 then Rs.comp (fun x => Rs.ok true) (fun x => m_trouble_e1 (x, (γ.1, ()))) xs else Rs.no)
noncomputable def m_trouble_l3 : Ctx.T [.fz 6 Str, .fz 5 Int, .bo 0 Sheaf, .fz 1 Int, .bo 2 (DV Str Int), .fz 3 Int] → Rs (Ctx.T [.fz 5 Int, .bo 0 Sheaf, .fz 1 Int, .bo 2 (DV Str Int), .fz 3 Int] ⊕ (Option (Tup (Int ⊕ Str)))) := fun γ => Rs.bind (Rs.bind (Rs.bind (Rs.bind (Rs.ok γ.2.2.1) (fun a => Rs.bind (Rs.bind (Rs.ok γ.1) (fun a => Rs.bind (Rs.bind (Rs.ok γ.2.2.2.1) (fun a => Rs.bind (Rs.ok ()) (fun g => Rs.ok (a, g)))) (fun g => Rs.ok (a, g)))) (fun g => Rs.ok (a, g)))) (fun g => Rs.bind (Rs.ok γ.2.2.2.2.2.1) (fun a => m_record_reach (g.1, g.2.1, g.2.2.1, a, ())))) (fun a => Rs.ok (γ.1, a, γ.2.2.1, γ.2.2.2.1, γ.2.2.2.2.1, γ.2.2.2.2.2.1, ()))) (fun γ => Rs.bind (Rs.bind (Rs.ok γ.2.1) (fun x => Rs.bind (Rs.bind (Rs.ok γ.2.2.2.2.1) (fun x => Rs.bind (Rs.ok γ.1) (fun y => dgetR x.d y))) (fun y => Rs.ok (decide (x < y))))) (fun b => if b = true then Rs.bind (Rs.bind (Rs.bind (Rs.bind (Rs.bind (Rs.ok ("record" : Str)) (fun a => Rs.bind (Rs.bind (Rs.ok γ.1) (fun a => Rs.bind (Rs.bind (Rs.ok γ.2.1) (fun a => Rs.bind (Rs.ok ()) (fun g => Rs.ok (a, g)))) (fun g => Rs.ok (a, g)))) (fun g => Rs.ok (a, g)))) (fun a => Rs.ok (Nt.mk a))) (fun a => Rs.ok (Tup.mk [(Sum.inr a.v.1), (Sum.inr a.v.2.1), (Sum.inl a.v.2.2.1)]))) (fun a => Rs.ok (some a))) (fun z => Rs.ok (.inr z)) else Rs.ok (.inl (γ.2.1, γ.2.2.1, γ.2.2.2.1, γ.2.2.2.2.1, γ.2.2.2.2.2.1, ()))))
noncomputable def m_trouble_e4 : Ctx.T [.fz 9 (Int × Str)] → Rs Int := fun γ => Rs.bind (Rs.ok γ.1) (fun x => Rs.ok x.1)
noncomputable def m_trouble_b5 : Ctx.T [.fz 5 Int, .bo 0 Sheaf, .fz 1 Int, .bo 2 (DV Str Int), .fz 3 Int] → Rs (Option (Tup (Int ⊕ Str))) := fun γ => Rs.bind (Rs.bind (Rs.bind (Rs.bind (Rs.ok γ.2.1) (fun a => Rs.bind (Rs.bind (Rs.bind (Rs.bind (Rs.ok γ.2.1) (fun a => Rs.bind (Rs.bind (Rs.ok γ.2.2.1) (fun a => Rs.bind (Rs.bind (Rs.ok γ.2.2.2.1) (fun a => Rs.bind (Rs.ok ()) (fun g => Rs.ok (a, g)))) (fun g => Rs.ok (a, g)))) (fun g => Rs.ok (a, g)))) (fun g => Rs.bind (Rs.ok γ.2.2.2.2.1) (fun a => m_set_aside (g.1, g.2.1, g.2.2.1, a, ())))) (fun a => Rs.bind (Rs.ok ()) (fun g => Rs.ok (a, g)))) (fun g => Rs.ok (a, g)))) m_spare_values) (fun a => Rs.ok (a, γ.2.1, γ.2.2.1, ()))) (fun γ => Rs.bind (Rs.bind (Rs.bind (Rs.bind (Rs.bind (Rs.bind (Rs.bind (Rs.ok γ.2.1) (fun s => m_Sheaf_rows (s, ()))) Rs.ok) (fun xs => if xs.length ≤ 16777216 then Rs.comp (fun x => Rs.ok true) (fun x => m_trouble_e4 (x, (()))) xs else Rs.no)) (fun a => Rs.bind (Rs.bind (Rs.ok γ.2.2.1) (fun a => Rs.bind (Rs.bind (Rs.ok γ.1) (fun a => Rs.bind (Rs.ok ()) (fun g => Rs.ok (a, g)))) (fun g => Rs.ok (a, g)))) (fun g => Rs.ok (a, g)))) m_first_lack) (fun a => Rs.ok (a, ()))) (fun γ => Rs.bind (Rs.bind (Rs.ok γ.1) (fun x => Rs.bind (Rs.ok ()) (fun y => Rs.ok x.isNone))) (fun b => if b = true then Rs.ok (none : (Option (Tup (Int ⊕ Str)))) else Rs.bind (Rs.bind (Rs.bind (Rs.bind (Rs.ok ("height" : Str)) (fun a => Rs.bind (Rs.bind (Rs.bind (Rs.bind (Rs.ok γ.1) theI) (fun x => Rs.ok x.1)) (fun a => Rs.bind (Rs.bind (Rs.bind (Rs.bind (Rs.ok γ.1) theI) (fun x => Rs.ok x.2)) (fun a => Rs.bind (Rs.ok ()) (fun g => Rs.ok (a, g)))) (fun g => Rs.ok (a, g)))) (fun g => Rs.ok (a, g)))) (fun a => Rs.ok (Nt.mk a))) (fun a => Rs.ok (Tup.mk [(Sum.inr a.v.1), (Sum.inl a.v.2.1), (Sum.inl a.v.2.2.1)]))) (fun a => Rs.ok (some a)))))
noncomputable def m_trouble : Ctx.T [.bo 0 Sheaf, .fz 1 Int, .bo 2 (DV Str Int), .fz 3 Int] → Rs (Option (Tup (Int ⊕ Str))) := fun γ => Rs.bind (Rs.bind (Rs.bind (Rs.bind (Rs.ok γ.2.2.1) (fun a => Rs.bind (Rs.ok ()) (fun g => Rs.ok (a, g)))) m_check_demands) (fun _ => Rs.ok γ)) (fun γ => Rs.bind (Rs.bind (Rs.bind (Rs.nox (m_trouble_k2 ((LV.mk γ.2.2.1.d), ()))) (fun x => Rs.ok x.sum)) (fun a => Rs.ok (a, γ.1, γ.2.1, γ.2.2.1, γ.2.2.2.1, ()))) (fun γ => Rs.bind (Rs.bind (Rs.ok γ.1) (fun x => Rs.bind (Rs.bind (Rs.ok γ.2.1) (fun x => Rs.bind (Rs.nox (m_Sheaf_len (x, ()))) (fun i => if 0 ≤ i ∧ i < 4611686018427387904 then Rs.ok i else Rs.no))) (fun y => Rs.ok (decide (y < x))))) (fun b => if b = true then Rs.bind (Rs.bind (Rs.bind (Rs.ok ("total" : Str)) (fun x => Rs.bind (Rs.ok γ.1) (fun y => Rs.ok (x, y)))) (fun a => Rs.ok (Tup.mk [(Sum.inr a.1), (Sum.inl a.2)]))) (fun a => Rs.ok (some a)) else Rs.bind (Rs.bind (Rs.bind (Rs.bind (Rs.ok γ.2.1) (fun a => Rs.bind (Rs.bind (Rs.ok γ.2.2.1) (fun a => Rs.bind (Rs.ok ()) (fun g => Rs.ok (a, g)))) (fun g => Rs.ok (a, g)))) (fun g => Rs.bind (Rs.ok γ.2.2.2.2.1) (fun a => m_reach (g.1, g.2.1, a, ())))) (fun a => Rs.ok (a, γ.2.1, γ.2.2.1, γ.2.2.2.1, γ.2.2.2.2.1, ()))) (fun γ => Rs.bind (Rs.bind (Rs.ok γ.1) (fun x => Rs.bind (Rs.bind (Rs.ok γ.2.1) (fun x => Rs.bind (Rs.nox (m_Sheaf_len (x, ()))) (fun i => if 0 ≤ i ∧ i < 4611686018427387904 then Rs.ok i else Rs.no))) (fun y => Rs.ok (decide (x < y))))) (fun b => if b = true then Rs.bind (Rs.bind (Rs.bind (Rs.ok ("reach" : Str)) (fun x => Rs.bind (Rs.ok γ.1) (fun y => Rs.ok (x, y)))) (fun a => Rs.ok (Tup.mk [(Sum.inr a.1), (Sum.inl a.2)]))) (fun a => Rs.ok (some a)) else Rs.left (Rs.bind (Rs.bind (Rs.bind (Rs.ok γ.2.2.2.1) (fun x => sortS (x.d.es.map (·.1)))) Rs.ok) (fun xs => Rs.foldR (fun γ x => m_trouble_l3 (x, γ)) γ xs)) m_trouble_b5)))))
noncomputable def m_can_meet : Ctx.T [.bo 0 Sheaf, .fz 1 Int, .bo 2 (DV Str Int), .fz 3 Int] → Rs Bool := fun γ => Rs.bind (Rs.bind (Rs.bind (Rs.ok γ.1) (fun a => Rs.bind (Rs.bind (Rs.ok γ.2.1) (fun a => Rs.bind (Rs.bind (Rs.ok γ.2.2.1) (fun a => Rs.bind (Rs.ok ()) (fun g => Rs.ok (a, g)))) (fun g => Rs.ok (a, g)))) (fun g => Rs.ok (a, g)))) (fun g => Rs.bind (Rs.ok γ.2.2.2.1) (fun a => m_trouble (g.1, g.2.1, g.2.2.1, a, ())))) (fun x => Rs.bind (Rs.ok ()) (fun y => Rs.ok x.isNone))
noncomputable def m_law_asked_y1 : Ctx.T [.bo 0 Sheaf, .fz 1 Int, .bo 2 (DV Str Int), .fz 3 Int, .fz 4 Bool] → Rs (Ctx.T [] ⊕ (Str × (Str ⊕ Bool))) := fun γ => Rs.bind (Rs.bind (Rs.ok γ.2.2.2.2.1) (fun b => if b = true then Rs.bind (Rs.bind (Rs.ok ("told" : Str)) (fun x => Rs.bind (Rs.bind (Rs.bind (Rs.ok γ.1) (fun a => Rs.bind (Rs.bind (Rs.ok γ.2.1) (fun a => Rs.bind (Rs.bind (Rs.ok γ.2.2.1) (fun a => Rs.bind (Rs.ok ()) (fun g => Rs.ok (a, g)))) (fun g => Rs.ok (a, g)))) (fun g => Rs.ok (a, g)))) (fun g => m_can_meet (g.1, g.2.1, g.2.2.1, (1 : Int), ()))) (fun y => Rs.ok (x, y)))) (fun a => Rs.ok (a.1, (Sum.inr a.2))) else Rs.bind (Rs.bind (Rs.ok ("told" : Str)) (fun x => Rs.bind (Rs.bind (Rs.bind (Rs.ok γ.1) (fun a => Rs.bind (Rs.bind (Rs.ok γ.2.1) (fun a => Rs.bind (Rs.bind (Rs.ok γ.2.2.1) (fun a => Rs.bind (Rs.ok ()) (fun g => Rs.ok (a, g)))) (fun g => Rs.ok (a, g)))) (fun g => Rs.ok (a, g)))) (fun g => Rs.bind (Rs.ok γ.2.2.2.1) (fun a => m_can_meet (g.1, g.2.1, g.2.2.1, a, ())))) (fun y => Rs.ok (x, y)))) (fun a => Rs.ok (a.1, (Sum.inr a.2))))) (fun x => Rs.ok (.inr x))
noncomputable def m_law_asked_x2 : Ctx.T [.fz 5 Exc] → Rs (Ctx.T [] ⊕ (Str × (Str ⊕ Bool))) := fun γ => Rs.bind (Rs.bind (m_law_single (γ.1, ())) (fun b => if b = true then Rs.bind ((Exc.at γ.1 "record" : Rs Str)) (fun _ => Rs.ok true) else Rs.ok false)) (fun b => if b = true then Rs.bind (Rs.bind (Rs.bind (Rs.ok ("negative" : Str)) (fun x => Rs.bind ((Exc.at γ.1 "record" : Rs Str)) (fun y => Rs.ok (x, y)))) (fun a => Rs.ok (a.1, (Sum.inl a.2)))) (fun z => Rs.ok (.inr z)) else Rs.ok (.inl (())))
noncomputable def m_law_asked_b3 : Ctx.T [] → Rs (Str × (Str ⊕ Bool)) := fun γ => Rs.bind (Rs.bind (Rs.ok ("wrong" : Str)) (fun x => Rs.bind (Rs.ok ("" : Str)) (fun y => Rs.ok (x, y)))) (fun a => Rs.ok (a.1, (Sum.inl a.2)))
noncomputable def m_law_asked : Ctx.T [.bo 0 Sheaf, .fz 1 Int, .bo 2 (DV Str Int), .fz 3 Int, .fz 4 Bool] → Rs (Str × (Str ⊕ Bool)) := fun γ => Rs.left (Rs.try "InvalidDemands" [] (m_law_asked_y1 γ) (fun x => Rs.nox (m_law_asked_x2 (x, ())))) m_law_asked_b3
noncomputable def m_Sheaf_eq : Ctx.T [.bo 0 Sheaf, .bo 1 Sheaf] → Rs Bool := fun γ => Rs.bind (Rs.bind (Rs.ok γ.2.1) (fun _ => Rs.ok true)) (fun b => if b = true then Rs.bind (Rs.bind (Rs.ok γ.1) (fun b => Rs.ok b.rows)) (fun x => Rs.bind (Rs.bind (Rs.ok γ.2.1) (fun b => Rs.ok b.rows)) (fun y => Rs.ok (decide (x = y)))) else Rs.ok false)
noncomputable def m_law_met : Ctx.T [.bo 0 (List (Int × Str)), .fz 1 Int, .bo 2 (DV Str Int), .fz 3 Int, .fz 4 Bool, .fz 5 Bool] → Rs Bool := fun γ => Rs.bind (Rs.bind (Rs.bind (Rs.bind (Rs.bind (Rs.ok γ.1) (fun x => Rs.ok x)) (fun a => Rs.bind (Rs.ok ()) (fun g => Rs.ok (a, g)))) mi_Sheaf_init) (fun a => Rs.ok (a, γ.1, γ.2.1, γ.2.2.1, γ.2.2.2.1, γ.2.2.2.2.1, γ.2.2.2.2.2.1, ()))) (fun γ => Rs.bind (Rs.bind (Rs.bind (Rs.ok γ.2.2.2.1) (fun x => Rs.ok x.d)) (fun a => Rs.ok (a, γ.1, γ.2.1, γ.2.2.1, γ.2.2.2.1, γ.2.2.2.2.1, γ.2.2.2.2.2.1, γ.2.2.2.2.2.2.1, ()))) (fun γ => Rs.bind (Rs.bind (Rs.bind (Rs.bind (Rs.ok γ.2.1) (fun a => Rs.bind (Rs.bind (Rs.ok γ.2.2.2.1) (fun a => Rs.bind (Rs.bind (Rs.bind (Rs.ok γ.1) (fun d => Rs.ok (DV.mk d))) (fun a => Rs.bind (Rs.bind (Rs.ok γ.2.2.2.2.2.1) (fun a => Rs.bind (Rs.bind (Rs.ok γ.2.2.2.2.2.2.1) (fun a => Rs.bind (Rs.ok ()) (fun g => Rs.ok (a, g)))) (fun g => Rs.ok (a, g)))) (fun g => Rs.ok (a, g)))) (fun g => Rs.ok (a, g)))) (fun g => Rs.ok (a, g)))) m_law_asked) (fun a => Rs.ok (a, γ.1, γ.2.1, γ.2.2.1, γ.2.2.2.2.1, γ.2.2.2.2.2.2.2.1, ()))) (fun γ => Rs.bind (Rs.bind (Rs.bind (Rs.bind (Rs.ok γ.2.1) (fun d => Rs.ok (DV.mk d))) (fun x => Rs.bind (Rs.ok γ.2.2.2.2.1) (fun y => eqDR false x y))) (fun b => if b = true then Rs.ok true else Rs.bind (Rs.bind (Rs.ok γ.2.2.1) (fun x => Rs.bind (Rs.bind (Rs.bind (Rs.bind (Rs.ok γ.2.2.2.1) (fun x => Rs.ok x)) (fun a => Rs.bind (Rs.ok ()) (fun g => Rs.ok (a, g)))) mi_Sheaf_init) (fun y => Rs.nox (m_Sheaf_eq (x, y, ()))))) (fun b => Rs.ok (!b)))) (fun b => if b = true then Rs.ok false else Rs.bind (Rs.bind (Rs.bind (Rs.ok γ.1) (fun x => Rs.ok x.1)) (fun x => Rs.bind (Rs.ok ("told" : Str)) (fun y => Rs.ok (decide (x = y))))) (fun b => if b = true then Rs.bind (Rs.bind (Rs.bind (Rs.bind (Rs.ok γ.1) (fun x => Rs.ok x.2)) theR) (fun _ => Rs.ok true)) (fun b => if b = true then Rs.bind (Rs.bind (Rs.bind (Rs.ok γ.1) (fun x => Rs.ok x.2)) theR) (fun x => Rs.bind (Rs.ok γ.2.2.2.2.2.1) (fun y => Rs.ok (decide (x = y)))) else Rs.ok false) else Rs.ok false)))))
noncomputable def m_law_refused_t1 : Ctx.T [.fz 11 Str, .bo 8 (LV Str Int)] → Rs Bool := fun γ => Rs.bind (Rs.bind (Rs.bind (Rs.ok γ.2.1) (fun d => Rs.ok (DV.mk d.d))) (fun x => Rs.bind (Rs.ok γ.1) (fun y => dgetR x.d y))) (fun x => Rs.bind (Rs.ok (0 : Int)) (fun y => Rs.ok (decide (x < y))))
noncomputable def m_law_refused_e2 : Ctx.T [.fz 11 Str, .bo 8 (LV Str Int)] → Rs Str := fun γ => Rs.ok γ.1
noncomputable def m_law_refused_k3 : Ctx.T [.bo 8 (LV Str Int)] → Rs (List Str) := fun γ => Rs.bind (Rs.ok (γ.1.d.es.map (·.1))) (fun xs => if xs.length ≤ 16777216 then Rs.comp (fun x => m_law_refused_t1 (x, (γ.1, ()))) (fun x => m_law_refused_e2 (x, (γ.1, ()))) xs else Rs.no)
noncomputable def m_law_refused : Ctx.T [.bo 0 (List (Int × Str)), .fz 1 Int, .bo 2 (DV Str Int), .fz 3 Str, .fz 4 Str, .fz 5 Int, .fz 6 Int, .fz 7 Bool] → Rs Bool := fun γ => Rs.bind (Rs.bind (Rs.bind (Rs.ok γ.2.2.1) (fun x => Rs.ok x.d)) (fun a => Rs.ok (a, γ.1, γ.2.1, γ.2.2.2.1, γ.2.2.2.2.1, γ.2.2.2.2.2.1, γ.2.2.2.2.2.2.1, γ.2.2.2.2.2.2.2.1, ()))) (fun γ => Rs.bind (Rs.bind (Rs.bind (Rs.bind (Rs.ok (0 : Int)) (fun x => Rs.bind (Rs.ok (1 : Int)) (fun y => Rs.ok (x - y)))) (fun x => Rs.bind (Rs.ok γ.2.2.2.2.2.1) (fun y => Rs.ok (x - y)))) (fun a => Rs.bind (Rs.ok γ.2.2.2.1) (fun k => Rs.bind (dputR γ.1 k a) (fun ys => Rs.ok (ys, γ.2.1, γ.2.2.1, γ.2.2.2.1, γ.2.2.2.2.1, γ.2.2.2.2.2.1, γ.2.2.2.2.2.2.1, γ.2.2.2.2.2.2.2.1, ()))))) (fun γ => Rs.bind (Rs.bind (Rs.bind (Rs.ok γ.2.2.2.2.2.1) (fun x => Rs.bind (Rs.ok (3 : Int)) (fun y => Rs.ok (decide (y < x))))) (fun b => if b = true then Rs.bind (Rs.bind (Rs.bind (Rs.ok (0 : Int)) (fun x => Rs.bind (Rs.ok γ.2.2.2.2.2.1) (fun y => Rs.ok (x - y)))) (fun a => Rs.bind (Rs.ok γ.2.2.2.2.1) (fun k => Rs.bind (dputR γ.1 k a) (fun ys => Rs.ok (ys, γ.2.1, γ.2.2.1, γ.2.2.2.1, γ.2.2.2.2.1, γ.2.2.2.2.2.1, γ.2.2.2.2.2.2.1, γ.2.2.2.2.2.2.2.1, ()))))) (fun γ => Rs.ok (γ.1, γ.2.1, γ.2.2.1, γ.2.2.2.2.2.2.1, γ.2.2.2.2.2.2.2.1, ())) else Rs.ok (γ.1, γ.2.1, γ.2.2.1, γ.2.2.2.2.2.2.1, γ.2.2.2.2.2.2.2.1, ()))) (fun γ => Rs.bind (Rs.bind (Rs.bind (Rs.bind (Rs.nox (m_law_refused_k3 ((LV.mk γ.1), ()))) sortS) (fun x => Rs.bind (Rs.ok (0 : Int)) (fun y => getI x y))) (fun a => Rs.ok (a, γ.1, γ.2.1, γ.2.2.1, γ.2.2.2.1, γ.2.2.2.2.1, ()))) (fun γ => Rs.bind (Rs.bind (Rs.bind (Rs.bind (Rs.ok γ.2.1) (fun d => Rs.ok (DV.mk d))) (fun x => Rs.ok x.d)) (fun a => Rs.ok (a, γ.1, γ.2.1, γ.2.2.1, γ.2.2.2.1, γ.2.2.2.2.1, γ.2.2.2.2.2.1, ()))) (fun γ => Rs.bind (Rs.bind (Rs.bind (Rs.bind (Rs.bind (Rs.bind (Rs.bind (Rs.ok γ.2.2.2.1) (fun x => Rs.ok x)) (fun a => Rs.bind (Rs.ok ()) (fun g => Rs.ok (a, g)))) mi_Sheaf_init) (fun a => Rs.bind (Rs.bind (Rs.ok γ.2.2.2.2.1) (fun a => Rs.bind (Rs.bind (Rs.bind (Rs.ok γ.1) (fun d => Rs.ok (DV.mk d))) (fun a => Rs.bind (Rs.bind (Rs.ok γ.2.2.2.2.2.1) (fun a => Rs.bind (Rs.bind (Rs.ok γ.2.2.2.2.2.2.1) (fun a => Rs.bind (Rs.ok ()) (fun g => Rs.ok (a, g)))) (fun g => Rs.ok (a, g)))) (fun g => Rs.ok (a, g)))) (fun g => Rs.ok (a, g)))) (fun g => Rs.ok (a, g)))) m_law_asked) (fun x => Rs.bind (Rs.bind (Rs.ok ("negative" : Str)) (fun x => Rs.bind (Rs.ok γ.2.1) (fun y => Rs.ok (x, y)))) (fun y => Rs.ok (PyData.eqv (PyD.d x) (PyD.d y))))) (fun b => if b = true then Rs.bind (Rs.bind (Rs.ok γ.1) (fun d => Rs.ok (DV.mk d))) (fun x => Rs.bind (Rs.bind (Rs.ok γ.2.2.1) (fun d => Rs.ok (DV.mk d))) (fun y => eqDR true x y)) else Rs.ok false))))))
noncomputable def m_law_e1 : Ctx.T [.fz 18 Int, .fz 0 Script] → Rs Int := fun γ => Rs.bind (Rs.bind (Rs.ok γ.2.1) (fun a => Rs.bind (Rs.bind (Rs.bind (Rs.ok (6 : Int)) (fun x => Rs.bind (Rs.ok γ.1) (fun y => Rs.ok (x + y)))) (fun a => Rs.bind (Rs.ok ()) (fun g => Rs.ok (a, g)))) (fun g => Rs.ok (a, g)))) m_law_given
noncomputable def m_law_l2 : Ctx.T [.fz 18 Int, .fz 14 (List (Int × Str)), .fz 13 (List (Int × Str)), .ow 12 (Dct Str Int), .fz 11 Int, .ow 10 (List (List (Int × Str))), .ow 8 (List (Int × (Tup Int))), .fz 7 Int, .fz 6 Bool, .ow 5 (List Int), .fz 4 Str, .fz 2 (List (Int × Str)), .fz 0 Script] → Rs (Ctx.T [.fz 14 (List (Int × Str)), .fz 13 (List (Int × Str)), .ow 12 (Dct Str Int), .fz 11 Int, .ow 10 (List (List (Int × Str))), .ow 8 (List (Int × (Tup Int))), .fz 7 Int, .fz 6 Bool, .ow 5 (List Int), .fz 4 Str, .fz 2 (List (Int × Str)), .fz 0 Script] ⊕ Bool) := fun γ => Rs.bind (Rs.bind (Rs.bind (Rs.bind (Rs.bind (Rs.ok γ.2.2.2.1) (fun d => Rs.ok (DV.mk d))) (fun a => Rs.bind (Rs.bind (Rs.bind (Rs.bind (Rs.ok γ.2.2.2.2.2.2.2.2.2.2.2.2.1) (fun a => Rs.bind (Rs.bind (Rs.bind (Rs.ok (4 : Int)) (fun x => Rs.bind (Rs.ok γ.1) (fun y => Rs.ok (x + y)))) (fun a => Rs.bind (Rs.ok ()) (fun g => Rs.ok (a, g)))) (fun g => Rs.ok (a, g)))) m_law_given) (fun a => Rs.bind (Rs.ok ()) (fun g => Rs.ok (a, g)))) (fun g => Rs.ok (a, g)))) m_law_lessened) (fun a => Rs.ok (a, γ.2.1, γ.2.2.1, γ.2.2.2.1, γ.2.2.2.2.1, γ.2.2.2.2.2.1, γ.2.2.2.2.2.2.1, γ.2.2.2.2.2.2.2.1, γ.2.2.2.2.2.2.2.2.1, γ.2.2.2.2.2.2.2.2.2.1, γ.2.2.2.2.2.2.2.2.2.2.1, γ.2.2.2.2.2.2.2.2.2.2.2.1, γ.2.2.2.2.2.2.2.2.2.2.2.2.1, ()))) (fun γ => Rs.bind (Rs.bind (Rs.bind (Rs.bind (Rs.ok γ.2.1) (fun a => Rs.bind (Rs.bind (Rs.ok γ.2.2.2.2.1) (fun a => Rs.bind (Rs.bind (Rs.bind (Rs.ok γ.1) (fun d => Rs.ok (DV.mk d))) (fun a => Rs.bind (Rs.bind (Rs.ok γ.2.2.2.2.2.2.2.1) (fun a => Rs.bind (Rs.bind (Rs.ok γ.2.2.2.2.2.2.2.2.1) (fun a => Rs.bind (Rs.bind (Rs.ok true) (fun a => Rs.bind (Rs.ok ()) (fun g => Rs.ok (a, g)))) (fun g => Rs.ok (a, g)))) (fun g => Rs.ok (a, g)))) (fun g => Rs.ok (a, g)))) (fun g => Rs.ok (a, g)))) (fun g => Rs.ok (a, g)))) m_law_met) (fun b => Rs.ok (!b))) (fun b => if b = true then Rs.bind (Rs.ok false) (fun z => Rs.ok (.inr z)) else Rs.ok (.inl (γ.2.1, γ.2.2.1, γ.2.2.2.1, γ.2.2.2.2.1, γ.2.2.2.2.2.1, γ.2.2.2.2.2.2.1, γ.2.2.2.2.2.2.2.1, γ.2.2.2.2.2.2.2.2.1, γ.2.2.2.2.2.2.2.2.2.1, γ.2.2.2.2.2.2.2.2.2.2.1, γ.2.2.2.2.2.2.2.2.2.2.2.1, γ.2.2.2.2.2.2.2.2.2.2.2.2.1, ()))))
noncomputable def m_law_b3 : Ctx.T [.fz 14 (List (Int × Str)), .fz 13 (List (Int × Str)), .ow 12 (Dct Str Int), .fz 11 Int, .ow 10 (List (List (Int × Str))), .ow 8 (List (Int × (Tup Int))), .fz 7 Int, .fz 6 Bool, .ow 5 (List Int), .fz 4 Str, .fz 2 (List (Int × Str)), .fz 0 Script] → Rs (Ctx.T [.fz 13 (List (Int × Str)), .ow 12 (Dct Str Int), .fz 11 Int, .ow 10 (List (List (Int × Str))), .ow 8 (List (Int × (Tup Int))), .fz 7 Int, .fz 6 Bool, .ow 5 (List Int), .fz 4 Str, .fz 2 (List (Int × Str)), .fz 0 Script] ⊕ Bool) := fun γ => Rs.bind (Rs.bind (Rs.bind (Rs.bind (Rs.ok γ.1) (fun a => Rs.bind (Rs.bind (Rs.ok γ.2.2.2.1) (fun a => Rs.bind (Rs.bind (Rs.bind (Rs.ok γ.2.2.1) (fun d => Rs.ok (DV.mk d))) (fun a => Rs.bind (Rs.bind (Rs.ok γ.2.2.2.2.2.2.1) (fun a => Rs.bind (Rs.bind (Rs.ok γ.2.2.2.2.2.2.2.1) (fun a => Rs.bind (Rs.bind (Rs.ok true) (fun a => Rs.bind (Rs.ok ()) (fun g => Rs.ok (a, g)))) (fun g => Rs.ok (a, g)))) (fun g => Rs.ok (a, g)))) (fun g => Rs.ok (a, g)))) (fun g => Rs.ok (a, g)))) (fun g => Rs.ok (a, g)))) m_law_met) (fun b => Rs.ok (!b))) (fun b => if b = true then Rs.bind (Rs.ok false) (fun z => Rs.ok (.inr z)) else Rs.bind (Rs.bind (Rs.bind (Rs.ok γ.2.2.2.2.2.2.1) (fun x => Rs.bind (Rs.ok (6 : Int)) (fun y => Rs.ok (decide (x < y))))) (fun b => if b = true then Rs.bind (Rs.bind (Rs.bind (Rs.ok γ.1) (fun a => Rs.bind (Rs.bind (Rs.ok γ.2.2.2.1) (fun a => Rs.bind (Rs.bind (Rs.bind (Rs.ok γ.2.2.1) (fun d => Rs.ok (DV.mk d))) (fun a => Rs.bind (Rs.bind (Rs.bind (Rs.ok γ.2.2.2.2.2.2.1) (fun x => Rs.bind (Rs.ok (1 : Int)) (fun y => Rs.ok (x + y)))) (fun a => Rs.bind (Rs.bind (Rs.ok false) (fun a => Rs.bind (Rs.bind (Rs.ok true) (fun a => Rs.bind (Rs.ok ()) (fun g => Rs.ok (a, g)))) (fun g => Rs.ok (a, g)))) (fun g => Rs.ok (a, g)))) (fun g => Rs.ok (a, g)))) (fun g => Rs.ok (a, g)))) (fun g => Rs.ok (a, g)))) m_law_met) (fun b => Rs.ok (!b)) else Rs.ok false)) (fun b => if b = true then Rs.bind (Rs.ok false) (fun z => Rs.ok (.inr z)) else Rs.ok (.inl (γ.2.1, γ.2.2.1, γ.2.2.2.1, γ.2.2.2.2.1, γ.2.2.2.2.2.1, γ.2.2.2.2.2.2.1, γ.2.2.2.2.2.2.2.1, γ.2.2.2.2.2.2.2.2.1, γ.2.2.2.2.2.2.2.2.2.1, γ.2.2.2.2.2.2.2.2.2.2.1, γ.2.2.2.2.2.2.2.2.2.2.2.1, ()))))
noncomputable def m_law_l4 : Ctx.T [.fz 14 (List (Int × Str)), .fz 13 (List (Int × Str)), .ow 12 (Dct Str Int), .fz 11 Int, .ow 10 (List (List (Int × Str))), .ow 8 (List (Int × (Tup Int))), .fz 7 Int, .fz 6 Bool, .ow 5 (List Int), .fz 4 Str, .fz 2 (List (Int × Str)), .fz 0 Script] → Rs (Ctx.T [.fz 13 (List (Int × Str)), .ow 12 (Dct Str Int), .fz 11 Int, .ow 10 (List (List (Int × Str))), .ow 8 (List (Int × (Tup Int))), .fz 7 Int, .fz 6 Bool, .ow 5 (List Int), .fz 4 Str, .fz 2 (List (Int × Str)), .fz 0 Script] ⊕ Bool) := fun γ => Rs.leftG (Rs.bind (Rs.bind (Rs.ok (2 : Int)) (fun n => Rng 0 n)) (fun xs => Rs.foldR (fun γ x => m_law_l2 (x, γ)) γ xs)) m_law_b3
noncomputable def m_law_e5 : Ctx.T [.fz 20 (Int × Str)] → Rs Int := fun γ => Rs.bind (Rs.ok γ.1) (fun x => Rs.ok x.1)
noncomputable def m_law_b6 : Ctx.T [.fz 13 (List (Int × Str)), .ow 12 (Dct Str Int), .fz 11 Int, .ow 10 (List (List (Int × Str))), .ow 8 (List (Int × (Tup Int))), .fz 7 Int, .fz 6 Bool, .ow 5 (List Int), .fz 4 Str, .fz 2 (List (Int × Str)), .fz 0 Script] → Rs Bool := fun γ => Rs.bind (Rs.bind (Rs.bind (Rs.bind (Rs.ok γ.2.1) (fun d => Rs.ok (DV.mk d))) (fun x => Rs.ok x.d)) (fun a => Rs.ok (a, γ.2.1, γ.2.2.1, γ.2.2.2.2.2.1, γ.2.2.2.2.2.2.1, γ.2.2.2.2.2.2.2.1, γ.2.2.2.2.2.2.2.2.1, γ.2.2.2.2.2.2.2.2.2.1, ()))) (fun γ => Rs.bind (Rs.bind (Rs.ok (0 : Int)) (fun a => Rs.bind (Rs.ok γ.2.2.2.2.2.2.1) (fun k => Rs.bind (dputR γ.1 k a) (fun ys => Rs.ok (ys, γ.2.1, γ.2.2.1, γ.2.2.2.1, γ.2.2.2.2.1, γ.2.2.2.2.2.1, γ.2.2.2.2.2.2.1, γ.2.2.2.2.2.2.2.1, ()))))) (fun γ => Rs.bind (Rs.bind (Rs.bind (Rs.bind (Rs.bind (Rs.ok γ.2.2.2.2.2.2.2.1) (fun a => Rs.bind (Rs.bind (Rs.ok γ.2.2.1) (fun a => Rs.bind (Rs.bind (Rs.bind (Rs.ok γ.1) (fun d => Rs.ok (DV.mk d))) (fun a => Rs.bind (Rs.bind (Rs.ok γ.2.2.2.1) (fun a => Rs.bind (Rs.bind (Rs.ok γ.2.2.2.2.1) (fun a => Rs.bind (Rs.bind (Rs.ok true) (fun a => Rs.bind (Rs.ok ()) (fun g => Rs.ok (a, g)))) (fun g => Rs.ok (a, g)))) (fun g => Rs.ok (a, g)))) (fun g => Rs.ok (a, g)))) (fun g => Rs.ok (a, g)))) (fun g => Rs.ok (a, g)))) m_law_met) (fun b => Rs.ok (!b))) (fun b => if b = true then Rs.ok true else Rs.bind (Rs.bind (Rs.bind (Rs.ok γ.2.2.2.2.2.2.2.1) (fun a => Rs.bind (Rs.bind (Rs.ok γ.2.2.1) (fun a => Rs.bind (Rs.bind (Rs.bind (Rs.ok (⟨[]⟩ : Dct Str Int)) (fun d => Rs.ok (DV.mk d))) (fun a => Rs.bind (Rs.bind (Rs.ok γ.2.2.2.1) (fun a => Rs.bind (Rs.bind (Rs.ok γ.2.2.2.2.1) (fun a => Rs.bind (Rs.bind (Rs.ok true) (fun a => Rs.bind (Rs.ok ()) (fun g => Rs.ok (a, g)))) (fun g => Rs.ok (a, g)))) (fun g => Rs.ok (a, g)))) (fun g => Rs.ok (a, g)))) (fun g => Rs.ok (a, g)))) (fun g => Rs.ok (a, g)))) m_law_met) (fun b => Rs.ok (!b)))) (fun b => if b = true then Rs.ok false else Rs.bind (Rs.bind (Rs.bind (Rs.bind (Rs.ok γ.2.2.2.2.2.2.2.1) (fun x => Rs.bind (Rs.bind (Rs.ok γ.2.2.2.2.2.1) (fun x => Rs.bind (Rs.ok (4 : Int)) (fun y => getI x y))) (fun y => getI x y))) (fun x => Rs.ok x.2)) (fun a => Rs.ok (a, γ.1, γ.2.1, γ.2.2.1, γ.2.2.2.1, γ.2.2.2.2.1, γ.2.2.2.2.2.1, γ.2.2.2.2.2.2.1, γ.2.2.2.2.2.2.2.1, ()))) (fun γ => Rs.bind (Rs.bind (Rs.bind (Rs.bind (Rs.bind (Rs.ok γ.2.1) (fun d => Rs.ok (DV.mk d))) (fun x => Rs.bind (Rs.ok γ.1) (fun y => Rs.bind (Rs.ok (0 : Int)) (fun z => Rs.ok ((x.d.get? y).getD z))))) (fun x => Rs.bind (Rs.ok (1 : Int)) (fun y => Rs.ok (x + y)))) (fun a => Rs.bind (Rs.ok γ.1) (fun k => Rs.bind (dputR γ.2.1 k a) (fun ys => Rs.ok (γ.1, ys, γ.2.2.1, γ.2.2.2.1, γ.2.2.2.2.1, γ.2.2.2.2.2.1, γ.2.2.2.2.2.2.1, γ.2.2.2.2.2.2.2.1, γ.2.2.2.2.2.2.2.2.1, ()))))) (fun γ => Rs.bind (Rs.bind (Rs.bind (Rs.bind (Rs.ok γ.2.2.2.2.2.2.2.2.1) (fun a => Rs.bind (Rs.bind (Rs.ok γ.2.2.2.1) (fun a => Rs.bind (Rs.bind (Rs.bind (Rs.ok γ.2.1) (fun d => Rs.ok (DV.mk d))) (fun a => Rs.bind (Rs.bind (Rs.ok γ.2.2.2.2.1) (fun a => Rs.bind (Rs.bind (Rs.ok γ.2.2.2.2.2.1) (fun a => Rs.bind (Rs.bind (Rs.ok false) (fun a => Rs.bind (Rs.ok ()) (fun g => Rs.ok (a, g)))) (fun g => Rs.ok (a, g)))) (fun g => Rs.ok (a, g)))) (fun g => Rs.ok (a, g)))) (fun g => Rs.ok (a, g)))) (fun g => Rs.ok (a, g)))) m_law_met) (fun b => Rs.ok (!b))) (fun b => if b = true then Rs.ok false else Rs.bind (Rs.bind (Rs.bind (Rs.bind (Rs.ok γ.2.2.2.2.2.2.2.2.1) (fun a => Rs.bind (Rs.bind (Rs.ok γ.2.2.2.1) (fun a => Rs.bind (Rs.bind (Rs.bind (Rs.bind (Rs.ok γ.2.2.2.2.2.2.2.1) (fun x => Rs.bind (Rs.ok (1 : Int)) (fun y => Rs.ok (⟨[(x, y)]⟩ : Dct Str Int)))) (fun d => Rs.ok (DV.mk d))) (fun a => Rs.bind (Rs.bind (Rs.ok γ.2.2.2.2.1) (fun a => Rs.bind (Rs.bind (Rs.ok γ.2.2.2.2.2.1) (fun a => Rs.bind (Rs.bind (Rs.ok false) (fun a => Rs.bind (Rs.ok ()) (fun g => Rs.ok (a, g)))) (fun g => Rs.ok (a, g)))) (fun g => Rs.ok (a, g)))) (fun g => Rs.ok (a, g)))) (fun g => Rs.ok (a, g)))) (fun g => Rs.ok (a, g)))) m_law_met) (fun b => Rs.ok (!b))) (fun b => if b = true then Rs.ok false else Rs.bind (Rs.bind (Rs.bind (Rs.bind (Rs.bind (Rs.bind (Rs.bind (Rs.ok γ.2.2.2.2.2.2.2.2.1) Rs.ok) (fun xs => if xs.length ≤ 16777216 then Rs.comp (fun x => Rs.ok true) (fun x => m_law_e5 (x, (()))) xs else Rs.no)) maxI) (fun x => Rs.bind (Rs.ok (1 : Int)) (fun y => Rs.ok (x + y)))) (fun x => Rs.bind (Rs.bind (Rs.ok γ.2.2.2.2.2.2.1) (fun x => Rs.bind (Rs.ok (8 : Int)) (fun y => getI x y))) (fun y => Rs.ok (x + y)))) (fun a => Rs.ok (a, γ.1, γ.2.2.1, γ.2.2.2.2.1, γ.2.2.2.2.2.1, γ.2.2.2.2.2.2.1, γ.2.2.2.2.2.2.2.1, γ.2.2.2.2.2.2.2.2.1, ()))) (fun γ => Rs.bind (Rs.bind (Rs.bind (Rs.bind (Rs.ok γ.2.2.2.2.2.2.2.1) (fun a => Rs.bind (Rs.bind (Rs.ok γ.1) (fun a => Rs.bind (Rs.bind (Rs.bind (Rs.ok (⟨[]⟩ : Dct Str Int)) (fun d => Rs.ok (DV.mk d))) (fun a => Rs.bind (Rs.bind (Rs.ok γ.2.2.2.1) (fun a => Rs.bind (Rs.bind (Rs.ok γ.2.2.2.2.1) (fun a => Rs.bind (Rs.bind (Rs.ok false) (fun a => Rs.bind (Rs.ok ()) (fun g => Rs.ok (a, g)))) (fun g => Rs.ok (a, g)))) (fun g => Rs.ok (a, g)))) (fun g => Rs.ok (a, g)))) (fun g => Rs.ok (a, g)))) (fun g => Rs.ok (a, g)))) m_law_met) (fun b => Rs.ok (!b))) (fun b => if b = true then Rs.ok false else Rs.bind (Rs.bind (Rs.bind (Rs.ok γ.2.2.2.2.2.1) (fun x => Rs.bind (Rs.ok (5 : Int)) (fun y => getI x y))) (fun x => Rs.bind (Rs.ok (0 : Int)) (fun y => Rs.ok (decide (y < x))))) (fun b => if b = true then Rs.ok true else Rs.bind (Rs.bind (Rs.ok γ.2.2.2.2.2.2.2.1) (fun a => Rs.bind (Rs.bind (Rs.ok γ.1) (fun a => Rs.bind (Rs.bind (Rs.bind (Rs.ok γ.2.2.1) (fun d => Rs.ok (DV.mk d))) (fun a => Rs.bind (Rs.bind (Rs.ok γ.2.1) (fun a => Rs.bind (Rs.bind (Rs.ok γ.2.2.2.2.2.2.1) (fun a => Rs.bind (Rs.bind (Rs.bind (Rs.ok γ.2.2.2.2.2.1) (fun x => Rs.bind (Rs.ok (6 : Int)) (fun y => getI x y))) (fun a => Rs.bind (Rs.bind (Rs.ok γ.2.2.2.1) (fun a => Rs.bind (Rs.bind (Rs.ok γ.2.2.2.2.1) (fun a => Rs.bind (Rs.ok ()) (fun g => Rs.ok (a, g)))) (fun g => Rs.ok (a, g)))) (fun g => Rs.ok (a, g)))) (fun g => Rs.ok (a, g)))) (fun g => Rs.ok (a, g)))) (fun g => Rs.ok (a, g)))) (fun g => Rs.ok (a, g)))) (fun g => Rs.ok (a, g)))) m_law_refused))))))))))
noncomputable def m_law : Ctx.T [.fz 0 Script] → Rs Bool := fun γ => Rs.bind (Rs.bind (Rs.bind (Rs.bind (Rs.ok γ.1) (fun a => Rs.bind (Rs.bind (Rs.ok (6 : Int)) (fun a => Rs.bind (Rs.bind (Rs.ok (5 : Int)) (fun a => Rs.bind (Rs.bind (Rs.ok (7 : Int)) (fun a => Rs.bind (Rs.bind (Rs.ok (10 : Int)) (fun a => Rs.bind (Rs.bind (Rs.ok (5 : Int)) (fun a => Rs.bind (Rs.bind (Rs.ok (8 : Int)) (fun a => Rs.bind (Rs.bind (Rs.ok (1 : Int)) (fun a => Rs.bind (Rs.ok ()) (fun g => Rs.ok (a, g)))) (fun g => Rs.ok (a, g)))) (fun g => Rs.ok (a, g)))) (fun g => Rs.ok (a, g)))) (fun g => Rs.ok (a, g)))) (fun g => Rs.ok (a, g)))) (fun g => Rs.ok (a, g)))) (fun g => Rs.ok (a, g)))) m_law_sheets) (fun a => Rs.ok (a, γ.1, ()))) (fun γ => Rs.bind (Rs.bind (Rs.bind (Rs.ok γ.1) (fun x => Rs.ok x.1)) (fun a => Rs.ok (a, γ.1, γ.2.1, ()))) (fun γ => Rs.bind (Rs.bind (Rs.bind (Rs.ok γ.1) (fun x => Rs.ok (x.length : Int))) (fun a => Rs.ok (a, γ.1, γ.2.1, γ.2.2.1, ()))) (fun γ => Rs.bind (Rs.bind (Rs.bind (Rs.bind (Rs.ok γ.2.2.1) (fun x => Rs.ok x.2)) (fun x => Rs.bind (Rs.ok γ.1) (fun y => getI x y))) (fun a => Rs.ok (a, γ.1, γ.2.1, γ.2.2.2.1, ()))) (fun γ => Rs.bind (Rs.bind (Rs.bind (Rs.bind (Rs.bind (Rs.bind (Rs.ok γ.2.2.2.1) (fun a => Rs.bind (Rs.bind (Rs.ok (3 : Int)) (fun a => Rs.bind (Rs.ok ()) (fun g => Rs.ok (a, g)))) (fun g => Rs.ok (a, g)))) m_law_given) (fun a => Rs.bind (Rs.bind (Rs.bind (Rs.bind (Rs.ok (4 : Int)) (fun a => Rs.bind (Rs.bind (Rs.ok (6 : Int)) (fun a => Rs.bind (Rs.bind (Rs.ok (13 : Int)) (fun a => Rs.bind (Rs.bind (Rs.ok (840 : Int)) (fun a => Rs.bind (Rs.bind (Rs.ok γ.2.1) (fun a => Rs.bind (Rs.bind (Rs.ok (8 : Int)) (fun a => Rs.bind (Rs.bind (Rs.ok (8 : Int)) (fun a => Rs.bind (Rs.bind (Rs.ok (840 : Int)) (fun a => Rs.bind (Rs.bind (Rs.ok (3 : Int)) (fun a => Rs.bind (Rs.ok ([] : List Int)) (fun g => Rs.ok (a :: g)))) (fun g => Rs.ok (a :: g)))) (fun g => Rs.ok (a :: g)))) (fun g => Rs.ok (a :: g)))) (fun g => Rs.ok (a :: g)))) (fun g => Rs.ok (a :: g)))) (fun g => Rs.ok (a :: g)))) (fun g => Rs.ok (a :: g)))) (fun g => Rs.ok (a :: g)))) Rs.ok) (fun a => Rs.bind (Rs.ok ()) (fun g => Rs.ok (a, g)))) (fun g => Rs.ok (a, g)))) m_law_draws) (fun a => Rs.ok (a, γ.1, γ.2.2.1, γ.2.2.2.1, ()))) (fun γ => Rs.bind (Rs.bind (Rs.bind (Rs.bind (Rs.ok γ.1) (fun x => Rs.bind (Rs.ok (0 : Int)) (fun y => getI x y))) (fun x => Rs.bind (Rs.ok (0 : Int)) (fun y => Rs.ok (decide (x = y))))) (fun a => Rs.ok (a, γ.1, γ.2.1, γ.2.2.1, γ.2.2.2.1, ()))) (fun γ => Rs.bind (Rs.bind (Rs.bind (Rs.bind (Rs.ok γ.2.1) (fun a => Rs.bind (Rs.ok ()) (fun g => Rs.ok (a, g)))) m_law_width) (fun a => Rs.ok (a, γ.1, γ.2.1, γ.2.2.1, γ.2.2.2.1, γ.2.2.2.2.1, ()))) (fun γ => Rs.bind (Rs.bind (Rs.bind (Rs.bind (Rs.ok γ.2.2.2.2.1) (fun a => Rs.bind (Rs.bind (Rs.bind (Rs.bind (Rs.bind (Rs.ok γ.2.2.1) (fun x => Rs.bind (Rs.ok (2 : Int)) (fun y => getI x y))) (fun n => Rng 0 n)) (fun xs => if xs.length ≤ 16777216 then Rs.comp (fun x => Rs.ok true) (fun x => m_law_e1 (x, (γ.2.2.2.2.2.1, ()))) xs else Rs.no)) (fun a => Rs.bind (Rs.bind (Rs.ok γ.1) (fun a => Rs.bind (Rs.bind (Rs.ok (12 : Int)) (fun a => Rs.bind (Rs.ok ()) (fun g => Rs.ok (a, g)))) (fun g => Rs.ok (a, g)))) (fun g => Rs.ok (a, g)))) (fun g => Rs.ok (a, g)))) m_law_wild_log) (fun a => Rs.ok (a, γ.1, γ.2.1, γ.2.2.1, γ.2.2.2.1, γ.2.2.2.2.1, γ.2.2.2.2.2.1, ()))) (fun γ => Rs.bind (Rs.bind (Rs.bind (Rs.bind (Rs.bind (Rs.ok γ.2.2.2.2.2.1) (fun a => Rs.bind (Rs.bind (Rs.ok γ.1) (fun a => Rs.bind (Rs.ok ()) (fun g => Rs.ok (a, g)))) (fun g => Rs.ok (a, g)))) m_law_walk) (fun x => Rs.bind (Rs.bind (Rs.ok γ.1) (fun x => Rs.ok (x.length : Int))) (fun y => getI x y))) (fun a => Rs.ok (a, γ.1, γ.2.1, γ.2.2.1, γ.2.2.2.1, γ.2.2.2.2.1, γ.2.2.2.2.2.1, γ.2.2.2.2.2.2.1, ()))) (fun γ => Rs.bind (Rs.bind (Rs.bind (Rs.bind (Rs.ok γ.1) (fun a => Rs.bind (Rs.bind (Rs.ok γ.2.1) (fun a => Rs.bind (Rs.bind (Rs.bind (Rs.ok γ.2.2.2.2.1) (fun x => Rs.bind (Rs.ok (3 : Int)) (fun y => getI x y))) (fun a => Rs.bind (Rs.ok ()) (fun g => Rs.ok (a, g)))) (fun g => Rs.ok (a, g)))) (fun g => Rs.ok (a, g)))) m_law_finished) (fun a => Rs.ok (γ.1, a, γ.2.2.1, γ.2.2.2.1, γ.2.2.2.2.1, γ.2.2.2.2.2.1, γ.2.2.2.2.2.2.1, γ.2.2.2.2.2.2.2.1, ()))) (fun γ => Rs.bind (Rs.bind (Rs.bind (Rs.bind (Rs.ok γ.2.2.2.2.2.2.1) (fun a => Rs.bind (Rs.bind (Rs.ok γ.2.1) (fun a => Rs.bind (Rs.ok ()) (fun g => Rs.ok (a, g)))) (fun g => Rs.ok (a, g)))) m_law_walk) (fun a => Rs.ok (a, γ.2.1, γ.2.2.1, γ.2.2.2.1, γ.2.2.2.2.1, γ.2.2.2.2.2.1, γ.2.2.2.2.2.2.1, γ.2.2.2.2.2.2.2.1, ()))) (fun γ => Rs.bind (Rs.bind (Rs.bind (Rs.bind (Rs.bind (Rs.ok γ.1) (fun x => Rs.bind (Rs.bind (Rs.ok γ.2.1) (fun x => Rs.ok (x.length : Int))) (fun y => getI x y))) (fun x => Rs.bind (Rs.ok (0 : Int)) (fun y => getI x y))) (fun x => Rs.ok x.1)) (fun a => Rs.ok (a, γ.1, γ.2.1, γ.2.2.1, γ.2.2.2.1, γ.2.2.2.2.1, γ.2.2.2.2.2.1, γ.2.2.2.2.2.2.1, γ.2.2.2.2.2.2.2.1, ()))) (fun γ => Rs.bind (Rs.bind (Rs.bind (Rs.bind (Rs.bind (Rs.ok γ.2.1) (fun x => Rs.bind (Rs.bind (Rs.ok γ.2.2.1) (fun x => Rs.ok (x.length : Int))) (fun y => getI x y))) (fun a => Rs.bind (Rs.ok ()) (fun g => Rs.ok (a, g)))) m_law_shares) (fun a => Rs.ok (a, γ.1, γ.2.1, γ.2.2.1, γ.2.2.2.1, γ.2.2.2.2.1, γ.2.2.2.2.2.1, γ.2.2.2.2.2.2.1, γ.2.2.2.2.2.2.2.1, γ.2.2.2.2.2.2.2.2.1, ()))) (fun γ => Rs.bind (Rs.bind (Rs.bind (Rs.ok γ.2.2.1) (fun x => Rs.bind (Rs.bind (Rs.bind (Rs.bind (Rs.ok γ.2.2.2.2.2.2.1) (fun x => Rs.bind (Rs.ok (7 : Int)) (fun y => getI x y))) (fun x => Rs.ok x)) (fun x => Rs.bind (Rs.bind (Rs.ok γ.2.2.1) (fun x => Rs.ok (x.length : Int))) (fun y => if 0 < y then Rs.ok (x % y) else Rs.no))) (fun y => getI x y))) (fun a => Rs.ok (a, γ.1, γ.2.1, γ.2.2.1, γ.2.2.2.1, γ.2.2.2.2.1, γ.2.2.2.2.2.1, γ.2.2.2.2.2.2.1, γ.2.2.2.2.2.2.2.1, γ.2.2.2.2.2.2.2.2.1, γ.2.2.2.2.2.2.2.2.2.1, ()))) (fun γ => Rs.left (Rs.bind (Rs.bind (Rs.bind (Rs.bind (Rs.ok γ.2.2.2.2.2.2.2.2.2.1) (fun a => Rs.bind (Rs.bind (Rs.ok γ.1) (fun a => Rs.bind (Rs.bind (Rs.bind (Rs.ok γ.2.2.2.1) (fun x => Rs.bind (Rs.bind (Rs.ok γ.2.2.2.2.1) (fun x => Rs.ok (x.length : Int))) (fun y => getI x y))) (fun a => Rs.bind (Rs.ok ([] : List (List (Int × Str)))) (fun g => Rs.ok (a :: g)))) (fun g => Rs.ok (a :: g)))) (fun g => Rs.ok (a :: g)))) Rs.ok) Rs.ok) (fun xs => Rs.foldR (fun γ x => m_law_l4 (x, γ)) γ xs)) m_law_b6))))))))))))))
end Wk
set_option Elab.async false
set_option linter.all false
set_option maxRecDepth 100000
set_option maxHeartbeats 4000000
namespace Wk
open PySem PySem.Spec PyProof.Rows L2 Wm
/-! ### each def keeps its mirror -/
section
variable {P : Program} {w : World} {K : PySem.W.Frag} {mg : Str → Option Value} {base : Heap} [TabT]
theorem ok_law_cell (T : Txt K mg) (Lb : Lm T base) : FnOk P w K mg base (L2N.CX P w) 2 T.a_law_cell T.d_law_cell ["script", "k"] (spF (wdOf T) (kF : Kd (wdOf T) Int) [.fz 0 Script, .fz 1 Int] m_law_cell) :=
  fn_ok T.F_law_cell sc_law_cell rfl (fun cdv A outer s H E hr =>
    b_ifT (q_cmp op_lt m_lt (e_var (Var.s (Var.z))) (e_b1 call_len_seq m_lenScript (by rfl) T.n_len bt_len (e_var (Var.z)))) (t_ret (e_t1 call_int1 m_int (by rfl) T.n_int bt_int (e_ix ix_list m_ixScript (e_var (Var.z)) (e_var (Var.s (Var.z)))))) (t_ret (e_int)))
theorem ok_law_given (T : Txt K mg) (Lb : Lm T base) : FnOk P w K mg base (L2N.CX P w) 3 T.a_law_given T.d_law_given ["script", "k"] (spF (wdOf T) (kF : Kd (wdOf T) Int) [.fz 0 Script, .fz 1 Int] m_law_given) :=
  fn_ok T.F_law_given sc_law_given rfl (fun cdv A outer s H E hr =>
    b_ifT (q_cmp op_lt m_lt (e_var (Var.s (Var.z))) (e_b1 call_len_seq m_lenScript (by rfl) T.n_len bt_len (e_var (Var.z)))) (t_ret (e_t1 call_int1 m_int (by rfl) T.n_int bt_int (e_ix ix_list m_ixScript (e_var (Var.z)) (e_var (Var.s (Var.z)))))) (t_ret (e_op op_add m_add (e_op op_mul m_mul (e_int) (e_op op_add m_add (e_var (Var.s (Var.z))) (e_int))) (e_op op_mul m_mul (e_int) (e_call (Γ := [.fz 0 Script, .fz 1 Int]) (L2N.takes_of rfl rfl rfl rfl) (ok_law_cell T Lb) (hr.mono (by decide)) T.g_law_cell T.F_law_cell.kp T.b_law_cell (a_cons (e_var (Var.z)) (a_cons (e_int) (a_nil))))))))
theorem ok_law_draws (T : Txt K mg) (Lb : Lm T base) : FnOk P w K mg base (L2N.CX P w) 2 T.a_law_draws T.d_law_draws ["cell", "sizes"] (spF (wdOf T) (kO : Kd (wdOf T) (List Int)) [.fz 0 Int, .bo 1 (List Int)] m_law_draws) :=
  fn_ok T.F_law_draws sc_law_draws rfl (fun cdv A outer s H E hr =>
    b_consT (c1 := [.ow 2 (List Int), .fz 0 Int, .bo 1 (List Int)]) (s_setO sc_law_draws.nd (e_lst (l_nil (α := Int))) (Sub.keep (Sub.keep (Sub.nil))) (by exact ⟨(show 2 < 7 by decide), trivial⟩) rfl) (b_consT (c1 := [.fz 3 Int, .ow 2 (List Int), .fz 0 Int, .bo 1 (List Int)]) (s_set sc_law_draws.nd (e_t1 call_int1 m_int (by rfl) T.n_int bt_int (e_var (Var.s (Var.z)))) (Sub.keep (Sub.keep (Sub.keep (Sub.nil)))) (by exact ⟨(show 3 < 7 by decide), trivial⟩) rfl) (b_consT (c1 := [.fz 4 Bool, .fz 3 Int, .ow 2 (List Int), .fz 0 Int, .bo 1 (List Int)]) (s_set sc_law_draws.nd (e_cmp op_ge m_ge (e_var (Var.z)) (e_op op_pow m_pow (e_int) (e_int))) (Sub.keep (Sub.keep (Sub.keep (Sub.keep (Sub.nil))))) (by exact ⟨(show 4 < 7 by decide), trivial⟩) rfl) (b_consT (c1 := [.fz 4 Bool, .fz 3 Int, .ow 2 (List Int), .fz 0 Int, .bo 1 (List Int)]) (s_for (mb := m_law_draws_l1) (passes_of rfl) rfl (by first | exact .inl rfl | exact .inr rfl) (i_rng1 (fr := .g) (by rfl) T.n_range (e_b1 call_len_seq m_lenL (by rfl) T.n_len bt_len (e_varB (Var.s (Var.s (Var.s (Var.s (Var.z)))))))) (pg_name (i := 5) sc_law_draws.nd rfl (by first | exact .inl rfl | exact .inr rfl)) (g_name (by exact ⟨(show 5 < 7 by decide), trivial⟩) rfl) (b_cons (c1 := [.fz 4 Bool, .fz 3 Int, .ow 2 (List Int), .fz 0 Int, .bo 1 (List Int)]) (s_if (PW.pt (q_and (q_val (e_var (Var.s (Var.z)))) (q_and1 (q_cmp op_gt m_gt (e_var (Var.s (Var.s (Var.z)))) (e_int))))) (b_cons (c1 := [.fz 5 Int, .fz 4 Bool, .fz 3 Int, .ow 2 (List Int), .fz 0 Int, .bo 1 (List Int)]) (s_append (Var.s (Var.s (Var.s (Var.z)))) (e_op op_mod m_mod (e_t1 call_int1 m_int (by rfl) T.n_int bt_int (e_var (Var.s (Var.s (Var.z))))) (e_ix ix_list m_ixL (e_varB (Var.s (Var.s (Var.s (Var.s (Var.s (Var.z))))))) (e_var (Var.z))))) (b_cons (c1 := [.fz 5 Int, .fz 4 Bool, .fz 3 Int, .ow 2 (List Int), .fz 0 Int, .bo 1 (List Int)]) (s_upd sc_law_draws.nd (e_op op_fdiv m_div (e_t1 call_int1 m_int (by rfl) T.n_int bt_int (e_var (Var.s (Var.s (Var.z))))) (e_ix ix_list m_ixL (e_varB (Var.s (Var.s (Var.s (Var.s (Var.s (Var.z))))))) (e_var (Var.z)))) (Var.s (Var.s (Var.z))) (by exact ⟨(show 3 < 7 by decide), trivial⟩)) (b_nil (Sub.skip (Sub.keep (Sub.keep (Sub.keep (Sub.keep (Sub.keep (Sub.nil)))))))))) (b_cons (c1 := [.fz 6 Int, .fz 5 Int, .fz 4 Bool, .fz 3 Int, .ow 2 (List Int), .fz 0 Int, .bo 1 (List Int)]) (s_set sc_law_draws.nd (e_op op_mod m_mod (e_t1 call_int1 m_int (by rfl) T.n_int bt_int (e_op op_add m_add (e_op op_add m_add (e_var (Var.s (Var.s (Var.s (Var.s (Var.z)))))) (e_op op_mul m_mul (e_int) (e_var (Var.z)))) (e_int))) (e_int)) (Sub.keep (Sub.keep (Sub.keep (Sub.keep (Sub.keep (Sub.keep (Sub.nil))))))) (by exact ⟨(show 6 < 7 by decide), trivial⟩) rfl) (b_cons (c1 := [.fz 6 Int, .fz 5 Int, .fz 4 Bool, .fz 3 Int, .ow 2 (List Int), .fz 0 Int, .bo 1 (List Int)]) (s_upd sc_law_draws.nd (e_op op_mod m_mod (e_t1 call_int1 m_int (by rfl) T.n_int bt_int (e_op op_mul m_mul (e_var (Var.z)) (e_op op_add m_add (e_var (Var.z)) (e_int)))) (e_int)) (Var.z) (by exact ⟨(show 6 < 7 by decide), trivial⟩)) (b_cons (c1 := [.fz 6 Int, .fz 5 Int, .fz 4 Bool, .fz 3 Int, .ow 2 (List Int), .fz 0 Int, .bo 1 (List Int)]) (s_upd sc_law_draws.nd (e_op op_mod m_mod (e_t1 call_int1 m_int (by rfl) T.n_int bt_int (e_op op_add m_add (e_op op_mul m_mul (e_var (Var.z)) (e_op op_add m_add (e_var (Var.z)) (e_int))) (e_op op_mul m_mul (e_int) (e_var (Var.s (Var.z)))))) (e_int)) (Var.z) (by exact ⟨(show 6 < 7 by decide), trivial⟩)) (b_cons (c1 := [.fz 6 Int, .fz 5 Int, .fz 4 Bool, .fz 3 Int, .ow 2 (List Int), .fz 0 Int, .bo 1 (List Int)]) (s_append (Var.s (Var.s (Var.s (Var.s (Var.z))))) (e_op op_mod m_mod (e_t1 call_int1 m_int (by rfl) T.n_int bt_int (e_op op_fdiv m_div (e_var (Var.z)) (e_int))) (e_ix ix_list m_ixL (e_varB (Var.s (Var.s (Var.s (Var.s (Var.s (Var.s (Var.z)))))))) (e_var (Var.s (Var.z)))))) (b_nil (Sub.skip (Sub.skip (Sub.keep (Sub.keep (Sub.keep (Sub.keep (Sub.keep (Sub.nil)))))))))))))) (b_nil (Sub.keep (Sub.keep (Sub.keep (Sub.keep (Sub.keep (Sub.nil))))))))) (t_retW (Var.s (Var.s (Var.z))))))))
theorem ok_law_names (T : Txt K mg) (Lb : Lm T base) : FnOk P w K mg base (L2N.CX P w) 3 T.a_law_names T.d_law_names ["cell", "count"] (spF (wdOf T) (kO : Kd (wdOf T) (List Str)) [.fz 0 Int, .fz 1 Int] m_law_names) :=
  fn_ok T.F_law_names sc_law_names rfl (fun cdv A outer s H E hr =>
    b_consT (c1 := [.fz 2 Str, .fz 0 Int, .fz 1 Int]) (s_set sc_law_names.nd (e_str) (Sub.keep (Sub.keep (Sub.nil))) (by exact ⟨(show 2 < 11 by decide), trivial⟩) rfl) (b_consT (c1 := [.ow 3 (List Int), .fz 2 Str, .fz 1 Int]) (s_setO sc_law_names.nd (e_call (Γ := [.fz 0 Int, .bo 1 (List Int)]) (L2N.takes_of rfl rfl rfl rfl) (ok_law_draws T Lb) (hr.mono (by decide)) T.g_law_draws T.F_law_draws.kp T.b_law_draws (a_cons (e_var (Var.s (Var.z))) (a_consB (e_ob (e_op op_cat m_cat (e_ob (e_lst (l_cons (e_int) (l_cons (e_int) (l_cons (e_int) (l_nil (α := Int))))))) (e_ob (e_op op_rep m_rep (e_ob (e_lst (l_cons (e_int) (l_cons (e_int) (l_cons (e_int) (l_cons (e_int) (l_nil (α := Int)))))))) (e_var (Var.s (Var.s (Var.z)))))))) (a_nil)))) (Sub.keep (Sub.skip (Sub.keep (Sub.nil)))) (by exact ⟨(show 3 < 11 by decide), trivial⟩) rfl) (b_consT (c1 := [.ow 4 (List Str), .ow 3 (List Int), .fz 2 Str, .fz 1 Int]) (s_setO sc_law_names.nd (e_lst (l_nil (α := Str))) (Sub.keep (Sub.keep (Sub.keep (Sub.nil)))) (by exact ⟨(show 4 < 11 by decide), trivial⟩) rfl) (b_consT (c1 := [.ow 4 (List Str), .ow 3 (List Int), .fz 2 Str, .fz 1 Int]) (s_for (mb := m_law_names_l1) (passes_of rfl) rfl (by first | exact .inl rfl | exact .inr rfl) (i_rng1 (fr := .g) (by rfl) T.n_range (e_var (Var.s (Var.s (Var.s (Var.z)))))) (pg_name (i := 5) sc_law_names.nd rfl (by first | exact .inl rfl | exact .inr rfl)) (g_name (by exact ⟨(show 5 < 11 by decide), trivial⟩) rfl) (b_cons (c1 := [.fz 6 Int, .fz 5 Int, .ow 4 (List Str), .ow 3 (List Int), .fz 2 Str, .fz 1 Int]) (s_set sc_law_names.nd (e_op op_mod m_mod (e_t1 call_int1 m_int (by rfl) T.n_int bt_int (e_op op_add m_add (e_ix ix_list m_ixL (e_varW (Var.s (Var.s (Var.z)))) (e_int)) (e_op op_mul m_mul (e_var (Var.z)) (e_op op_add m_add (e_int) (e_op op_fdiv m_div (e_ix ix_list m_ixL (e_varW (Var.s (Var.s (Var.z)))) (e_int)) (e_int)))))) (e_int)) (Sub.keep (Sub.keep (Sub.keep (Sub.keep (Sub.keep (Sub.nil)))))) (by exact ⟨(show 6 < 11 by decide), trivial⟩) rfl) (b_cons (c1 := [.ow 4 (List Str), .ow 3 (List Int), .fz 2 Str, .fz 1 Int]) (s_if (PW.pt (q_and (q_cmp op_eq m_eqI (e_ix ix_list m_ixL (e_varW (Var.s (Var.s (Var.s (Var.z))))) (e_int)) (e_int)) (q_and1 (q_cmp op_le m_le (e_op op_mul m_mul (e_var (Var.s (Var.s (Var.s (Var.s (Var.s (Var.z))))))) (e_op op_add m_add (e_int) (e_op op_fdiv m_div (e_ix ix_list m_ixL (e_varW (Var.s (Var.s (Var.s (Var.z))))) (e_int)) (e_int)))) (e_int))))) (b_cons (c1 := [.fz 6 Int, .fz 5 Int, .ow 4 (List Str), .ow 3 (List Int), .fz 2 Str, .fz 1 Int]) (s_append (Var.s (Var.s (Var.z))) (e_ix ix_str m_ixS (e_var (Var.s (Var.s (Var.s (Var.s (Var.z)))))) (e_var (Var.z)))) (b_nil (Sub.skip (Sub.skip (Sub.keep (Sub.keep (Sub.keep (Sub.keep (Sub.nil))))))))) (b_cons (c1 := [.fz 7 Int, .fz 5 Int, .ow 4 (List Str), .ow 3 (List Int), .fz 2 Str, .fz 1 Int]) (s_set sc_law_names.nd (e_op op_mod m_mod (e_t1 call_int1 m_int (by rfl) T.n_int bt_int (e_op op_add m_add (e_op op_add m_add (e_op op_mul m_mul (e_int) (e_ix ix_list m_ixL (e_varW (Var.s (Var.s (Var.s (Var.z))))) (e_int))) (e_ix ix_list m_ixL (e_varW (Var.s (Var.s (Var.s (Var.z))))) (e_int))) (e_op op_mul m_mul (e_int) (e_var (Var.s (Var.z)))))) (e_int)) (Sub.skip (Sub.keep (Sub.keep (Sub.keep (Sub.keep (Sub.keep (Sub.nil))))))) (by exact ⟨(show 7 < 11 by decide), trivial⟩) rfl) (b_cons (c1 := [.fz 8 Int, .fz 7 Int, .ow 4 (List Str), .ow 3 (List Int), .fz 2 Str, .fz 1 Int]) (s_set sc_law_names.nd (e_op op_mul m_mul (e_op op_mul m_mul (e_int) (e_var (Var.s (Var.z)))) (e_t1 call_int1 m_intB (by rfl) T.n_int bt_int (e_cmp op_gt m_gt (e_op op_mod m_mod (e_t1 call_int1 m_int (by rfl) T.n_int bt_int (e_ix ix_list m_ixL (e_varW (Var.s (Var.s (Var.s (Var.z))))) (e_int))) (e_int)) (e_int)))) (Sub.keep (Sub.skip (Sub.keep (Sub.keep (Sub.keep (Sub.keep (Sub.nil))))))) (by exact ⟨(show 8 < 11 by decide), trivial⟩) rfl) (b_cons (c1 := [.fz 9 Str, .fz 8 Int, .fz 7 Int, .ow 4 (List Str), .ow 3 (List Int), .fz 2 Str, .fz 1 Int]) (s_set sc_law_names.nd (e_op op_add_str m_catS (e_op op_add_str m_catS (e_ix ix_str m_ixS (e_var (Var.s (Var.s (Var.s (Var.s (Var.z)))))) (e_ix ix_list m_ixL (e_varW (Var.s (Var.s (Var.s (Var.z))))) (e_op op_add m_add (e_int) (e_var (Var.z))))) (e_ix ix_str m_ixS (e_var (Var.s (Var.s (Var.s (Var.s (Var.z)))))) (e_ix ix_list m_ixL (e_varW (Var.s (Var.s (Var.s (Var.z))))) (e_op op_add m_add (e_int) (e_var (Var.z)))))) (e_ix ix_str m_ixS (e_var (Var.s (Var.s (Var.s (Var.s (Var.z)))))) (e_ix ix_list m_ixL (e_varW (Var.s (Var.s (Var.s (Var.z))))) (e_op op_add m_add (e_int) (e_var (Var.z)))))) (Sub.keep (Sub.keep (Sub.keep (Sub.keep (Sub.keep (Sub.keep (Sub.nil))))))) (by exact ⟨(show 9 < 11 by decide), trivial⟩) rfl) (b_cons (c1 := [.fz 9 Str, .fz 8 Int, .fz 7 Int, .ow 4 (List Str), .ow 3 (List Int), .fz 2 Str, .fz 1 Int]) (s_upd sc_law_names.nd (e_slS (e_op op_add_str m_catS (e_var (Var.z)) (e_var (Var.z))) (p_none) (p_some (e_ix ix_list m_ixL (e_varW (Var.s (Var.s (Var.s (Var.s (Var.z)))))) (e_op op_add m_add (e_int) (e_var (Var.s (Var.z))))))) (Var.z) (by exact ⟨(show 9 < 11 by decide), trivial⟩)) (b_cons (c1 := [.fz 10 Str, .fz 9 Str, .ow 4 (List Str), .ow 3 (List Int), .fz 2 Str, .fz 1 Int]) (s_set sc_law_names.nd (e_op op_add_str m_catS (e_ix ix_str m_ixS (e_var (Var.s (Var.s (Var.s (Var.s (Var.s (Var.z))))))) (e_op op_fdiv m_div (e_var (Var.s (Var.s (Var.z)))) (e_int))) (e_ix ix_str m_ixS (e_var (Var.s (Var.s (Var.s (Var.s (Var.s (Var.z))))))) (e_op op_mod m_mod (e_t1 call_int1 m_int (by rfl) T.n_int bt_int (e_var (Var.s (Var.s (Var.z))))) (e_int)))) (Sub.keep (Sub.skip (Sub.skip (Sub.keep (Sub.keep (Sub.keep (Sub.keep (Sub.nil)))))))) (by exact ⟨(show 10 < 11 by decide), trivial⟩) rfl) (b_cons (c1 := [.fz 10 Str, .fz 9 Str, .ow 4 (List Str), .ow 3 (List Int), .fz 2 Str, .fz 1 Int]) (s_append (Var.s (Var.s (Var.z))) (e_ix ix_list m_ixL (e_ob (e_lst (l_cons (e_op op_add_str m_catS (e_var (Var.s (Var.z))) (e_var (Var.z))) (l_cons (e_op op_add_str m_catS (e_var (Var.z)) (e_var (Var.s (Var.z)))) (l_nil (α := Str)))))) (e_op op_mod m_mod (e_t1 call_int1 m_int (by rfl) T.n_int bt_int (e_ix ix_list m_ixL (e_varW (Var.s (Var.s (Var.s (Var.z))))) (e_int))) (e_int)))) (b_nil (Sub.skip (Sub.skip (Sub.keep (Sub.keep (Sub.keep (Sub.keep (Sub.nil))))))))))))))) (b_nil (Sub.keep (Sub.keep (Sub.keep (Sub.keep (Sub.nil))))))))) (t_retW (Var.z))))))
theorem ok_law_sheets (T : Txt K mg) (Lb : Lm T base) : FnOk P w K mg base (L2N.CX P w) 4 T.a_law_sheets T.d_law_sheets ["script", "small", "wide", "large", "more", "tall", "hand", "kind"] (spF (wdOf T) (kF : Kd (wdOf T) ((List (Int × Str)) × (List Str))) [.fz 0 Script, .fz 1 Int, .fz 2 Int, .fz 3 Int, .fz 4 Int, .fz 5 Int, .fz 6 Int, .fz 7 Int] m_law_sheets) :=
  fn_ok T.F_law_sheets sc_law_sheets rfl (fun cdv A outer s H E hr =>
    b_consT (c1 := [.ow 8 (List Int), .fz 0 Script, .fz 3 Int, .fz 7 Int]) (s_setO sc_law_sheets.nd (e_call (Γ := [.fz 0 Int, .bo 1 (List Int)]) (L2N.takes_of rfl rfl rfl rfl) (ok_law_draws T Lb) (hr.mono (by decide)) T.g_law_draws T.F_law_draws.kp T.b_law_draws (a_cons (e_call (Γ := [.fz 0 Script, .fz 1 Int]) (L2N.takes_of rfl rfl rfl rfl) (ok_law_given T Lb) (hr.mono (by decide)) T.g_law_given T.F_law_given.kp T.b_law_given (a_cons (e_var (Var.z)) (a_cons (e_int) (a_nil)))) (a_consB (e_ob (e_lst (l_cons (e_int) (l_cons (e_int) (l_cons (e_int) (l_cons (e_int) (l_cons (e_var (Var.s (Var.z))) (l_cons (e_op op_sub m_sub (e_var (Var.s (Var.s (Var.z)))) (e_int)) (l_cons (e_var (Var.s (Var.s (Var.s (Var.s (Var.z)))))) (l_cons (e_var (Var.s (Var.s (Var.s (Var.s (Var.s (Var.z))))))) (l_cons (e_int) (l_cons (e_int) (l_cons (e_int) (l_cons (e_int) (l_cons (e_var (Var.s (Var.s (Var.s (Var.s (Var.s (Var.s (Var.z)))))))) (l_nil (α := Int))))))))))))))))) (a_nil)))) (Sub.keep (Sub.skip (Sub.skip (Sub.keep (Sub.skip (Sub.skip (Sub.skip (Sub.keep (Sub.nil))))))))) (by exact ⟨(show 8 < 19 by decide), trivial⟩) rfl) (b_consT (c1 := [.fz 9 Int, .ow 8 (List Int), .fz 0 Script, .fz 3 Int, .fz 7 Int]) (s_set sc_law_sheets.nd (e_op op_add m_add (e_int) (e_ix ix_list m_ixL (e_varW (Var.z)) (e_int))) (Sub.keep (Sub.keep (Sub.keep (Sub.keep (Sub.nil))))) (by exact ⟨(show 9 < 19 by decide), trivial⟩) rfl) (b_consT (c1 := [.fz 10 Int, .fz 9 Int, .ow 8 (List Int), .fz 0 Script, .fz 3 Int, .fz 7 Int]) (s_set sc_law_sheets.nd (e_op op_add m_add (e_int) (e_ix ix_list m_ixL (e_varW (Var.s (Var.z))) (e_int))) (Sub.keep (Sub.keep (Sub.keep (Sub.keep (Sub.keep (Sub.nil)))))) (by exact ⟨(show 10 < 19 by decide), trivial⟩) rfl) (b_consT (c1 := [.fz 10 Int, .fz 9 Int, .ow 8 (List Int), .fz 0 Script, .fz 7 Int]) (s_if (q_cmp op_eq m_eqI (e_ix ix_list m_ixL (e_varW (Var.s (Var.s (Var.z)))) (e_int)) (e_int)) (b_cons (c1 := [.fz 10 Int, .fz 9 Int, .ow 8 (List Int), .fz 0 Script, .fz 3 Int, .fz 7 Int]) (s_upd sc_law_sheets.nd (e_op op_add m_add (e_var (Var.s (Var.s (Var.s (Var.s (Var.z)))))) (e_ix ix_list m_ixL (e_varW (Var.s (Var.s (Var.z)))) (e_int))) (Var.s (Var.z)) (by exact ⟨(show 9 < 19 by decide), trivial⟩)) (b_cons (c1 := [.fz 10 Int, .fz 9 Int, .ow 8 (List Int), .fz 0 Script, .fz 3 Int, .fz 7 Int]) (s_upd sc_law_sheets.nd (e_op op_add m_add (e_int) (e_ix ix_list m_ixL (e_varW (Var.s (Var.s (Var.z)))) (e_int))) (Var.z) (by exact ⟨(show 10 < 19 by decide), trivial⟩)) (b_nil (Sub.keep (Sub.keep (Sub.keep (Sub.keep (Sub.skip (Sub.keep (Sub.nil)))))))))) (b_nil (Sub.keep (Sub.keep (Sub.keep (Sub.keep (Sub.skip (Sub.keep (Sub.nil))))))))) (b_consT (c1 := [.fz 11 Int, .fz 10 Int, .fz 9 Int, .ow 8 (List Int), .fz 0 Script, .fz 7 Int]) (s_set sc_law_sheets.nd (e_int) (Sub.keep (Sub.keep (Sub.keep (Sub.keep (Sub.keep (Sub.nil)))))) (by exact ⟨(show 11 < 19 by decide), trivial⟩) rfl) (b_consT (c1 := [.fz 11 Int, .fz 10 Int, .fz 9 Int, .ow 8 (List Int), .fz 0 Script, .fz 7 Int]) (s_if (q_cmp op_eq m_eqI (e_ix ix_list m_ixL (e_varW (Var.s (Var.s (Var.s (Var.z))))) (e_int)) (e_int)) (b_cons (c1 := [.fz 11 Int, .fz 10 Int, .fz 9 Int, .ow 8 (List Int), .fz 0 Script, .fz 7 Int]) (s_upd sc_law_sheets.nd (e_ix ix_list m_ixL (e_varW (Var.s (Var.s (Var.s (Var.z))))) (e_int)) (Var.z) (by exact ⟨(show 11 < 19 by decide), trivial⟩)) (b_cons (c1 := [.fz 11 Int, .fz 10 Int, .fz 9 Int, .ow 8 (List Int), .fz 0 Script, .fz 7 Int]) (s_upd sc_law_sheets.nd (e_op op_add m_add (e_int) (e_ix ix_list m_ixL (e_varW (Var.s (Var.s (Var.s (Var.z))))) (e_int))) (Var.s (Var.s (Var.z))) (by exact ⟨(show 9 < 19 by decide), trivial⟩)) (b_nil (Sub.keep (Sub.keep (Sub.keep (Sub.keep (Sub.keep (Sub.keep (Sub.nil)))))))))) (b_nil (Sub.keep (Sub.keep (Sub.keep (Sub.keep (Sub.keep (Sub.keep (Sub.nil))))))))) (b_consT (c1 := [.fz 11 Int, .fz 10 Int, .fz 9 Int, .ow 8 (List Int), .fz 0 Script, .fz 7 Int]) (s_if (q_cmp op_eq m_eqI (e_var (Var.z)) (e_int)) (b_cons (c1 := [.fz 11 Int, .fz 10 Int, .fz 9 Int, .ow 8 (List Int), .fz 0 Script, .fz 7 Int]) (s_upd sc_law_sheets.nd (e_int) (Var.s (Var.s (Var.z))) (by exact ⟨(show 9 < 19 by decide), trivial⟩)) (b_nil (Sub.keep (Sub.keep (Sub.keep (Sub.keep (Sub.keep (Sub.keep (Sub.nil))))))))) (b_nil (Sub.keep (Sub.keep (Sub.keep (Sub.keep (Sub.keep (Sub.keep (Sub.nil))))))))) (b_consT (c1 := [.ow 12 (List Int), .fz 11 Int, .fz 9 Int, .ow 8 (List Int), .fz 0 Script, .fz 7 Int]) (s_setO sc_law_sheets.nd (e_call (Γ := [.fz 0 Int, .bo 1 (List Int)]) (L2N.takes_of rfl rfl rfl rfl) (ok_law_draws T Lb) (hr.mono (by decide)) T.g_law_draws T.F_law_draws.kp T.b_law_draws (a_cons (e_call (Γ := [.fz 0 Script, .fz 1 Int]) (L2N.takes_of rfl rfl rfl rfl) (ok_law_given T Lb) (hr.mono (by decide)) T.g_law_given T.F_law_given.kp T.b_law_given (a_cons (e_var (Var.s (Var.s (Var.s (Var.s (Var.z)))))) (a_cons (e_int) (a_nil)))) (a_consB (e_ob (e_op op_rep m_rep (e_ob (e_lst (l_cons (e_var (Var.s (Var.z))) (l_cons (e_int) (l_cons (e_int) (l_nil (α := Int))))))) (e_var (Var.s (Var.s (Var.z)))))) (a_nil)))) (Sub.keep (Sub.skip (Sub.keep (Sub.keep (Sub.keep (Sub.keep (Sub.nil))))))) (by exact ⟨(show 12 < 19 by decide), trivial⟩) rfl) (b_consT (c1 := [.ow 13 (List Int), .ow 12 (List Int), .fz 11 Int, .fz 9 Int, .ow 8 (List Int), .fz 0 Script, .fz 7 Int]) (s_setO sc_law_sheets.nd (e_lc (own := [("k", 18)]) (c2 := [.fz 18 Int, .ow 12 (List Int)]) (mt := fun _ => Rs.ok true) (me := m_law_sheets_e1) rfl sc_law_sheets.nd (i_rng1 (fr := .g) (by rfl) T.n_range (e_var (Var.s (Var.s (Var.z))))) (blkOk_by (N := ["script", "small", "wide", "large", "more", "tall", "hand", "kind", "drawn", "count", "spread", "shape", "cells", "levels", "base", "names", "picks", "pool", "k"]) (sc := defScope s_law_sheets) (by decide +kernel)) (Sub.keep (Sub.skip (Sub.skip (Sub.skip (Sub.skip (Sub.skip (Sub.nil))))))) rfl (gc_name (by exact ⟨(show 18 < 19 by decide), trivial⟩) rfl) (fun _ _ _ _ _ => pg_name (i := 18) sc_law_sheets.nd rfl (by first | exact .inl rfl | exact .inr rfl)) (fun _ _ _ _ _ => pts_yes) (fun _ _ _ _ _ => e_ix ix_list m_ixL (e_varW (Var.s (Var.z))) (e_op op_mul m_mul (e_int) (e_var (Var.z))))) (Sub.keep (Sub.keep (Sub.keep (Sub.keep (Sub.keep (Sub.keep (Sub.nil))))))) (by exact ⟨(show 13 < 19 by decide), trivial⟩) rfl) (b_consT (c1 := [.ow 13 (List Int), .ow 12 (List Int), .fz 11 Int, .fz 9 Int, .ow 8 (List Int), .fz 0 Script, .fz 7 Int]) (s_if (q_cmp op_lt m_lt (e_var (Var.s (Var.s (Var.z)))) (e_int)) (b_cons (c1 := [.ow 13 (List Int), .ow 12 (List Int), .fz 11 Int, .fz 9 Int, .ow 8 (List Int), .fz 0 Script, .fz 7 Int]) (s_updO sc_law_sheets.nd (e_op op_rep m_rep (e_ob (e_lst (l_cons (e_int) (l_nil (α := Int))))) (e_var (Var.s (Var.s (Var.s (Var.z)))))) (Var.z) (by exact ⟨(show 13 < 19 by decide), trivial⟩)) (b_nil (Sub.keep (Sub.keep (Sub.keep (Sub.keep (Sub.keep (Sub.keep (Sub.keep (Sub.nil)))))))))) (b_nil (Sub.keep (Sub.keep (Sub.keep (Sub.keep (Sub.keep (Sub.keep (Sub.keep (Sub.nil)))))))))) (b_consT (c1 := [.ow 13 (List Int), .ow 12 (List Int), .fz 11 Int, .fz 9 Int, .ow 8 (List Int), .fz 0 Script, .fz 7 Int]) (s_if (q_cmp op_eq m_eqI (e_var (Var.s (Var.s (Var.z)))) (e_int)) (b_cons (c1 := [.ow 13 (List Int), .ow 12 (List Int), .fz 11 Int, .fz 9 Int, .ow 8 (List Int), .fz 0 Script, .fz 7 Int]) (s_updO sc_law_sheets.nd (e_lc (own := [("k", 18)]) (c2 := [.fz 18 Int, .ow 12 (List Int), .ow 8 (List Int)]) (mt := fun _ => Rs.ok true) (me := m_law_sheets_e2) rfl sc_law_sheets.nd (i_rng1 (fr := .g) (by rfl) T.n_range (e_var (Var.s (Var.s (Var.s (Var.z)))))) (blkOk_by (N := ["script", "small", "wide", "large", "more", "tall", "hand", "kind", "drawn", "count", "spread", "shape", "cells", "levels", "base", "names", "picks", "pool", "k"]) (sc := defScope s_law_sheets) (by decide +kernel)) (Sub.skip (Sub.keep (Sub.skip (Sub.skip (Sub.keep (Sub.skip (Sub.skip (Sub.nil)))))))) rfl (gc_name (by exact ⟨(show 18 < 19 by decide), trivial⟩) rfl) (fun _ _ _ _ _ => pg_name (i := 18) sc_law_sheets.nd rfl (by first | exact .inl rfl | exact .inr rfl)) (fun _ _ _ _ _ => pts_yes) (fun _ _ _ _ _ => e_op op_mul m_mul (e_op op_add m_add (e_int) (e_ix ix_list m_ixL (e_varW (Var.s (Var.s (Var.z)))) (e_int))) (e_ix ix_list m_ixL (e_varW (Var.s (Var.z))) (e_op op_add m_add (e_op op_mul m_mul (e_int) (e_var (Var.z))) (e_int))))) (Var.z) (by exact ⟨(show 13 < 19 by decide), trivial⟩)) (b_nil (Sub.keep (Sub.keep (Sub.keep (Sub.keep (Sub.keep (Sub.keep (Sub.keep (Sub.nil)))))))))) (b_nil (Sub.keep (Sub.keep (Sub.keep (Sub.keep (Sub.keep (Sub.keep (Sub.keep (Sub.nil)))))))))) (b_consT (c1 := [.ow 13 (List Int), .ow 12 (List Int), .fz 9 Int, .ow 8 (List Int), .fz 0 Script, .fz 7 Int]) (s_if (q_cmp op_eq m_eqI (e_var (Var.s (Var.s (Var.z)))) (e_int)) (b_cons (c1 := [.ow 13 (List Int), .ow 12 (List Int), .fz 11 Int, .fz 9 Int, .ow 8 (List Int), .fz 0 Script, .fz 7 Int]) (s_updO sc_law_sheets.nd (e_lc (own := [("k", 18)]) (c2 := [.fz 18 Int, .fz 9 Int, .ow 8 (List Int)]) (mt := fun _ => Rs.ok true) (me := m_law_sheets_e3) rfl sc_law_sheets.nd (i_rng1 (fr := .g) (by rfl) T.n_range (e_var (Var.s (Var.s (Var.s (Var.z)))))) (blkOk_by (N := ["script", "small", "wide", "large", "more", "tall", "hand", "kind", "drawn", "count", "spread", "shape", "cells", "levels", "base", "names", "picks", "pool", "k"]) (sc := defScope s_law_sheets) (by decide +kernel)) (Sub.skip (Sub.skip (Sub.skip (Sub.keep (Sub.keep (Sub.skip (Sub.skip (Sub.nil)))))))) rfl (gc_name (by exact ⟨(show 18 < 19 by decide), trivial⟩) rfl) (fun _ _ _ _ _ => pg_name (i := 18) sc_law_sheets.nd rfl (by first | exact .inl rfl | exact .inr rfl)) (fun _ _ _ _ _ => pts_yes) (fun _ _ _ _ _ => e_op op_mod m_mod (e_t1 call_int1 m_int (by rfl) T.n_int bt_int (e_op op_add m_add (e_var (Var.z)) (e_ix ix_list m_ixL (e_varW (Var.s (Var.s (Var.z)))) (e_int)))) (e_var (Var.s (Var.z))))) (Var.z) (by exact ⟨(show 13 < 19 by decide), trivial⟩)) (b_nil (Sub.keep (Sub.keep (Sub.skip (Sub.keep (Sub.keep (Sub.keep (Sub.keep (Sub.nil)))))))))) (b_nil (Sub.keep (Sub.keep (Sub.skip (Sub.keep (Sub.keep (Sub.keep (Sub.keep (Sub.nil)))))))))) (b_consT (c1 := [.fz 14 Int, .ow 13 (List Int), .ow 12 (List Int), .fz 9 Int, .ow 8 (List Int), .fz 0 Script, .fz 7 Int]) (s_set sc_law_sheets.nd (e_op op_sub m_sub (e_ix ix_list m_ixL (e_varW (Var.s (Var.s (Var.s (Var.z))))) (e_int)) (e_int)) (Sub.keep (Sub.keep (Sub.keep (Sub.keep (Sub.keep (Sub.keep (Sub.nil))))))) (by exact ⟨(show 14 < 19 by decide), trivial⟩) rfl) (b_consT (c1 := [.fz 14 Int, .ow 13 (List Int), .ow 12 (List Int), .fz 9 Int, .ow 8 (List Int), .fz 0 Script, .fz 7 Int]) (s_if (q_cmp op_eq m_eqI (e_ix ix_list m_ixL (e_varW (Var.s (Var.s (Var.s (Var.s (Var.z)))))) (e_int)) (e_int)) (b_cons (c1 := [.fz 14 Int, .ow 13 (List Int), .ow 12 (List Int), .fz 9 Int, .ow 8 (List Int), .fz 0 Script, .fz 7 Int]) (s_upd sc_law_sheets.nd (e_op op_sub m_sub (e_int) (e_op op_mul m_mul (e_int) (e_op op_fdiv m_div (e_ix ix_list m_ixL (e_varW (Var.s (Var.s (Var.s (Var.s (Var.z)))))) (e_int)) (e_int)))) (Var.z) (by exact ⟨(show 14 < 19 by decide), trivial⟩)) (b_nil (Sub.keep (Sub.keep (Sub.keep (Sub.keep (Sub.keep (Sub.keep (Sub.keep (Sub.nil)))))))))) (b_nil (Sub.keep (Sub.keep (Sub.keep (Sub.keep (Sub.keep (Sub.keep (Sub.keep (Sub.nil)))))))))) (b_consT (c1 := [.ow 15 (List Str), .fz 14 Int, .ow 13 (List Int), .ow 12 (List Int), .fz 9 Int, .ow 8 (List Int), .fz 7 Int]) (s_setO sc_law_sheets.nd (e_call (Γ := [.fz 0 Int, .fz 1 Int]) (L2N.takes_of rfl rfl rfl rfl) (ok_law_names T Lb) (hr.mono (by decide)) T.g_law_names T.F_law_names.kp T.b_law_names (a_cons (e_call (Γ := [.fz 0 Script, .fz 1 Int]) (L2N.takes_of rfl rfl rfl rfl) (ok_law_given T Lb) (hr.mono (by decide)) T.g_law_given T.F_law_given.kp T.b_law_given (a_cons (e_var (Var.s (Var.s (Var.s (Var.s (Var.s (Var.z))))))) (a_cons (e_int) (a_nil)))) (a_cons (e_op op_add m_add (e_var (Var.s (Var.s (Var.s (Var.z))))) (e_int)) (a_nil)))) (Sub.keep (Sub.keep (Sub.keep (Sub.keep (Sub.keep (Sub.skip (Sub.keep (Sub.nil)))))))) (by exact ⟨(show 15 < 19 by decide), trivial⟩) rfl) (b_consT (c1 := [.ow 16 (List Int), .ow 15 (List Str), .fz 14 Int, .ow 13 (List Int), .ow 12 (List Int), .fz 9 Int, .ow 8 (List Int), .fz 7 Int]) (s_setO sc_law_sheets.nd (e_listR1 rfl T.n_list T.n_range (e_var (Var.s (Var.s (Var.s (Var.s (Var.z))))))) (Sub.keep (Sub.keep (Sub.keep (Sub.keep (Sub.keep (Sub.keep (Sub.keep (Sub.nil)))))))) (by exact ⟨(show 16 < 19 by decide), trivial⟩) rfl) (b_consT (c1 := [.ow 16 (List Int), .ow 15 (List Str), .fz 14 Int, .ow 13 (List Int), .ow 12 (List Int), .fz 9 Int, .ow 8 (List Int), .fz 7 Int]) (s_if (PW.pt (q_or (q_cmp op_eq m_eqI (e_var (Var.s (Var.s (Var.s (Var.s (Var.s (Var.s (Var.s (Var.z))))))))) (e_int)) (q_or1 (PW.pt (q_and (q_cmp op_eq m_eqI (e_var (Var.s (Var.s (Var.s (Var.s (Var.s (Var.s (Var.s (Var.z))))))))) (e_int)) (q_and1 (q_cmp op_eq m_eqI (e_ix ix_list m_ixL (e_varW (Var.s (Var.s (Var.s (Var.s (Var.s (Var.s (Var.z)))))))) (e_int)) (e_int)))))))) (b_cons (c1 := [.fz 17 Int, .ow 16 (List Int), .ow 15 (List Str), .fz 14 Int, .ow 13 (List Int), .ow 12 (List Int), .fz 9 Int, .ow 8 (List Int), .fz 7 Int]) (s_set sc_law_sheets.nd (e_op op_add m_add (e_int) (e_op op_mod m_mod (e_t1 call_int1 m_int (by rfl) T.n_int bt_int (e_ix ix_list m_ixL (e_varW (Var.s (Var.s (Var.s (Var.s (Var.s (Var.s (Var.z)))))))) (e_int))) (e_var (Var.s (Var.s (Var.s (Var.s (Var.s (Var.z))))))))) (Sub.keep (Sub.keep (Sub.keep (Sub.keep (Sub.keep (Sub.keep (Sub.keep (Sub.keep (Sub.nil))))))))) (by exact ⟨(show 17 < 19 by decide), trivial⟩) rfl) (b_cons (c1 := [.fz 17 Int, .ow 16 (List Int), .ow 15 (List Str), .fz 14 Int, .ow 13 (List Int), .ow 12 (List Int), .fz 9 Int, .ow 8 (List Int), .fz 7 Int]) (s_updO sc_law_sheets.nd (e_lc (own := [("k", 18)]) (c2 := [.fz 18 Int, .fz 17 Int, .ow 12 (List Int)]) (mt := fun _ => Rs.ok true) (me := m_law_sheets_e4) rfl sc_law_sheets.nd (i_rng1 (fr := .g) (by rfl) T.n_range (e_var (Var.s (Var.s (Var.s (Var.s (Var.s (Var.s (Var.z))))))))) (blkOk_by (N := ["script", "small", "wide", "large", "more", "tall", "hand", "kind", "drawn", "count", "spread", "shape", "cells", "levels", "base", "names", "picks", "pool", "k"]) (sc := defScope s_law_sheets) (by decide +kernel)) (Sub.keep (Sub.skip (Sub.skip (Sub.skip (Sub.skip (Sub.keep (Sub.skip (Sub.skip (Sub.skip (Sub.nil)))))))))) rfl (gc_name (by exact ⟨(show 18 < 19 by decide), trivial⟩) rfl) (fun _ _ _ _ _ => pg_name (i := 18) sc_law_sheets.nd rfl (by first | exact .inl rfl | exact .inr rfl)) (fun _ _ _ _ _ => pts_yes) (fun _ _ _ _ _ => e_op op_mod m_mod (e_t1 call_int1 m_int (by rfl) T.n_int bt_int (e_ix ix_list m_ixL (e_varW (Var.s (Var.s (Var.z)))) (e_op op_add m_add (e_op op_mul m_mul (e_int) (e_var (Var.z))) (e_int)))) (e_var (Var.s (Var.z))))) (Var.s (Var.z)) (by exact ⟨(show 16 < 19 by decide), trivial⟩)) (b_nil (Sub.skip (Sub.keep (Sub.keep (Sub.keep (Sub.keep (Sub.keep (Sub.keep (Sub.keep (Sub.keep (Sub.nil))))))))))))) (b_nil (Sub.keep (Sub.keep (Sub.keep (Sub.keep (Sub.keep (Sub.keep (Sub.keep (Sub.keep (Sub.nil))))))))))) (b_consT (c1 := [.ow 16 (List Int), .ow 15 (List Str), .fz 14 Int, .ow 13 (List Int), .fz 9 Int]) (s_if (PW.pt (q_and (q_cmp op_eq m_eqI (e_var (Var.s (Var.s (Var.s (Var.s (Var.s (Var.s (Var.s (Var.z))))))))) (e_int)) (q_and1 (q_cmp op_eq m_eqI (e_ix ix_list m_ixL (e_varW (Var.s (Var.s (Var.s (Var.s (Var.s (Var.s (Var.z)))))))) (e_int)) (e_int))))) (b_cons (c1 := [.fz 17 Int, .ow 16 (List Int), .ow 15 (List Str), .fz 14 Int, .ow 13 (List Int), .ow 12 (List Int), .fz 9 Int]) (s_set sc_law_sheets.nd (e_op op_add m_add (e_int) (e_op op_mod m_mod (e_t1 call_int1 m_int (by rfl) T.n_int bt_int (e_ix ix_list m_ixL (e_varW (Var.s (Var.s (Var.s (Var.s (Var.s (Var.s (Var.z)))))))) (e_int))) (e_b2 (call_min2 rfl) m_min2 (by rfl) T.n_min bt_min (e_var (Var.s (Var.s (Var.s (Var.s (Var.s (Var.z))))))) (e_int)))) (Sub.keep (Sub.keep (Sub.keep (Sub.keep (Sub.keep (Sub.keep (Sub.skip (Sub.skip (Sub.nil))))))))) (by exact ⟨(show 17 < 19 by decide), trivial⟩) rfl) (b_cons (c1 := [.fz 17 Int, .ow 16 (List Int), .ow 15 (List Str), .fz 14 Int, .ow 13 (List Int), .ow 12 (List Int), .fz 9 Int]) (s_updO sc_law_sheets.nd (e_lc (own := [("k", 18)]) (c2 := [.fz 18 Int, .fz 17 Int, .ow 12 (List Int)]) (mt := fun _ => Rs.ok true) (me := m_law_sheets_e5) rfl sc_law_sheets.nd (i_rng1 (fr := .g) (by rfl) T.n_range (e_var (Var.s (Var.s (Var.s (Var.s (Var.s (Var.s (Var.z))))))))) (blkOk_by (N := ["script", "small", "wide", "large", "more", "tall", "hand", "kind", "drawn", "count", "spread", "shape", "cells", "levels", "base", "names", "picks", "pool", "k"]) (sc := defScope s_law_sheets) (by decide +kernel)) (Sub.keep (Sub.skip (Sub.skip (Sub.skip (Sub.skip (Sub.keep (Sub.skip (Sub.nil)))))))) rfl (gc_name (by exact ⟨(show 18 < 19 by decide), trivial⟩) rfl) (fun _ _ _ _ _ => pg_name (i := 18) sc_law_sheets.nd rfl (by first | exact .inl rfl | exact .inr rfl)) (fun _ _ _ _ _ => pts_yes) (fun _ _ _ _ _ => e_op op_mod m_mod (e_t1 call_int1 m_int (by rfl) T.n_int bt_int (e_ix ix_list m_ixL (e_varW (Var.s (Var.s (Var.z)))) (e_op op_add m_add (e_op op_mul m_mul (e_int) (e_var (Var.z))) (e_int)))) (e_var (Var.s (Var.z))))) (Var.s (Var.z)) (by exact ⟨(show 16 < 19 by decide), trivial⟩)) (b_nil (Sub.skip (Sub.keep (Sub.keep (Sub.keep (Sub.keep (Sub.skip (Sub.keep (Sub.nil))))))))))) (b_nil (Sub.keep (Sub.keep (Sub.keep (Sub.keep (Sub.skip (Sub.keep (Sub.skip (Sub.skip (Sub.nil))))))))))) (b_frzT (m := m_law_sheets_b8) (Frz.keep (Frz.frz (Frz.keep (Frz.keep (Frz.keep (Frz.nil)))))) (t_ret (e_pair (e_of (e_lc (own := [("k", 18)]) (c2 := [.fz 18 Int, .ow 16 (List Int), .fz 15 (List Str), .fz 14 Int, .ow 13 (List Int)]) (mt := fun _ => Rs.ok true) (me := m_law_sheets_e7) rfl sc_law_sheets.nd (i_rng1 (fr := .g) (by rfl) T.n_range (e_var (Var.s (Var.s (Var.s (Var.s (Var.z))))))) (blkOk_by (N := ["script", "small", "wide", "large", "more", "tall", "hand", "kind", "drawn", "count", "spread", "shape", "cells", "levels", "base", "names", "picks", "pool", "k"]) (sc := defScope s_law_sheets) (by decide +kernel)) (Sub.keep (Sub.keep (Sub.keep (Sub.keep (Sub.skip (Sub.nil)))))) rfl (gc_name (by exact ⟨(show 18 < 19 by decide), trivial⟩) rfl) (fun _ _ _ _ _ => pg_name (i := 18) sc_law_sheets.nd rfl (by first | exact .inl rfl | exact .inr rfl)) (fun _ _ _ _ _ => pts_yes) (fun _ _ _ _ _ => e_pair (e_op op_add m_add (e_var (Var.s (Var.s (Var.s (Var.z))))) (e_ix ix_list m_ixL (e_varW (Var.s (Var.s (Var.s (Var.s (Var.z)))))) (e_var (Var.z)))) (e_ix ix_list m_ixL (e_fb (e_var (Var.s (Var.s (Var.z))))) (e_ix ix_list m_ixL (e_varW (Var.s (Var.z))) (e_var (Var.z))))))) (e_var (Var.s (Var.z))))))))))))))))))))))))
theorem ok_law_width (T : Txt K mg) (Lb : Lm T base) : FnOk P w K mg base (L2N.CX P w) 2 T.a_law_width T.d_law_width ["drawn"] (spF (wdOf T) (kF : Kd (wdOf T) Int) [.bo 0 (List Int)] m_law_width) :=
  fn_ok T.F_law_width sc_law_width rfl (fun cdv A outer s H E hr =>
    b_ifT (q_cmp op_gt m_gt (e_ix ix_list m_ixL (e_varB (Var.z)) (e_int)) (e_int)) (t_ret (e_op op_add m_add (e_int) (e_ix ix_list m_ixL (e_varB (Var.z)) (e_int)))) (t_ret (e_int)))
theorem ok_law_moved (T : Txt K mg) (Lb : Lm T base) : FnOk P w K mg base (L2N.CX P w) 2 T.a_law_moved T.d_law_moved ["rows", "source", "targets"] (spF (wdOf T) (kO : Kd (wdOf T) (List (Int × Str))) [.bo 0 (List (Int × Str)), .fz 1 Int, .bo 2 (List Int)] m_law_moved) :=
  fn_ok T.F_law_moved sc_law_moved rfl (fun cdv A outer s H E hr =>
    b_consT (c1 := [.ow 3 (List (Int × Str)), .bo 0 (List (Int × Str)), .fz 1 Int, .bo 2 (List Int)]) (s_setO sc_law_moved.nd (e_t1 call_list_of m_list (by rfl) T.n_list bt_list (e_varB (Var.z))) (Sub.keep (Sub.keep (Sub.keep (Sub.nil)))) (by exact ⟨(show 3 < 5 by decide), trivial⟩) rfl) (b_consT (c1 := [.ow 3 (List (Int × Str)), .bo 0 (List (Int × Str)), .fz 1 Int, .bo 2 (List Int)]) (s_for (mb := m_law_moved_l1) (passes_of rfl) rfl (by first | exact .inl rfl | exact .inr rfl) (i_list rfl (e_of (e_op op_cat m_cat (e_ob (e_lst (l_cons (e_var (Var.s (Var.s (Var.z)))) (l_nil (α := Int))))) (e_ob (e_t1 call_list_of m_list (by rfl) T.n_list bt_list (e_varB (Var.s (Var.s (Var.s (Var.z)))))))))) (pg_name (i := 4) sc_law_moved.nd rfl (by first | exact .inl rfl | exact .inr rfl)) (g_name (by exact ⟨(show 4 < 5 by decide), trivial⟩) rfl) (b_cons (c1 := [.fz 4 Int, .ow 3 (List (Int × Str)), .bo 0 (List (Int × Str)), .fz 1 Int, .bo 2 (List Int)]) (s_store (Var.s (Var.z)) (e_pair (e_op op_sub m_sub (e_fst rfl (e_ix ix_list m_ixL (e_varB (Var.s (Var.s (Var.z)))) (e_var (Var.s (Var.s (Var.s (Var.z))))))) (e_int)) (e_snd rfl (e_ix ix_list m_ixL (e_varB (Var.s (Var.s (Var.z)))) (e_var (Var.s (Var.s (Var.s (Var.z)))))))) (e_var (Var.z))) (b_nil (Sub.skip (Sub.keep (Sub.keep (Sub.keep (Sub.keep (Sub.nil))))))))) (t_retW (Var.z))))
theorem ok_law_wild_log (T : Txt K mg) (Lb : Lm T base) : FnOk P w K mg base (L2N.CX P w) 3 T.a_law_wild_log T.d_law_wild_log ["rows", "cells", "width", "most"] (spF (wdOf T) (kO : Kd (wdOf T) (List (Int × (Tup Int)))) [.fz 0 (List (Int × Str)), .bo 1 (List Int), .fz 2 Int, .fz 3 Int] m_law_wild_log) :=
  fn_ok T.F_law_wild_log sc_law_wild_log rfl (fun cdv A outer s H E hr =>
    b_consT (c1 := [.ow 4 (List (Int × (Tup Int))), .fz 0 (List (Int × Str)), .bo 1 (List Int), .fz 2 Int, .fz 3 Int]) (s_setO sc_law_wild_log.nd (e_lst (l_nil (α := (Int × (Tup Int))))) (Sub.keep (Sub.keep (Sub.keep (Sub.keep (Sub.nil))))) (by exact ⟨(show 4 < 13 by decide), trivial⟩) rfl) (b_goT (c1 := [.ow 4 (List (Int × (Tup Int))), .fz 0 (List (Int × Str)), .bo 1 (List Int), .fz 2 Int, .fz 3 Int]) (m2 := m_law_wild_log_b10) (s_forG (mb := m_law_wild_log_l9) (passes_of rfl) rfl (by first | exact .inl rfl | exact .inr rfl) (i_bo (Var.s (Var.s (Var.z))) rfl) (pg_name (i := 5) sc_law_wild_log.nd rfl (by first | exact .inl rfl | exact .inr rfl)) (g_name (by exact ⟨(show 5 < 13 by decide), trivial⟩) rfl) (b_consG (c1 := [.ow 6 (List Int), .ow 4 (List (Int × (Tup Int))), .fz 0 (List (Int × Str)), .bo 1 (List Int), .fz 2 Int, .fz 3 Int]) (s_setO sc_law_wild_log.nd (e_call (Γ := [.fz 0 Int, .bo 1 (List Int)]) (L2N.takes_of rfl rfl rfl rfl) (ok_law_draws T Lb) (hr.mono (by decide)) T.g_law_draws T.F_law_draws.kp T.b_law_draws (a_cons (e_var (Var.z)) (a_consB (e_ob (e_op op_cat m_cat (e_ob (e_lst (l_cons (e_int) (l_cons (e_int) (l_nil (α := Int)))))) (e_ob (e_op op_rep m_rep (e_ob (e_lst (l_cons (e_int) (l_nil (α := Int))))) (e_b1 call_len_seq m_lenL (by rfl) T.n_len bt_len (e_fb (e_var (Var.s (Var.s (Var.z)))))))))) (a_nil)))) (Sub.skip (Sub.keep (Sub.keep (Sub.keep (Sub.keep (Sub.keep (Sub.nil))))))) (by exact ⟨(show 6 < 13 by decide), trivial⟩) rfl) (b_consG (c1 := [.ow 7 (List Int), .ow 6 (List Int), .ow 4 (List (Int × (Tup Int))), .fz 0 (List (Int × Str)), .bo 1 (List Int), .fz 2 Int, .fz 3 Int]) (s_lc (own := [("k", 11)]) (c2 := [.fz 11 Int, .fz 0 (List (Int × Str))]) (mt := m_law_wild_log_t3) (me := m_law_wild_log_e4) rfl sc_law_wild_log.nd rfl rfl (sw_true rfl rfl rfl (by decide +kernel)) (i_rng1 (fr := .g) (by rfl) T.n_range (e_b1 call_len_seq m_lenL (by rfl) T.n_len bt_len (e_fb (e_var (Var.s (Var.s (Var.z))))))) (blkOk_by (N := ["rows", "cells", "width", "most", "log", "cell", "drawn", "sources", "source", "under", "picked", "k", "row"]) (sc := defScope s_law_wild_log) (by decide +kernel)) (Sub.skip (Sub.skip (Sub.keep (Sub.skip (Sub.skip (Sub.skip (Sub.nil))))))) rfl (gc_name (by exact ⟨(show 11 < 13 by decide), trivial⟩) rfl) (fun _ _ _ _ _ => pg_name (i := 11) sc_law_wild_log.nd rfl (by first | exact .inl rfl | exact .inr rfl)) (fun _ _ _ _ _ => pts_one (q_cmp op_gt m_gt (e_b1 call_len_seq m_lenL (by rfl) T.n_len bt_len (e_ob (e_lc (own := [("row", 12)]) (c2 := [.fz 12 (Int × Str), .fz 11 Int, .fz 0 (List (Int × Str))]) (mt := m_law_wild_log_t1) (me := m_law_wild_log_e2) rfl sc_law_wild_log.nd (i_listB rfl (e_fb (e_var (Var.s (Var.z))))) (blkOk_by (by rfl)) (Sub.keep (Sub.keep (Sub.nil))) rfl (gc_name (by exact ⟨(show 12 < 13 by decide), trivial⟩) rfl) (fun _ _ _ _ _ => pg_name (i := 12) sc_law_wild_log.nd rfl (by first | exact .inl rfl | exact .inr rfl)) (fun _ _ _ _ _ => pts_one (q_cmp op_lt m_lt (e_fst rfl (e_var (Var.z))) (e_fst rfl (e_ix ix_list m_ixL (e_fb (e_var (Var.s (Var.s (Var.z))))) (e_var (Var.s (Var.z))))))) (fun _ _ _ _ _ => e_var (Var.z))))) (e_int))) (fun _ _ _ _ _ => e_var (Var.z)) (Sub.keep (Sub.keep (Sub.keep (Sub.keep (Sub.keep (Sub.keep (Sub.nil))))))) (by exact ⟨(show 7 < 13 by decide), trivial⟩) rfl) (b_ifG (PW.pt (q_or (q_cmp op_eq m_eqI (e_b1 call_len_seq m_lenL (by rfl) T.n_len bt_len (e_varW (Var.z))) (e_int)) (q_or1 (q_cmp op_ge m_ge (e_b1 call_len_seq m_lenL (by rfl) T.n_len bt_len (e_varW (Var.s (Var.s (Var.z))))) (e_var (Var.s (Var.s (Var.s (Var.s (Var.s (Var.s (Var.z)))))))))))) (t_retW (Var.s (Var.s (Var.z)))) (b_consG (c1 := [.fz 8 Int, .ow 6 (List Int), .ow 4 (List (Int × (Tup Int))), .fz 0 (List (Int × Str)), .bo 1 (List Int), .fz 2 Int, .fz 3 Int]) (s_set sc_law_wild_log.nd (e_ix ix_list m_ixL (e_varW (Var.z)) (e_op op_mod m_mod (e_t1 call_int1 m_int (by rfl) T.n_int bt_int (e_ix ix_list m_ixL (e_varW (Var.s (Var.z))) (e_int))) (e_b1 call_len_seq m_lenL (by rfl) T.n_len bt_len (e_varW (Var.z))))) (Sub.skip (Sub.keep (Sub.keep (Sub.keep (Sub.keep (Sub.keep (Sub.keep (Sub.nil)))))))) (by exact ⟨(show 8 < 13 by decide), trivial⟩) rfl) (b_consG (c1 := [.ow 9 (List Int), .fz 8 Int, .ow 6 (List Int), .ow 4 (List (Int × (Tup Int))), .fz 0 (List (Int × Str)), .bo 1 (List Int), .fz 2 Int, .fz 3 Int]) (s_setO sc_law_wild_log.nd (e_lc (own := [("k", 11)]) (c2 := [.fz 11 Int, .fz 8 Int, .fz 0 (List (Int × Str))]) (mt := m_law_wild_log_t5) (me := m_law_wild_log_e6) rfl sc_law_wild_log.nd (i_rng1 (fr := .g) (by rfl) T.n_range (e_b1 call_len_seq m_lenL (by rfl) T.n_len bt_len (e_fb (e_var (Var.s (Var.s (Var.s (Var.z)))))))) (blkOk_by (N := ["rows", "cells", "width", "most", "log", "cell", "drawn", "sources", "source", "under", "picked", "k", "row"]) (sc := defScope s_law_wild_log) (by decide +kernel)) (Sub.keep (Sub.skip (Sub.skip (Sub.keep (Sub.skip (Sub.skip (Sub.skip (Sub.nil)))))))) rfl (gc_name (by exact ⟨(show 11 < 13 by decide), trivial⟩) rfl) (fun _ _ _ _ _ => pg_name (i := 11) sc_law_wild_log.nd rfl (by first | exact .inl rfl | exact .inr rfl)) (fun _ _ _ _ _ => pts_one (q_cmp op_lt m_lt (e_fst rfl (e_ix ix_list m_ixL (e_fb (e_var (Var.s (Var.s (Var.z))))) (e_var (Var.z)))) (e_fst rfl (e_ix ix_list m_ixL (e_fb (e_var (Var.s (Var.s (Var.z))))) (e_var (Var.s (Var.z))))))) (fun _ _ _ _ _ => e_var (Var.z))) (Sub.keep (Sub.keep (Sub.keep (Sub.keep (Sub.keep (Sub.keep (Sub.keep (Sub.nil)))))))) (by exact ⟨(show 9 < 13 by decide), trivial⟩) rfl) (b_consG (c1 := [.ow 10 (List Int), .ow 9 (List Int), .fz 8 Int, .ow 6 (List Int), .ow 4 (List (Int × (Tup Int))), .fz 0 (List (Int × Str)), .bo 1 (List Int), .fz 2 Int, .fz 3 Int]) (s_lc (own := [("k", 11)]) (c2 := [.fz 11 Int, .ow 9 (List Int), .ow 6 (List Int)]) (mt := m_law_wild_log_t7) (me := m_law_wild_log_e8) rfl sc_law_wild_log.nd rfl rfl (sw_true rfl rfl rfl (by decide +kernel)) (i_rng1 (fr := .g) (by rfl) T.n_range (e_b1 call_len_seq m_lenL (by rfl) T.n_len bt_len (e_varW (Var.z)))) (blkOk_by (N := ["rows", "cells", "width", "most", "log", "cell", "drawn", "sources", "source", "under", "picked", "k", "row"]) (sc := defScope s_law_wild_log) (by decide +kernel)) (Sub.keep (Sub.skip (Sub.keep (Sub.skip (Sub.skip (Sub.skip (Sub.skip (Sub.skip (Sub.nil))))))))) rfl (gc_name (by exact ⟨(show 11 < 13 by decide), trivial⟩) rfl) (fun _ _ _ _ _ => pg_name (i := 11) sc_law_wild_log.nd rfl (by first | exact .inl rfl | exact .inr rfl)) (fun _ _ _ _ _ => pts_one (q_cmp op_eq m_eqI (e_ix ix_list m_ixL (e_varW (Var.s (Var.s (Var.z)))) (e_op op_add m_add (e_int) (e_var (Var.z)))) (e_int))) (fun _ _ _ _ _ => e_ix ix_list m_ixL (e_varW (Var.s (Var.z))) (e_var (Var.z))) (Sub.keep (Sub.keep (Sub.keep (Sub.keep (Sub.keep (Sub.keep (Sub.keep (Sub.keep (Sub.nil))))))))) (by exact ⟨(show 10 < 13 by decide), trivial⟩) rfl) (b_consG (c1 := [.ow 10 (List Int), .ow 9 (List Int), .fz 8 Int, .ow 6 (List Int), .ow 4 (List (Int × (Tup Int))), .fz 0 (List (Int × Str)), .bo 1 (List Int), .fz 2 Int, .fz 3 Int]) (s_updO sc_law_wild_log.nd (e_slL (e_varW (Var.z)) (p_none) (p_some (e_op op_add m_add (e_int) (e_op op_fdiv m_div (e_op op_mul m_mul (e_ix ix_list m_ixL (e_varW (Var.s (Var.s (Var.s (Var.z))))) (e_int)) (e_op op_sub m_sub (e_var (Var.s (Var.s (Var.s (Var.s (Var.s (Var.s (Var.s (Var.z))))))))) (e_int))) (e_int))))) (Var.z) (by exact ⟨(show 10 < 13 by decide), trivial⟩)) (b_consG (c1 := [.ow 10 (List Int), .fz 8 Int, .ow 4 (List (Int × (Tup Int))), .fz 0 (List (Int × Str)), .bo 1 (List Int), .fz 2 Int, .fz 3 Int]) (s_if (q_cmp op_eq m_eqI (e_b1 call_len_seq m_lenL (by rfl) T.n_len bt_len (e_varW (Var.z))) (e_int)) (b_cons (c1 := [.ow 10 (List Int), .ow 9 (List Int), .fz 8 Int, .ow 6 (List Int), .ow 4 (List (Int × (Tup Int))), .fz 0 (List (Int × Str)), .bo 1 (List Int), .fz 2 Int, .fz 3 Int]) (by refine s_updO sc_law_wild_log.nd ?_ (Var.z) (by exact ⟨(show 10 < 13 by decide), trivial⟩); exact e_lst (l_cons (e_ix ix_list m_ixL (e_varW (Var.s (Var.z))) (e_op op_mod m_mod (e_t1 call_int1 m_int (by rfl) T.n_int bt_int (e_op op_fdiv m_div (e_ix ix_list m_ixL (e_varW (Var.s (Var.s (Var.s (Var.z))))) (e_int)) (e_int))) (e_b1 call_len_seq m_lenL (by rfl) T.n_len bt_len (e_varW (Var.s (Var.z)))))) (l_nil (α := Int)))) (b_nil (Sub.keep (Sub.skip (Sub.keep (Sub.skip (Sub.keep (Sub.keep (Sub.keep (Sub.keep (Sub.keep (Sub.nil)))))))))))) (b_nil (Sub.keep (Sub.skip (Sub.keep (Sub.skip (Sub.keep (Sub.keep (Sub.keep (Sub.keep (Sub.keep (Sub.nil)))))))))))) (b_consG (c1 := [.ow 10 (List Int), .fz 8 Int, .ow 4 (List (Int × (Tup Int))), .fz 0 (List (Int × Str)), .bo 1 (List Int), .fz 2 Int, .fz 3 Int]) (s_append (Var.s (Var.s (Var.z))) (e_pair (e_var (Var.s (Var.z))) (e_t1 call_tuple_of m_tuple (by rfl) T.n_tuple bt_tuple (e_varW (Var.z))))) (b_consG (c1 := [.ow 10 (List Int), .fz 8 Int, .ow 4 (List (Int × (Tup Int))), .fz 0 (List (Int × Str)), .bo 1 (List Int), .fz 2 Int, .fz 3 Int]) (s_upd sc_law_wild_log.nd (e_of (e_call (Γ := [.bo 0 (List (Int × Str)), .fz 1 Int, .bo 2 (List Int)]) (L2N.takes_of rfl rfl rfl rfl) (ok_law_moved T Lb) (hr.mono (by decide)) T.g_law_moved T.F_law_moved.kp T.b_law_moved (a_consB (e_fb (e_var (Var.s (Var.s (Var.s (Var.z)))))) (a_cons (e_var (Var.s (Var.z))) (a_consB (e_varW (Var.z)) (a_nil)))))) (Var.s (Var.s (Var.s (Var.z)))) (by exact ⟨(show 0 < 13 by decide), trivial⟩)) (b_nilG (Sub.skip (Sub.skip (Sub.keep (Sub.keep (Sub.keep (Sub.keep (Sub.keep (Sub.nil)))))))))))))))))))) (t_retW (Var.z))))
theorem ok_law_moved_v2 (T : Txt K mg) (Lb : Lm T base) : FnOk P w K mg base (L2N.CX P w) 2 T.a_law_moved_v2 T.d_law_moved_v2 ["rows", "source", "targets"] (spF (wdOf T) (kO : Kd (wdOf T) (List (Int × Str))) [.bo 0 (List (Int × Str)), .fz 1 Int, .fz 2 (Tup Int)] m_law_moved_v2) :=
  fn_ok T.F_law_moved_v2 sc_law_moved_v2 rfl (fun cdv A outer s H E hr =>
    b_consT (c1 := [.ow 3 (List (Int × Str)), .bo 0 (List (Int × Str)), .fz 1 Int, .fz 2 (Tup Int)]) (s_setO sc_law_moved_v2.nd (e_t1 call_list_of m_list (by rfl) T.n_list bt_list (e_varB (Var.z))) (Sub.keep (Sub.keep (Sub.keep (Sub.nil)))) (by exact ⟨(show 3 < 5 by decide), trivial⟩) rfl) (b_consT (c1 := [.ow 3 (List (Int × Str)), .bo 0 (List (Int × Str)), .fz 1 Int, .fz 2 (Tup Int)]) (s_for (mb := m_law_moved_v2_l1) (passes_of rfl) rfl (by first | exact .inl rfl | exact .inr rfl) (i_list rfl (e_of (e_op op_cat m_cat (e_ob (e_lst (l_cons (e_var (Var.s (Var.s (Var.z)))) (l_nil (α := Int))))) (e_ob (e_t1 call_list_of m_listT (by rfl) T.n_list bt_list (e_var (Var.s (Var.s (Var.s (Var.z)))))))))) (pg_name (i := 4) sc_law_moved_v2.nd rfl (by first | exact .inl rfl | exact .inr rfl)) (g_name (by exact ⟨(show 4 < 5 by decide), trivial⟩) rfl) (b_cons (c1 := [.fz 4 Int, .ow 3 (List (Int × Str)), .bo 0 (List (Int × Str)), .fz 1 Int, .fz 2 (Tup Int)]) (s_store (Var.s (Var.z)) (e_pair (e_op op_sub m_sub (e_fst rfl (e_ix ix_list m_ixL (e_varB (Var.s (Var.s (Var.z)))) (e_var (Var.s (Var.s (Var.s (Var.z))))))) (e_int)) (e_snd rfl (e_ix ix_list m_ixL (e_varB (Var.s (Var.s (Var.z)))) (e_var (Var.s (Var.s (Var.s (Var.z)))))))) (e_var (Var.z))) (b_nil (Sub.skip (Sub.keep (Sub.keep (Sub.keep (Sub.keep (Sub.nil))))))))) (t_retW (Var.z))))
theorem ok_law_walk (T : Txt K mg) (Lb : Lm T base) : FnOk P w K mg base (L2N.CX P w) 3 T.a_law_walk T.d_law_walk ["rows", "log"] (spF (wdOf T) (kO : Kd (wdOf T) (List (List (Int × Str)))) [.fz 0 (List (Int × Str)), .bo 1 (List (Int × (Tup Int)))] m_law_walk) :=
  fn_ok T.F_law_walk sc_law_walk rfl (fun cdv A outer s H E hr =>
    b_consT (c1 := [.ow 2 (List (List (Int × Str))), .fz 0 (List (Int × Str)), .bo 1 (List (Int × (Tup Int)))]) (s_setO sc_law_walk.nd (e_lst (l_cons (e_var (Var.z)) (l_nil (α := (List (Int × Str)))))) (Sub.keep (Sub.keep (Sub.nil))) (by exact ⟨(show 2 < 4 by decide), trivial⟩) rfl) (b_consT (c1 := [.ow 2 (List (List (Int × Str))), .fz 0 (List (Int × Str)), .bo 1 (List (Int × (Tup Int)))]) (s_for (mb := m_law_walk_l1) (passes_of rfl) rfl (by first | exact .inl rfl | exact .inr rfl) (i_bo (Var.s (Var.s (Var.z))) rfl) (pg_name (i := 3) sc_law_walk.nd rfl (by first | exact .inl rfl | exact .inr rfl)) (g_name (by exact ⟨(show 3 < 4 by decide), trivial⟩) rfl) (b_cons (c1 := [.fz 3 (Int × (Tup Int)), .ow 2 (List (List (Int × Str))), .fz 0 (List (Int × Str)), .bo 1 (List (Int × (Tup Int)))]) (s_upd sc_law_walk.nd (e_of (e_call (Γ := [.bo 0 (List (Int × Str)), .fz 1 Int, .fz 2 (Tup Int)]) (L2N.takes_of rfl rfl rfl rfl) (ok_law_moved_v2 T Lb) (hr.mono (by decide)) T.g_law_moved_v2 T.F_law_moved_v2.kp T.b_law_moved_v2 (a_consB (e_fb (e_var (Var.s (Var.s (Var.z))))) (a_cons (e_fst rfl (e_var (Var.z))) (a_cons (e_snd rfl (e_var (Var.z))) (a_nil)))))) (Var.s (Var.s (Var.z))) (by exact ⟨(show 0 < 4 by decide), trivial⟩)) (b_cons (c1 := [.fz 3 (Int × (Tup Int)), .ow 2 (List (List (Int × Str))), .fz 0 (List (Int × Str)), .bo 1 (List (Int × (Tup Int)))]) (s_append (Var.s (Var.z)) (e_var (Var.s (Var.s (Var.z))))) (b_nil (Sub.skip (Sub.keep (Sub.keep (Sub.keep (Sub.nil))))))))) (t_retW (Var.z))))
theorem ok_law_finished (T : Txt K mg) (Lb : Lm T base) : FnOk P w K mg base (L2N.CX P w) 3 T.a_law_finished T.d_law_finished ["rows", "log", "pick"] (spF (wdOf T) (kO : Kd (wdOf T) (List (Int × (Tup Int)))) [.fz 0 (List (Int × Str)), .bo 1 (List (Int × (Tup Int))), .fz 2 Int] m_law_finished) :=
  fn_ok T.F_law_finished sc_law_finished rfl (fun cdv A outer s H E hr =>
    b_consT (c1 := [.ow 3 (List (Int × (Tup Int))), .fz 0 (List (Int × Str)), .fz 2 Int]) (s_setO sc_law_finished.nd (e_t1 call_list_of m_list (by rfl) T.n_list bt_list (e_varB (Var.s (Var.z)))) (Sub.keep (Sub.skip (Sub.keep (Sub.nil)))) (by exact ⟨(show 3 < 11 by decide), trivial⟩) rfl) (b_goT (c1 := [.ow 3 (List (Int × (Tup Int))), .fz 0 (List (Int × Str)), .fz 2 Int]) (m2 := m_law_finished_b7) (s_forG (mb := m_law_finished_l6) (passes_of rfl) rfl (by first | exact .inl rfl | exact .inr rfl) (i_rng1 (fr := .g) (by rfl) T.n_range (e_int)) (pg_name (i := 4) sc_law_finished.nd rfl (by first | exact .inl rfl | exact .inr rfl)) (g_name (by exact ⟨(show 4 < 11 by decide), trivial⟩) rfl) (b_consG (c1 := [.fz 5 Int, .fz 4 Int, .ow 3 (List (Int × (Tup Int))), .fz 0 (List (Int × Str)), .fz 2 Int]) (s_set sc_law_finished.nd (e_b1 (cr_max rfl) m_max (by rfl) T.n_max bt_max (e_ob (e_lc (own := [("row", 10)]) (c2 := [.fz 10 (Int × Str)]) (mt := fun _ => Rs.ok true) (me := m_law_finished_e1) rfl sc_law_finished.nd (i_listB rfl (e_fb (e_var (Var.s (Var.s (Var.z)))))) (blkOk_by (N := ["rows", "log", "pick", "done", "k", "top", "under", "source", "target", "j", "row"]) (sc := defScope s_law_finished) (by decide +kernel)) (Sub.skip (Sub.skip (Sub.skip (Sub.skip (Sub.nil))))) rfl (gc_name (by exact ⟨(show 10 < 11 by decide), trivial⟩) rfl) (fun _ _ _ _ _ => pg_name (i := 10) sc_law_finished.nd rfl (by first | exact .inl rfl | exact .inr rfl)) (fun _ _ _ _ _ => pts_yes) (fun _ _ _ _ _ => e_fst rfl (e_var (Var.z)))))) (Sub.keep (Sub.keep (Sub.keep (Sub.keep (Sub.nil))))) (by exact ⟨(show 5 < 11 by decide), trivial⟩) rfl) (b_consG (c1 := [.ow 6 (List Int), .fz 5 Int, .fz 4 Int, .ow 3 (List (Int × (Tup Int))), .fz 0 (List (Int × Str)), .fz 2 Int]) (s_lc (own := [("j", 9)]) (c2 := [.fz 9 Int, .fz 5 Int, .fz 0 (List (Int × Str))]) (mt := m_law_finished_t2) (me := m_law_finished_e3) rfl sc_law_finished.nd rfl rfl (sw_true rfl rfl rfl (by decide +kernel)) (i_rng1 (fr := .g) (by rfl) T.n_range (e_b1 call_len_seq m_lenL (by rfl) T.n_len bt_len (e_fb (e_var (Var.s (Var.s (Var.s (Var.z)))))))) (blkOk_by (N := ["rows", "log", "pick", "done", "k", "top", "under", "source", "target", "j", "row"]) (sc := defScope s_law_finished) (by decide +kernel)) (Sub.keep (Sub.skip (Sub.skip (Sub.keep (Sub.skip (Sub.nil)))))) rfl (gc_name (by exact ⟨(show 9 < 11 by decide), trivial⟩) rfl) (fun _ _ _ _ _ => pg_name (i := 9) sc_law_finished.nd rfl (by first | exact .inl rfl | exact .inr rfl)) (fun _ _ _ _ _ => pts_one (q_cmp op_lt m_lt (e_fst rfl (e_ix ix_list m_ixL (e_fb (e_var (Var.s (Var.s (Var.z))))) (e_var (Var.z)))) (e_var (Var.s (Var.z))))) (fun _ _ _ _ _ => e_var (Var.z)) (Sub.keep (Sub.keep (Sub.keep (Sub.keep (Sub.keep (Sub.nil)))))) (by exact ⟨(show 6 < 11 by decide), trivial⟩) rfl) (b_ifG (q_cmp op_eq m_eqI (e_b1 call_len_seq m_lenL (by rfl) T.n_len bt_len (e_varW (Var.z))) (e_int)) (t_retW (Var.s (Var.s (Var.s (Var.z))))) (b_consG (c1 := [.fz 7 Int, .ow 6 (List Int), .fz 4 Int, .ow 3 (List (Int × (Tup Int))), .fz 0 (List (Int × Str)), .fz 2 Int]) (s_set sc_law_finished.nd (e_ix ix_list m_ixL (e_ob (e_lc (own := [("j", 9)]) (c2 := [.fz 9 Int, .fz 5 Int, .fz 0 (List (Int × Str))]) (mt := m_law_finished_t4) (me := m_law_finished_e5) rfl sc_law_finished.nd (i_rng1 (fr := .g) (by rfl) T.n_range (e_b1 call_len_seq m_lenL (by rfl) T.n_len bt_len (e_fb (e_var (Var.s (Var.s (Var.s (Var.s (Var.z))))))))) (blkOk_by (N := ["rows", "log", "pick", "done", "k", "top", "under", "source", "target", "j", "row"]) (sc := defScope s_law_finished) (by decide +kernel)) (Sub.skip (Sub.keep (Sub.skip (Sub.skip (Sub.keep (Sub.skip (Sub.nil))))))) rfl (gc_name (by exact ⟨(show 9 < 11 by decide), trivial⟩) rfl) (fun _ _ _ _ _ => pg_name (i := 9) sc_law_finished.nd rfl (by first | exact .inl rfl | exact .inr rfl)) (fun _ _ _ _ _ => pts_one (q_cmp op_eq m_eqI (e_fst rfl (e_ix ix_list m_ixL (e_fb (e_var (Var.s (Var.s (Var.z))))) (e_var (Var.z)))) (e_var (Var.s (Var.z))))) (fun _ _ _ _ _ => e_var (Var.z)))) (e_int)) (Sub.keep (Sub.skip (Sub.keep (Sub.keep (Sub.keep (Sub.keep (Sub.nil))))))) (by exact ⟨(show 7 < 11 by decide), trivial⟩) rfl) (b_consG (c1 := [.fz 8 Int, .fz 7 Int, .ow 3 (List (Int × (Tup Int))), .fz 0 (List (Int × Str)), .fz 2 Int]) (s_set sc_law_finished.nd (e_ix ix_list m_ixL (e_varW (Var.s (Var.z))) (e_op op_mod m_mod (e_t1 call_int1 m_int (by rfl) T.n_int bt_int (e_op op_add m_add (e_var (Var.s (Var.s (Var.s (Var.s (Var.s (Var.z))))))) (e_op op_mul m_mul (e_int) (e_var (Var.s (Var.s (Var.z))))))) (e_b1 call_len_seq m_lenL (by rfl) T.n_len bt_len (e_varW (Var.s (Var.z)))))) (Sub.keep (Sub.skip (Sub.skip (Sub.keep (Sub.keep (Sub.keep (Sub.nil))))))) (by exact ⟨(show 8 < 11 by decide), trivial⟩) rfl) (b_consG (c1 := [.fz 8 Int, .fz 7 Int, .ow 3 (List (Int × (Tup Int))), .fz 0 (List (Int × Str)), .fz 2 Int]) (s_append (Var.s (Var.s (Var.z))) (e_pair (e_var (Var.s (Var.z))) (e_tup (l_cons (e_var (Var.z)) (l_nil (α := Int)))))) (b_consG (c1 := [.fz 8 Int, .fz 7 Int, .ow 3 (List (Int × (Tup Int))), .fz 0 (List (Int × Str)), .fz 2 Int]) (s_upd sc_law_finished.nd (e_of (e_call (Γ := [.bo 0 (List (Int × Str)), .fz 1 Int, .bo 2 (List Int)]) (L2N.takes_of rfl rfl rfl rfl) (ok_law_moved T Lb) (hr.mono (by decide)) T.g_law_moved T.F_law_moved.kp T.b_law_moved (a_consB (e_fb (e_var (Var.s (Var.s (Var.s (Var.z)))))) (a_cons (e_var (Var.s (Var.z))) (a_consB (e_ob (e_lst (l_cons (e_var (Var.z)) (l_nil (α := Int))))) (a_nil)))))) (Var.s (Var.s (Var.s (Var.z)))) (by exact ⟨(show 0 < 11 by decide), trivial⟩)) (b_nilG (Sub.skip (Sub.skip (Sub.keep (Sub.keep (Sub.keep (Sub.nil))))))))))))))) (t_retW (Var.z))))
theorem ok_law_shares (T : Txt K mg) (Lb : Lm T base) : FnOk P w K mg base (L2N.CX P w) 2 T.a_law_shares T.d_law_shares ["rows"] (spF (wdOf T) (kO : Kd (wdOf T) (Dct Str Int)) [.bo 0 (List (Int × Str))] m_law_shares) :=
  fn_ok T.F_law_shares sc_law_shares rfl (fun cdv A outer s H E hr =>
    b_consT (c1 := [.ow 1 (Dct Str Int), .bo 0 (List (Int × Str))]) (s_setO sc_law_shares.nd (e_dnew (κ := Str) (α := Int)) (Sub.keep (Sub.nil)) (by exact ⟨(show 1 < 3 by decide), trivial⟩) rfl) (b_consT (c1 := [.ow 1 (Dct Str Int), .bo 0 (List (Int × Str))]) (s_for (mb := m_law_shares_l1) (passes_of rfl) rfl (by first | exact .inl rfl | exact .inr rfl) (i_bo (Var.s (Var.z)) rfl) (pg_name (i := 2) sc_law_shares.nd rfl (by first | exact .inl rfl | exact .inr rfl)) (g_name (by exact ⟨(show 2 < 3 by decide), trivial⟩) rfl) (b_cons (c1 := [.fz 2 (Int × Str), .ow 1 (Dct Str Int), .bo 0 (List (Int × Str))]) (s_dput (by have h2 := room2 hr; exact h2) (Var.s (Var.z)) (e_op op_add m_add (e_dget2 (by have h2 := room2 hr; exact h2) (e_dv (e_varW (Var.s (Var.z)))) (e_snd rfl (e_var (Var.z))) (e_int)) (e_int)) (e_snd rfl (e_var (Var.z)))) (b_nil (Sub.skip (Sub.keep (Sub.keep (Sub.nil))))))) (t_retW (Var.z))))
theorem ok_law_lessened (T : Txt K mg) (Lb : Lm T base) : FnOk P w K mg base (L2N.CX P w) 3 T.a_law_lessened T.d_law_lessened ["shares", "cell"] (spF (wdOf T) (kO : Kd (wdOf T) (Dct Str Int)) [.bo 0 (DV Str Int), .fz 1 Int] m_law_lessened) :=
  fn_ok T.F_law_lessened sc_law_lessened rfl (fun cdv A outer s H E hr =>
    b_consT (c1 := [.ow 2 (List Str), .bo 0 (DV Str Int), .fz 1 Int]) (s_setO sc_law_lessened.nd (e_b1 cr_sortedS m_sortedS (by rfl) T.n_sorted bt_sorted (e_ob (e_t1 (call_listD rfl) m_listDV (by rfl) T.n_list bt_list (e_varB (Var.z))))) (Sub.keep (Sub.keep (Sub.nil))) (by exact ⟨(show 2 < 6 by decide), trivial⟩) rfl) (b_consT (c1 := [.ow 3 (List Int), .ow 2 (List Str), .bo 0 (DV Str Int)]) (s_setO sc_law_lessened.nd (e_call (Γ := [.fz 0 Int, .bo 1 (List Int)]) (L2N.takes_of rfl rfl rfl rfl) (ok_law_draws T Lb) (hr.mono (by decide)) T.g_law_draws T.F_law_draws.kp T.b_law_draws (a_cons (e_var (Var.s (Var.s (Var.z)))) (a_consB (e_ob (e_op op_cat m_cat (e_ob (e_lst (l_cons (e_int) (l_nil (α := Int))))) (e_ob (e_op op_rep m_rep (e_ob (e_lst (l_cons (e_int) (l_cons (e_int) (l_nil (α := Int)))))) (e_b1 call_len_seq m_lenL (by rfl) T.n_len bt_len (e_varW (Var.z))))))) (a_nil)))) (Sub.keep (Sub.keep (Sub.skip (Sub.nil)))) (by exact ⟨(show 3 < 6 by decide), trivial⟩) rfl) (b_consT (c1 := [.ow 4 (Dct Str Int), .ow 3 (List Int), .ow 2 (List Str), .bo 0 (DV Str Int)]) (s_setO sc_law_lessened.nd (e_dnew (κ := Str) (α := Int)) (Sub.keep (Sub.keep (Sub.keep (Sub.nil)))) (by exact ⟨(show 4 < 6 by decide), trivial⟩) rfl) (b_consT (c1 := [.ow 4 (Dct Str Int), .ow 3 (List Int), .ow 2 (List Str), .bo 0 (DV Str Int)]) (s_for (mb := m_law_lessened_l1) (passes_of rfl) rfl (by first | exact .inl rfl | exact .inr rfl) (i_rng1 (fr := .g) (by rfl) T.n_range (e_b1 call_len_seq m_lenL (by rfl) T.n_len bt_len (e_varW (Var.s (Var.s (Var.z)))))) (pg_name (i := 5) sc_law_lessened.nd rfl (by first | exact .inl rfl | exact .inr rfl)) (g_name (by exact ⟨(show 5 < 6 by decide), trivial⟩) rfl) (b_cons (c1 := [.ow 4 (Dct Str Int), .ow 3 (List Int), .ow 2 (List Str), .bo 0 (DV Str Int)]) (s_if (q_cmp op_eq m_eqI (e_ix ix_list m_ixL (e_varW (Var.s (Var.s (Var.z)))) (e_op op_add m_add (e_int) (e_op op_mul m_mul (e_int) (e_var (Var.z))))) (e_int)) (b_cons (c1 := [.fz 5 Int, .ow 4 (Dct Str Int), .ow 3 (List Int), .ow 2 (List Str), .bo 0 (DV Str Int)]) (s_dput (by have h2 := room2 hr; exact h2) (Var.s (Var.z)) (e_dget (by have h2 := room2 hr; exact h2) (e_varB (Var.s (Var.s (Var.s (Var.s (Var.z)))))) (e_ix ix_list m_ixL (e_varW (Var.s (Var.s (Var.s (Var.z))))) (e_var (Var.z)))) (e_ix ix_list m_ixL (e_varW (Var.s (Var.s (Var.s (Var.z))))) (e_var (Var.z)))) (b_nil (Sub.skip (Sub.keep (Sub.keep (Sub.keep (Sub.keep (Sub.nil)))))))) (b_cons (c1 := [.ow 4 (Dct Str Int), .ow 3 (List Int), .ow 2 (List Str), .bo 0 (DV Str Int)]) (s_if (PW.pt (q_or (q_cmp op_lt m_lt (e_ix ix_list m_ixL (e_varW (Var.s (Var.s (Var.z)))) (e_op op_add m_add (e_int) (e_op op_mul m_mul (e_int) (e_var (Var.z))))) (e_int)) (q_or1 (q_cmp op_eq m_eqI (e_ix ix_list m_ixL (e_varW (Var.s (Var.s (Var.z)))) (e_int)) (e_int))))) (b_cons (c1 := [.fz 5 Int, .ow 4 (Dct Str Int), .ow 3 (List Int), .ow 2 (List Str), .bo 0 (DV Str Int)]) (s_dput (by have h2 := room2 hr; exact h2) (Var.s (Var.z)) (e_op op_mod m_mod (e_t1 call_int1 m_int (by rfl) T.n_int bt_int (e_ix ix_list m_ixL (e_varW (Var.s (Var.s (Var.z)))) (e_op op_add m_add (e_int) (e_op op_mul m_mul (e_int) (e_var (Var.z)))))) (e_op op_add m_add (e_dget (by have h2 := room2 hr; exact h2) (e_varB (Var.s (Var.s (Var.s (Var.s (Var.z)))))) (e_ix ix_list m_ixL (e_varW (Var.s (Var.s (Var.s (Var.z))))) (e_var (Var.z)))) (e_int))) (e_ix ix_list m_ixL (e_varW (Var.s (Var.s (Var.s (Var.z))))) (e_var (Var.z)))) (b_nil (Sub.skip (Sub.keep (Sub.keep (Sub.keep (Sub.keep (Sub.nil)))))))) (b_nil (Sub.skip (Sub.keep (Sub.keep (Sub.keep (Sub.keep (Sub.nil)))))))) (b_nil (Sub.keep (Sub.keep (Sub.keep (Sub.keep (Sub.nil)))))))) (b_nil (Sub.keep (Sub.keep (Sub.keep (Sub.keep (Sub.nil)))))))) (t_retW (Var.z))))))
theorem ok_InvalidSheaf_init (T : Txt K mg) (Lb : Lm T base) : FnOk P w K mg base (L2N.CX P w) 1 T.a_InvalidSheaf_init T.d_InvalidSheaf_init ["self", "index"] (spE T.c_InvalidSheaf "index") :=
  ini_ok T.ox_InvalidSheaf.oex T.nf_InvalidSheaf T.F_InvalidSheaf_init sc_InvalidSheaf_init (j3 (by decide +kernel) (by decide +kernel)) (fun cdv A outer s H E =>
    pss_cons (ps_expr (pe_weinit T.bx_WornError (by rfl) T.g_WornError (pa_cons (pe_var (i := 0) rfl (by first | exact Or.inl rfl | exact Or.inr (Or.inl rfl) | exact Or.inr (Or.inr rfl))) (pa_cons (pe_joined (.cons pe_str (.cons (pe_fmt (pe_var (i := 1) rfl (by first | exact Or.inl rfl | exact Or.inr (Or.inl rfl) | exact Or.inr (Or.inr rfl)))) (.cons pe_str .nil)))) pa_nil)))) (pss_one (ps_ost (pe_var (i := 0) rfl (by first | exact Or.inl rfl | exact Or.inr (Or.inl rfl) | exact Or.inr (Or.inr rfl))) (pe_var (i := 1) rfl (by first | exact Or.inl rfl | exact Or.inr (Or.inl rfl) | exact Or.inr (Or.inr rfl))))))
theorem ok_valid_record (T : Txt K mg) (Lb : Lm T base) : FnOk P w K mg base (L2N.CX P w) 2 T.a_valid_record T.d_valid_record ["text"] (spF (wdOf T) (kF : Kd (wdOf T) Bool) [.fz 0 Str] m_valid_record) :=
  fn_ok T.F_valid_record sc_valid_record rfl (fun cdv A outer s H E hr =>
    b_ifT (PW.pt (q_or (q_cmp op_lt m_lt (e_b1 call_len_str m_lenS (by rfl) T.n_len bt_len (e_var (Var.z))) (e_int)) (q_or1 (q_cmp op_gt m_gt (e_b1 call_len_str m_lenS (by rfl) T.n_len bt_len (e_var (Var.z))) (e_gi (by rfl) T.g_LONGEST))))) (t_ret (e_bl)) (b_goT (c1 := [.fz 0 Str]) (m2 := m_valid_record_b2) (s_forG (mb := m_valid_record_l1) (passes_of rfl) rfl (by first | exact .inl rfl | exact .inr rfl) (i_str (fr := .g) (e_var (Var.z))) (pg_name (i := 1) sc_valid_record.nd rfl (by first | exact .inl rfl | exact .inr rfl)) (g_name (by exact ⟨(show 1 < 2 by decide), trivial⟩) rfl) (b_ifG (q_cmp op_notIn_sign m_notin (e_var (Var.z)) (e_gs (by rfl) T.g_SIGNS)) (t_ret (e_bl)) (b_nilG (Sub.skip (Sub.keep (Sub.nil)))))) (t_ret (e_bl))))
theorem ok_Sheaf_init (T : Txt K mg) (Lb : Lm T base) : FnOk P w K mg base (L2N.CX P w) 3 T.a_Sheaf_init T.d_Sheaf_init ["self", "rows"] (spI (wdOf T) "Sheaf" [.bo 1 (List (Int × Str))] mi_Sheaf_init) :=
  fn_okI (m := m_Sheaf_init) T.F_Sheaf_init sc_Sheaf_init rfl (fun y cdv A outer s H E hr =>
    b_cons (c1 := [.sf 0 (Ini "Sheaf") y, .bo 1 (List (Int × Str))]) (s_if (q_cmp op_eq m_eqI (e_b1 call_len_seq m_lenL (by rfl) T.n_len bt_len (e_varB (Var.s (Var.z)))) (e_int)) (b_ts (kr := (kF : Kd (wdOf T) Unit)) (t_raise "InvalidSheaf" (cm_InvalidSheaf T) T.ox_InvalidSheaf (ok_InvalidSheaf_init T Lb) T.b_InvalidSheaf_init (L2N.takes_of rfl rfl rfl rfl) (hr.mono (by decide)) T.g_InvalidSheaf (e_int))) (b_nil (Sub.keep (Sub.keep (Sub.nil))))) (b_cons (c1 := [.sf 0 (Ini "Sheaf") y, .bo 1 (List (Int × Str))]) (s_for (c := [.sf 0 (Ini "Sheaf") y, .bo 1 (List (Int × Str))]) (c1 := [.fz 3 (Int × Str), .fz 2 Int, .sf 0 (Ini "Sheaf") y, .bo 1 (List (Int × Str))]) (mb := m_Sheaf_init_l1) (passes_of rfl) rfl (by first | exact .inl rfl | exact .inr rfl) (i_enumBo (Var.s (Var.z)) rfl (by rfl) T.n_enumerate) (pg_tup rfl (pgs_cons (pg_name (i := 2) sc_Sheaf_init.nd rfl (by first | exact .inl rfl | exact .inr rfl)) (pgs_cons (pg_name (i := 3) sc_Sheaf_init.nd rfl (by first | exact .inl rfl | exact .inr rfl)) pgs_nil))) (g_pair (by exact ⟨(show 2 < 4 by decide), trivial⟩) (by exact ⟨(show 3 < 4 by decide), trivial⟩) rfl rfl) (b_cons (c1 := [.sf 0 (Ini "Sheaf") y, .bo 1 (List (Int × Str))]) (s_if (q_not (q_val (e_call (Γ := [.fz 0 Str]) (L2N.takes_of rfl rfl rfl rfl) (ok_valid_record T Lb) (hr.mono (by decide)) T.g_valid_record T.F_valid_record.kp T.b_valid_record (a_cons (e_snd rfl (e_var (Var.z))) (a_nil))))) (b_ts (kr := (kF : Kd (wdOf T) Unit)) (t_raise "InvalidSheaf" (cm_InvalidSheaf T) T.ox_InvalidSheaf (ok_InvalidSheaf_init T Lb) T.b_InvalidSheaf_init (L2N.takes_of rfl rfl rfl rfl) (hr.mono (by decide)) T.g_InvalidSheaf (e_var (Var.s (Var.z))))) (b_nil (Sub.skip (Sub.skip (Sub.keep (Sub.keep (Sub.nil))))))) (b_nil (Sub.keep (Sub.keep (Sub.nil)))))) (b_cons (c1 := [.sf 0 Sheaf y, .bo 1 (List (Int × Str))]) (s_fld (C := "Sheaf") (put := fun _ (z : (Tup (Int × Str))) => Sheaf.mk z) (cm_Sheaf T) T.cls_Sheaf T.na_Sheaf__rows put_rows (e_t1 call_tuple_of m_tuple (by rfl) T.n_tuple bt_tuple (e_varB (Var.s (Var.z))))) (b_nil (Sub.keep (Sub.skip (Sub.nil)))))))
theorem ok_law_single (T : Txt K mg) (Lb : Lm T base) : FnHX P w K mg base (L2N.CX P w) 2 T.a_law_single T.d_law_single ["error"] (spX (wdOf T) T.c_InvalidDemands (kF : Kd (wdOf T) Bool) m_law_single) :=
  fn_okHX T.F_law_single sc_law_single (fun cdv A outer s H E pp d hr hz hf hot hmem =>
    b_consT (c1 := [.ow 1 (List Bool), @Ent.fz 0 Exc (repEx pp.1 d)]) (s_setO sc_law_single.nd (e_lst (l_cons (e_isP (b := false) T.cx_InvalidDemands hmem hz hf (Var.z) rfl (e_cls (by rfl) T.g_InvalidSheaf) (fun u e => e) (T.xc_InvalidSheaf.kit T.su_InvalidDemands_InvalidSheaf) T.n_isinstance) (l_cons (e_isP (b := false) T.cx_InvalidDemands hmem hz hf (Var.z) rfl (e_cls (by rfl) T.g_InvalidDeed) (fun u e => e) (T.xc_InvalidDeed.kit T.su_InvalidDemands_InvalidDeed) T.n_isinstance) (l_cons (e_isP (b := false) T.cx_InvalidDemands hmem hz hf (Var.z) rfl (e_cls (by rfl) T.g_InvalidEntry) (fun u e => e) (T.xc_InvalidEntry.kit T.su_InvalidDemands_InvalidEntry) T.n_isinstance) (l_nil (α := Bool)))))) (Sub.keep (Sub.nil)) (by exact ⟨(show 1 < 3 by decide), trivial⟩) rfl) (b_consT (c1 := [.ow 1 (List Bool), @Ent.fz 0 Exc (repEx pp.1 d)]) (s_updO sc_law_single.nd (e_op op_cat m_cat (e_varW (Var.z)) (e_ob (e_lst (l_cons (e_isP (b := false) T.cx_InvalidDemands hmem hz hf (Var.s (Var.z)) rfl (e_cls (by rfl) T.g_InvalidText) (fun u e => e) (T.xc_InvalidText.kit T.su_InvalidDemands_InvalidText) T.n_isinstance) (l_cons (e_isP (b := false) T.cx_InvalidDemands hmem hz hf (Var.s (Var.z)) rfl (e_cls (by rfl) T.g_InvalidBox) (fun u e => e) (T.xc_InvalidBox.kit T.su_InvalidDemands_InvalidBox) T.n_isinstance) (l_cons (e_isP (b := false) T.cx_InvalidDemands hmem hz hf (Var.s (Var.z)) rfl (e_cls (by rfl) T.g_NoOutcome) (fun u e => e) (T.xc_NoOutcome.kit T.su_InvalidDemands_NoOutcome) T.n_isinstance) (l_nil (α := Bool)))))))) (Var.z) (by exact ⟨(show 1 < 3 by decide), trivial⟩) (by exact (show ([1, 0] : List Nat).Nodup by decide))) (b_consT (c1 := [.ow 1 (List Bool), @Ent.fz 0 Exc (repEx pp.1 d)]) (s_updO sc_law_single.nd (e_op op_cat m_cat (e_varW (Var.z)) (e_ob (e_lst (l_cons (e_isP (b := true) T.cx_InvalidDemands hmem hz hf (Var.s (Var.z)) rfl (e_cls (by rfl) T.g_InvalidDemands) (fun u e => e) (T.xc_InvalidDemands.kit T.su_InvalidDemands_InvalidDemands) T.n_isinstance) (l_cons (e_isP (b := false) T.cx_InvalidDemands hmem hz hf (Var.s (Var.z)) rfl (e_cls (by rfl) T.g_UnknownRecord) (fun u e => e) (T.xc_UnknownRecord.kit T.su_InvalidDemands_UnknownRecord) T.n_isinstance) (l_cons (e_isP (b := false) T.cx_InvalidDemands hmem hz hf (Var.s (Var.z)) rfl (e_cls (by rfl) T.g_Spoiled) (fun u e => e) (T.xc_Spoiled.kit T.su_InvalidDemands_Spoiled) T.n_isinstance) (l_nil (α := Bool)))))))) (Var.z) (by exact ⟨(show 1 < 3 by decide), trivial⟩) (by exact (show ([1, 0] : List Nat).Nodup by decide))) (b_consT (c1 := [.ow 1 (List Bool), @Ent.fz 0 Exc (repEx pp.1 d)]) (s_updO sc_law_single.nd (e_op op_cat m_cat (e_varW (Var.z)) (e_ob (e_lst (l_cons (e_isP (b := false) T.cx_InvalidDemands hmem hz hf (Var.s (Var.z)) rfl (e_cls (by rfl) T.g_Impossible) (fun u e => e) (T.xc_Impossible.kit T.su_InvalidDemands_Impossible) T.n_isinstance) (l_cons (e_isP (b := false) T.cx_InvalidDemands hmem hz hf (Var.s (Var.z)) rfl (e_cls (by rfl) T.g_RepeatedRecord) (fun u e => e) (T.xc_RepeatedRecord.kit T.su_InvalidDemands_RepeatedRecord) T.n_isinstance) (l_cons (e_isP (b := false) T.cx_InvalidDemands hmem hz hf (Var.s (Var.z)) rfl (e_cls (by rfl) T.g_WrongMove) (fun u e => e) (T.xc_WrongMove.kit T.su_InvalidDemands_WrongMove) T.n_isinstance) (l_nil (α := Bool)))))))) (Var.z) (by exact ⟨(show 1 < 3 by decide), trivial⟩) (by exact (show ([1, 0] : List Nat).Nodup by decide))) (b_consT (c1 := [.ow 1 (List Bool), @Ent.fz 0 Exc (repEx pp.1 d)]) (s_updO sc_law_single.nd (e_op op_cat m_cat (e_varW (Var.z)) (e_ob (e_lst (l_cons (e_isP (b := false) T.cx_InvalidDemands hmem hz hf (Var.s (Var.z)) rfl (e_cls (by rfl) T.g_ContradictoryLog) (fun u e => e) (T.xc_ContradictoryLog.kit T.su_InvalidDemands_ContradictoryLog) T.n_isinstance) (l_cons (e_isP (b := false) T.cx_InvalidDemands hmem hz hf (Var.s (Var.z)) rfl (e_cls (by rfl) T.g_InvalidRound) (fun u e => e) (T.xc_InvalidRound.kit T.su_InvalidDemands_InvalidRound) T.n_isinstance) (l_cons (e_isP (b := false) T.cx_InvalidDemands hmem hz hf (Var.s (Var.z)) rfl (e_cls (by rfl) T.g_UsedName) (fun u e => e) (T.xc_UsedName.kit T.su_InvalidDemands_UsedName) T.n_isinstance) (l_nil (α := Bool)))))))) (Var.z) (by exact ⟨(show 1 < 3 by decide), trivial⟩) (by exact (show ([1, 0] : List Nat).Nodup by decide))) (b_consT (c1 := [.ow 1 (List Bool), @Ent.fz 0 Exc (repEx pp.1 d)]) (s_updO sc_law_single.nd (e_op op_cat m_cat (e_varW (Var.z)) (e_ob (e_lst (l_cons (e_isP (b := false) T.cx_InvalidDemands hmem hz hf (Var.s (Var.z)) rfl (e_cls (by rfl) T.g_InvalidName) (fun u e => e) (T.xc_InvalidName.kit T.su_InvalidDemands_InvalidName) T.n_isinstance) (l_cons (e_isP (b := false) T.cx_InvalidDemands hmem hz hf (Var.s (Var.z)) rfl (e_cls (by rfl) T.g_UnknownName) (fun u e => e) (T.xc_UnknownName.kit T.su_InvalidDemands_UnknownName) T.n_isinstance) (l_cons (e_isP (b := false) T.cx_InvalidDemands hmem hz hf (Var.s (Var.z)) rfl (e_cls (by rfl) T.g_InvalidPage) (fun u e => e) (T.xc_InvalidPage.kit T.su_InvalidDemands_InvalidPage) T.n_isinstance) (l_nil (α := Bool)))))))) (Var.z) (by exact ⟨(show 1 < 3 by decide), trivial⟩) (by exact (show ([1, 0] : List Nat).Nodup by decide))) (b_consT (c1 := [.ow 1 (List Bool), @Ent.fz 0 Exc (repEx pp.1 d)]) (s_updO sc_law_single.nd (e_op op_cat m_cat (e_varW (Var.z)) (e_ob (e_lst (l_cons (e_isP (b := false) T.cx_InvalidDemands hmem hz hf (Var.s (Var.z)) rfl (e_cls (by rfl) T.g_NothingToUndo) (fun u e => e) (T.xc_NothingToUndo.kit T.su_InvalidDemands_NothingToUndo) T.n_isinstance) (l_cons (e_isP (b := false) T.cx_InvalidDemands hmem hz hf (Var.s (Var.z)) rfl (e_cls (by rfl) T.g_NothingToRedo) (fun u e => e) (T.xc_NothingToRedo.kit T.su_InvalidDemands_NothingToRedo) T.n_isinstance) (l_nil (α := Bool))))))) (Var.z) (by exact ⟨(show 1 < 3 by decide), trivial⟩) (by exact (show ([1, 0] : List Nat).Nodup by decide))) (b_ifT (PW.pt (q_or (q_not (q_val (e_isP (b := true) T.cx_InvalidDemands hmem hz hf (Var.s (Var.z)) rfl (e_cls (by rfl) T.g_WornError) (fun u e => e) (T.xc_WornError.kit T.su_InvalidDemands_WornError) T.n_isinstance))) (q_or1 (q_not (q_val (e_isP (b := true) T.cx_InvalidDemands hmem hz hf (Var.s (Var.z)) rfl (pe_bltn (v := .ty "ValueError") (by rfl) T.n_ValueError bt_ValueError rfl) (fun u e => e) T.kv_InvalidDemands T.n_isinstance)))))) (t_ret (e_bl)) (t_ret (e_cmp op_eq m_eqI (e_b1 call_len_seq m_lenL (by rfl) T.n_len bt_len (e_ob (e_lcT (own := [("kind", 2)]) (c2 := [.fz 2 Bool]) (mt := m_law_single_t1) (me := m_law_single_e2) hot sc_law_single.nd (it_listB rfl (e_varW (Var.z))) (blkOk_by (N := ["error", "kinds", "kind"]) (sc := defScope s_law_single) (by decide +kernel)) (Sub.skip (Sub.skip (Sub.nil))) rfl (gc_name (by exact ⟨(show 2 < 3 by decide), trivial⟩) rfl) (fun _ _ _ _ _ => pg_name (i := 2) sc_law_single.nd rfl (by first | exact .inl rfl | exact .inr rfl)) (fun _ _ _ _ _ => pts_one (q_val (e_var (Var.z)))) (fun _ _ _ _ _ => e_var (Var.z))))) (e_int)))))))))))
theorem ok_InvalidDemands_init (T : Txt K mg) (Lb : Lm T base) : FnOk P w K mg base (L2N.CX P w) 1 T.a_InvalidDemands_init T.d_InvalidDemands_init ["self", "record"] (spE T.c_InvalidDemands "record") :=
  ini_ok T.ox_InvalidDemands.oex T.nf_InvalidDemands T.F_InvalidDemands_init sc_InvalidDemands_init (j3 (by decide +kernel) (by decide +kernel)) (fun cdv A outer s H E =>
    pss_cons (ps_expr (pe_weinit T.bx_WornError (by rfl) T.g_WornError (pa_cons (pe_var (i := 0) rfl (by first | exact Or.inl rfl | exact Or.inr (Or.inl rfl) | exact Or.inr (Or.inr rfl))) (pa_cons (pe_joined (.cons pe_str (.cons (pe_fmt (pe_var (i := 1) rfl (by first | exact Or.inl rfl | exact Or.inr (Or.inl rfl) | exact Or.inr (Or.inr rfl)))) (.cons pe_str .nil)))) pa_nil)))) (pss_one (ps_ost (pe_var (i := 0) rfl (by first | exact Or.inl rfl | exact Or.inr (Or.inl rfl) | exact Or.inr (Or.inr rfl))) (pe_var (i := 1) rfl (by first | exact Or.inl rfl | exact Or.inr (Or.inl rfl) | exact Or.inr (Or.inr rfl))))))
theorem ok_check_demands (T : Txt K mg) (Lb : Lm T base) : FnOk P w K mg base (L2N.CX P w) 3 T.a_check_demands T.d_check_demands ["demands"] (spF (wdOf T) (kF : Kd (wdOf T) Unit) [.bo 0 (DV Str Int)] m_check_demands) :=
  fn_okN (m := m_check_demands_z2) (c' := []) T.F_check_demands sc_check_demands rfl (fun cdv A outer s H E hr =>
    b_cons (c1 := [.bo 0 (DV Str Int)]) (s_for (mb := m_check_demands_l1) (passes_of rfl) rfl (by first | exact .inl rfl | exact .inr rfl) (i_list rfl (e_of (e_b1 (call_sortedD rfl) m_sortedDS (by rfl) T.n_sorted bt_sorted (e_varB (Var.z))))) (pg_name (i := 1) sc_check_demands.nd rfl (by first | exact .inl rfl | exact .inr rfl)) (g_name (by exact ⟨(show 1 < 2 by decide), trivial⟩) rfl) (b_cons (c1 := [.bo 0 (DV Str Int)]) (s_if (q_cmp op_lt m_lt (e_dget (by have h2 := room2 hr; exact h2) (e_varB (Var.s (Var.z))) (e_var (Var.z))) (e_int)) (b_ts (kr := (kF : Kd (wdOf T) Unit)) (t_raise "InvalidDemands" (cm_InvalidDemands T) T.ox_InvalidDemands (ok_InvalidDemands_init T Lb) T.b_InvalidDemands_init (L2N.takes_of rfl rfl rfl rfl) (hr.mono (by decide)) T.g_InvalidDemands (e_var (Var.z)))) (b_nil (Sub.skip (Sub.keep (Sub.nil))))) (b_nil (Sub.keep (Sub.nil))))) (b_nil (Sub.skip (Sub.nil))))
theorem ok_Sheaf_len (T : Txt K mg) (Lb : Lm T base) : FnOk P w K mg base (L2N.CX P w) 2 T.a_Sheaf_len T.d_Sheaf_len ["self"] (spF (wdOf T) (kF : Kd (wdOf T) Int) [.bo 0 Sheaf] m_Sheaf_len) :=
  fn_ok T.F_Sheaf_len sc_Sheaf_len rfl (fun cdv A outer s H E hr =>
    t_ret (e_b1 call_len_seq m_lenT (by rfl) T.n_len bt_len (e_fld (C := "Sheaf") (g := fun (b : Sheaf) => b.rows) (cm_Sheaf T) T.cls_Sheaf T.na_Sheaf__rows fld_rows (e_varB (Var.z)))))
theorem ok_Sheaf_rows (T : Txt K mg) (Lb : Lm T base) : FnOk P w K mg base (L2N.CX P w) 2 T.a_Sheaf_rows T.d_Sheaf_rows ["self"] (spF (wdOf T) (kO : Kd (wdOf T) (List (Int × Str))) [.bo 0 Sheaf] m_Sheaf_rows) :=
  fn_ok T.F_Sheaf_rows sc_Sheaf_rows rfl (fun cdv A outer s H E hr =>
    t_ret (e_t1 call_list_of m_listT (by rfl) T.n_list bt_list (e_fld (C := "Sheaf") (g := fun (b : Sheaf) => b.rows) (cm_Sheaf T) T.cls_Sheaf T.na_Sheaf__rows fld_rows (e_varB (Var.z)))))
theorem ok_power (T : Txt K mg) (Lb : Lm T base) : FnOk P w K mg base (L2N.CX P w) 2 T.a_power T.d_power ["base", "exponent"] (spF (wdOf T) (kF : Kd (wdOf T) Int) [.fz 0 Int, .fz 1 Int] m_power) :=
  fn_ok T.F_power sc_power rfl (fun cdv A outer s H E hr =>
    b_consT (c1 := [.fz 2 Int, .fz 0 Int, .fz 1 Int]) (s_set sc_power.nd (e_int) (Sub.keep (Sub.keep (Sub.nil))) (by exact ⟨(show 2 < 5 by decide), trivial⟩) rfl) (b_consT (c1 := [.fz 3 Int, .fz 2 Int, .fz 1 Int]) (s_set sc_power.nd (e_var (Var.s (Var.z))) (Sub.keep (Sub.skip (Sub.keep (Sub.nil)))) (by exact ⟨(show 3 < 5 by decide), trivial⟩) rfl) (b_consT (c1 := [.fz 4 Int, .fz 3 Int, .fz 2 Int]) (s_set sc_power.nd (e_var (Var.s (Var.s (Var.z)))) (Sub.keep (Sub.keep (Sub.skip (Sub.nil)))) (by exact ⟨(show 4 < 5 by decide), trivial⟩) rfl) (b_consT (c1 := [.fz 4 Int, .fz 3 Int, .fz 2 Int]) (s_while (mt := m_power_w1) (mb := m_power_l2) (passes_of rfl) (q_cmp op_gt m_gt (e_var (Var.z)) (e_int)) (b_cons (c1 := [.fz 4 Int, .fz 3 Int, .fz 2 Int]) (s_if (q_cmp op_eq m_eqI (e_op op_and m_and (e_var (Var.z)) (e_int)) (e_int)) (b_cons (c1 := [.fz 4 Int, .fz 3 Int, .fz 2 Int]) (s_upd sc_power.nd (e_op op_mulW m_mulW (e_var (Var.s (Var.s (Var.z)))) (e_var (Var.s (Var.z)))) (Var.s (Var.s (Var.z))) (by exact ⟨(show 2 < 5 by decide), trivial⟩)) (b_nil (Sub.keep (Sub.keep (Sub.keep (Sub.nil)))))) (b_nil (Sub.keep (Sub.keep (Sub.keep (Sub.nil)))))) (b_cons (c1 := [.fz 4 Int, .fz 3 Int, .fz 2 Int]) (s_upd sc_power.nd (e_op op_mulW m_mulW (e_var (Var.s (Var.z))) (e_var (Var.s (Var.z)))) (Var.s (Var.z)) (by exact ⟨(show 3 < 5 by decide), trivial⟩)) (b_cons (c1 := [.fz 4 Int, .fz 3 Int, .fz 2 Int]) (s_upd sc_power.nd (e_op op_fdivW m_divW (e_var (Var.z)) (e_int)) (Var.z) (by exact ⟨(show 4 < 5 by decide), trivial⟩)) (b_nil (Sub.keep (Sub.keep (Sub.keep (Sub.nil))))))))) (t_ret (e_var (Var.s (Var.s (Var.z)))))))))
theorem ok_cap (T : Txt K mg) (Lb : Lm T base) : FnOk P w K mg base (L2N.CX P w) 3 T.a_cap T.d_cap ["sharpness", "end", "breadth"] (spF (wdOf T) (kF : Kd (wdOf T) Int) [.fz 0 Int, .fz 1 Int, .fz 2 Int] m_cap) :=
  fn_ok T.F_cap sc_cap rfl (fun cdv A outer s H E hr =>
    b_ifT (q_cmp op_lt m_lt (e_var (Var.z)) (e_var (Var.s (Var.z)))) (t_ret (e_int)) (t_ret (e_call (Γ := [.fz 0 Int, .fz 1 Int]) (L2N.takes_of rfl rfl rfl rfl) (ok_power T Lb) (hr.mono (by decide)) T.g_power T.F_power.kp T.b_power (a_cons (e_op op_add m_add (e_var (Var.s (Var.s (Var.z)))) (e_int)) (a_cons (e_op op_sub m_sub (e_var (Var.z)) (e_var (Var.s (Var.z)))) (a_nil))))))
theorem ok_reach (T : Txt K mg) (Lb : Lm T base) : FnOk P w K mg base (L2N.CX P w) 4 T.a_reach T.d_reach ["sheaf", "end", "breadth"] (spF (wdOf T) (kF : Kd (wdOf T) Int) [.bo 0 Sheaf, .fz 1 Int, .fz 2 Int] m_reach) :=
  fn_ok T.F_reach sc_reach rfl (fun cdv A outer s H E hr =>
    t_ret (e_b1 (cr_sum rfl) m_sum (by rfl) T.n_sum bt_sum (e_ob (e_lc (own := [("row", 3)]) (c2 := [.fz 3 (Int × Str), .fz 1 Int, .fz 2 Int]) (mt := fun _ => Rs.ok true) (me := m_reach_e1) rfl sc_reach.nd (i_listB rfl (e_ob (e_meth0 ins_sheaf (cm_Sheaf T) T.cls_Sheaf T.me_Sheaf_rows (by decide) (L2N.takes_of rfl rfl rfl rfl) (ok_Sheaf_rows T Lb) (hr.mono (by decide)) T.b_Sheaf_rows (e_varB (Var.z))))) (blkOk_by (N := ["sheaf", "end", "breadth", "row"]) (sc := defScope s_reach) (by decide +kernel)) (Sub.skip (Sub.keep (Sub.keep (Sub.nil)))) rfl (gc_name (by exact ⟨(show 3 < 4 by decide), trivial⟩) rfl) (fun _ _ _ _ _ => pg_name (i := 3) sc_reach.nd rfl (by first | exact .inl rfl | exact .inr rfl)) (fun _ _ _ _ _ => pts_yes) (fun _ _ _ _ _ => e_callK (α := Int) [.fz 0 Int, .fz 1 Int] (n := 2) takes_cut (ok_cap T Lb) (hr.mono (by decide)) T.g_cap T.F_cap.kp T.kb_cap (a_cons (e_fst rfl (e_var (Var.z))) (a_cons (e_var (Var.s (Var.z))) (a_nil))) (e_var (Var.s (Var.s (Var.z)))))))))
theorem ok_record_reach (T : Txt K mg) (Lb : Lm T base) : FnOk P w K mg base (L2N.CX P w) 4 T.a_record_reach T.d_record_reach ["sheaf", "record", "end", "breadth"] (spF (wdOf T) (kF : Kd (wdOf T) Int) [.bo 0 Sheaf, .fz 1 Str, .fz 2 Int, .fz 3 Int] m_record_reach) :=
  fn_ok T.F_record_reach sc_record_reach rfl (fun cdv A outer s H E hr =>
    t_ret (e_b1 (cr_sum rfl) m_sum (by rfl) T.n_sum bt_sum (e_ob (e_lc (own := [("row", 4)]) (c2 := [.fz 4 (Int × Str), .fz 1 Str, .fz 2 Int, .fz 3 Int]) (mt := m_record_reach_t1) (me := m_record_reach_e2) rfl sc_record_reach.nd (i_listB rfl (e_ob (e_meth0 ins_sheaf (cm_Sheaf T) T.cls_Sheaf T.me_Sheaf_rows (by decide) (L2N.takes_of rfl rfl rfl rfl) (ok_Sheaf_rows T Lb) (hr.mono (by decide)) T.b_Sheaf_rows (e_varB (Var.z))))) (blkOk_by (N := ["sheaf", "record", "end", "breadth", "row"]) (sc := defScope s_record_reach) (by decide +kernel)) (Sub.skip (Sub.keep (Sub.keep (Sub.keep (Sub.nil))))) rfl (gc_name (by exact ⟨(show 4 < 5 by decide), trivial⟩) rfl) (fun _ _ _ _ _ => pg_name (i := 4) sc_record_reach.nd rfl (by first | exact .inl rfl | exact .inr rfl)) (fun _ _ _ _ _ => pts_one (q_cmp op_eq m_eqS (e_snd rfl (e_var (Var.z))) (e_var (Var.s (Var.z))))) (fun _ _ _ _ _ => e_callK (α := Int) [.fz 0 Int, .fz 1 Int] (n := 2) takes_cut (ok_cap T Lb) (hr.mono (by decide)) T.g_cap T.F_cap.kp T.kb_cap (a_cons (e_fst rfl (e_var (Var.z))) (a_cons (e_var (Var.s (Var.s (Var.z)))) (a_nil))) (e_var (Var.s (Var.s (Var.s (Var.z))))))))))
theorem ok_own_order (T : Txt K mg) (Lb : Lm T base) : FnOk P w K mg base (L2N.CX P w) 3 T.a_own_order T.d_own_order ["rows", "record", "end"] (spF (wdOf T) (kO : Kd (wdOf T) (List Int)) [.bo 0 (List (Int × Str)), .fz 1 Str, .fz 2 Int] m_own_order) :=
  fn_okL T.co_own_order Lb.tb_own_order Lb.in_own_order Lb.un_own_order T.F_own_order sc_own_order rfl (fun A outer s H E hr LA =>
    b_consT (c1 := [.ow 3 (List Int), .bo 0 (List (Int × Str))]) (s_lc (own := [("index", 4)]) (c2 := [.fz 4 Int, .bo 0 (List (Int × Str)), .fz 1 Str, .fz 2 Int]) (mt := m_own_order_t1) (me := m_own_order_e2) rfl sc_own_order.nd rfl rfl (sw_true rfl rfl rfl (by decide +kernel)) (i_rng1 (fr := .g) (by rfl) T.n_range (e_b1 call_len_seq m_lenL (by rfl) T.n_len bt_len (e_varB (Var.z)))) (blkOk_by (N := ["rows", "record", "end", "own", "index"]) (sc := defScope s_own_order) (by decide +kernel)) (Sub.keep (Sub.keep (Sub.keep (Sub.nil)))) rfl (gc_name (by exact ⟨(show 4 < 5 by decide), trivial⟩) rfl) (fun _ _ _ _ _ => pg_name (i := 4) sc_own_order.nd rfl (by first | exact .inl rfl | exact .inr rfl)) (fun _ _ _ _ _ => pts_one (PW.pt (q_and (q_cmp op_eq m_eqS (e_snd rfl (e_ix ix_list m_ixL (e_varB (Var.s (Var.z))) (e_var (Var.z)))) (e_var (Var.s (Var.s (Var.z))))) (q_and1 (q_cmp op_ge m_ge (e_fst rfl (e_ix ix_list m_ixL (e_varB (Var.s (Var.z))) (e_var (Var.z)))) (e_var (Var.s (Var.s (Var.s (Var.z)))))))))) (fun _ _ _ _ _ => e_var (Var.z)) (Sub.keep (Sub.skip (Sub.skip (Sub.nil)))) (by exact ⟨(show 3 < 5 by decide), trivial⟩) rfl) (t_ret (e_sortKey (k := 0) (Var.s (Var.z)) rfl (hr.mono (by decide)) LA (keyScope_by (by decide +kernel)) rfl (by rfl) (by rfl) (fun _ _ _ _ _ _ => rfl) (by rfl) T.n_sorted bt_sorted (e_varW (Var.z)))))
theorem ok_capped_power (T : Txt K mg) (Lb : Lm T base) : FnOk P w K mg base (L2N.CX P w) 2 T.a_capped_power T.d_capped_power ["base", "exponent", "limit"] (spF (wdOf T) (kF : Kd (wdOf T) Int) [.fz 0 Int, .fz 1 Int, .fz 2 Int] m_capped_power) :=
  fn_ok T.F_capped_power sc_capped_power rfl (fun cdv A outer s H E hr =>
    b_consT (c1 := [.fz 3 Int, .fz 0 Int, .fz 1 Int, .fz 2 Int]) (s_set sc_capped_power.nd (e_int) (Sub.keep (Sub.keep (Sub.keep (Sub.nil)))) (by exact ⟨(show 3 < 5 by decide), trivial⟩) rfl) (b_consT (c1 := [.fz 4 Int, .fz 3 Int, .fz 0 Int, .fz 2 Int]) (s_set sc_capped_power.nd (e_var (Var.s (Var.s (Var.z)))) (Sub.keep (Sub.keep (Sub.skip (Sub.keep (Sub.nil))))) (by exact ⟨(show 4 < 5 by decide), trivial⟩) rfl) (b_consT (c1 := [.fz 4 Int, .fz 3 Int, .fz 0 Int, .fz 2 Int]) (s_while (mt := m_capped_power_w1) (mb := m_capped_power_l2) (passes_of rfl) (PW.pt (q_and (q_cmp op_gt m_gt (e_var (Var.z)) (e_int)) (q_and1 (q_cmp op_lt m_lt (e_var (Var.s (Var.z))) (e_var (Var.s (Var.s (Var.s (Var.z))))))))) (b_cons (c1 := [.fz 4 Int, .fz 3 Int, .fz 0 Int, .fz 2 Int]) (s_upd sc_capped_power.nd (e_op op_mul m_mul (e_var (Var.s (Var.z))) (e_var (Var.s (Var.s (Var.z))))) (Var.s (Var.z)) (by exact ⟨(show 3 < 5 by decide), trivial⟩)) (b_cons (c1 := [.fz 4 Int, .fz 3 Int, .fz 0 Int, .fz 2 Int]) (s_upd sc_capped_power.nd (e_op op_sub m_sub (e_var (Var.z)) (e_int)) (Var.z) (by exact ⟨(show 4 < 5 by decide), trivial⟩)) (b_nil (Sub.keep (Sub.keep (Sub.keep (Sub.keep (Sub.nil))))))))) (t_ret (e_b1 (cr_min rfl) m_min (by rfl) T.n_min bt_min (e_ob (e_lst (l_cons (e_var (Var.s (Var.z))) (l_cons (e_var (Var.s (Var.s (Var.s (Var.z))))) (l_nil (α := Int)))))))))))
theorem ok_set_aside (T : Txt K mg) (Lb : Lm T base) : FnOk P w K mg base (L2N.CX P w) 4 T.a_set_aside T.d_set_aside ["sheaf", "end", "demands", "breadth"] (spF (wdOf T) (kO : Kd (wdOf T) (List Int)) [.bo 0 Sheaf, .fz 1 Int, .bo 2 (DV Str Int), .fz 3 Int] m_set_aside) :=
  fn_ok T.F_set_aside sc_set_aside rfl (fun cdv A outer s H E hr =>
    b_consT (c1 := [.bo 0 Sheaf, .fz 1 Int, .bo 2 (DV Str Int), .fz 3 Int]) (s_expr (e_call (Γ := [.bo 0 (DV Str Int)]) (L2N.takes_of rfl rfl rfl rfl) (ok_check_demands T Lb) (hr.mono (by decide)) T.g_check_demands T.F_check_demands.kp T.b_check_demands (a_consB (e_varB (Var.s (Var.s (Var.z)))) (a_nil)))) (b_consT (c1 := [.ow 4 (List (Int × Str)), .fz 1 Int, .bo 2 (DV Str Int), .fz 3 Int]) (s_setO sc_set_aside.nd (e_meth0 ins_sheaf (cm_Sheaf T) T.cls_Sheaf T.me_Sheaf_rows (by decide) (L2N.takes_of rfl rfl rfl rfl) (ok_Sheaf_rows T Lb) (hr.mono (by decide)) T.b_Sheaf_rows (e_varB (Var.z))) (Sub.skip (Sub.keep (Sub.keep (Sub.keep (Sub.nil))))) (by exact ⟨(show 4 < 10 by decide), trivial⟩) rfl) (b_consT (c1 := [.ow 5 (List Int), .ow 4 (List (Int × Str)), .fz 1 Int, .bo 2 (DV Str Int), .fz 3 Int]) (s_setO sc_set_aside.nd (e_lst (l_nil (α := Int))) (Sub.keep (Sub.keep (Sub.keep (Sub.keep (Sub.nil))))) (by exact ⟨(show 5 < 10 by decide), trivial⟩) rfl) (b_consT (c1 := [.ow 5 (List Int), .ow 4 (List (Int × Str)), .fz 1 Int, .bo 2 (DV Str Int), .fz 3 Int]) (s_for (mb := m_set_aside_l2) (passes_of rfl) rfl (by first | exact .inl rfl | exact .inr rfl) (i_list rfl (e_of (e_b1 (call_sortedD rfl) m_sortedDS (by rfl) T.n_sorted bt_sorted (e_varB (Var.s (Var.s (Var.s (Var.z)))))))) (pg_name (i := 6) sc_set_aside.nd rfl (by first | exact .inl rfl | exact .inr rfl)) (g_name (by exact ⟨(show 6 < 10 by decide), trivial⟩) rfl) (b_cons (c1 := [.fz 7 Int, .fz 6 Str, .ow 5 (List Int), .ow 4 (List (Int × Str)), .fz 1 Int, .bo 2 (DV Str Int), .fz 3 Int]) (s_set sc_set_aside.nd (e_dget (by have h2 := room2 hr; exact h2) (e_varB (Var.s (Var.s (Var.s (Var.s (Var.z)))))) (e_var (Var.z))) (Sub.keep (Sub.keep (Sub.keep (Sub.keep (Sub.keep (Sub.keep (Sub.nil))))))) (by exact ⟨(show 7 < 10 by decide), trivial⟩) rfl) (b_cons (c1 := [.fz 8 Int, .fz 7 Int, .fz 6 Str, .ow 5 (List Int), .ow 4 (List (Int × Str)), .fz 1 Int, .bo 2 (DV Str Int), .fz 3 Int]) (s_set sc_set_aside.nd (e_int) (Sub.keep (Sub.keep (Sub.keep (Sub.keep (Sub.keep (Sub.keep (Sub.keep (Sub.nil)))))))) (by exact ⟨(show 8 < 10 by decide), trivial⟩) rfl) (b_cons (c1 := [.fz 8 Int, .fz 7 Int, .fz 6 Str, .ow 5 (List Int), .ow 4 (List (Int × Str)), .fz 1 Int, .bo 2 (DV Str Int), .fz 3 Int]) (s_for (mb := m_set_aside_l1) (passes_of rfl) rfl (by first | exact .inl rfl | exact .inr rfl) (i_list rfl (e_of (e_call (Γ := [.bo 0 (List (Int × Str)), .fz 1 Str, .fz 2 Int]) (L2N.takes_of rfl rfl rfl rfl) (ok_own_order T Lb) (hr.mono (by decide)) T.g_own_order T.F_own_order.kp T.b_own_order (a_consB (e_varW (Var.s (Var.s (Var.s (Var.s (Var.z)))))) (a_cons (e_var (Var.s (Var.s (Var.z)))) (a_cons (e_var (Var.s (Var.s (Var.s (Var.s (Var.s (Var.z))))))) (a_nil))))))) (pg_name (i := 9) sc_set_aside.nd rfl (by first | exact .inl rfl | exact .inr rfl)) (g_name (by exact ⟨(show 9 < 10 by decide), trivial⟩) rfl) (b_cons (c1 := [.fz 8 Int, .fz 7 Int, .fz 6 Str, .ow 5 (List Int), .ow 4 (List (Int × Str)), .fz 1 Int, .bo 2 (DV Str Int), .fz 3 Int]) (s_if (q_cmp op_lt m_lt (e_var (Var.s (Var.z))) (e_var (Var.s (Var.s (Var.z))))) (b_cons (c1 := [.fz 9 Int, .fz 8 Int, .fz 7 Int, .fz 6 Str, .ow 5 (List Int), .ow 4 (List (Int × Str)), .fz 1 Int, .bo 2 (DV Str Int), .fz 3 Int]) (s_append (Var.s (Var.s (Var.s (Var.s (Var.z))))) (e_var (Var.z))) (b_cons (c1 := [.fz 9 Int, .fz 8 Int, .fz 7 Int, .fz 6 Str, .ow 5 (List Int), .ow 4 (List (Int × Str)), .fz 1 Int, .bo 2 (DV Str Int), .fz 3 Int]) (s_upd sc_set_aside.nd (e_op op_add m_add (e_var (Var.s (Var.z))) (e_call (Γ := [.fz 0 Int, .fz 1 Int, .fz 2 Int]) (L2N.takes_of rfl rfl rfl rfl) (ok_capped_power T Lb) (hr.mono (by decide)) T.g_capped_power T.F_capped_power.kp T.b_capped_power (a_cons (e_op op_add m_add (e_var (Var.s (Var.s (Var.s (Var.s (Var.s (Var.s (Var.s (Var.s (Var.z)))))))))) (e_int)) (a_cons (e_op op_sub m_sub (e_fst rfl (e_ix ix_list m_ixL (e_varW (Var.s (Var.s (Var.s (Var.s (Var.s (Var.z))))))) (e_var (Var.z)))) (e_var (Var.s (Var.s (Var.s (Var.s (Var.s (Var.s (Var.z))))))))) (a_cons (e_var (Var.s (Var.s (Var.z)))) (a_nil)))))) (Var.s (Var.z)) (by exact ⟨(show 8 < 10 by decide), trivial⟩)) (b_nil (Sub.skip (Sub.keep (Sub.keep (Sub.keep (Sub.keep (Sub.keep (Sub.keep (Sub.keep (Sub.keep (Sub.nil))))))))))))) (b_nil (Sub.skip (Sub.keep (Sub.keep (Sub.keep (Sub.keep (Sub.keep (Sub.keep (Sub.keep (Sub.keep (Sub.nil)))))))))))) (b_nil (Sub.keep (Sub.keep (Sub.keep (Sub.keep (Sub.keep (Sub.keep (Sub.keep (Sub.keep (Sub.nil)))))))))))) (b_nil (Sub.skip (Sub.skip (Sub.skip (Sub.keep (Sub.keep (Sub.keep (Sub.keep (Sub.keep (Sub.nil)))))))))))))) (t_ret (e_b1 cr_sortedI m_sorted (by rfl) T.n_sorted bt_sorted (e_varW (Var.z))))))))
theorem ok_spare_values (T : Txt K mg) (Lb : Lm T base) : FnOk P w K mg base (L2N.CX P w) 3 T.a_spare_values T.d_spare_values ["sheaf", "aside"] (spF (wdOf T) (kO : Kd (wdOf T) (List Int)) [.bo 0 Sheaf, .bo 1 (List Int)] m_spare_values) :=
  fn_ok T.F_spare_values sc_spare_values rfl (fun cdv A outer s H E hr =>
    b_consT (c1 := [.ow 2 (List (Int × Str)), .bo 1 (List Int)]) (s_setO sc_spare_values.nd (e_meth0 ins_sheaf (cm_Sheaf T) T.cls_Sheaf T.me_Sheaf_rows (by decide) (L2N.takes_of rfl rfl rfl rfl) (ok_Sheaf_rows T Lb) (hr.mono (by decide)) T.b_Sheaf_rows (e_varB (Var.z))) (Sub.skip (Sub.keep (Sub.nil))) (by exact ⟨(show 2 < 4 by decide), trivial⟩) rfl) (t_ret (e_lc (own := [("index", 3)]) (c2 := [.fz 3 Int, .ow 2 (List (Int × Str)), .bo 1 (List Int)]) (mt := m_spare_values_t1) (me := m_spare_values_e2) rfl sc_spare_values.nd (i_rng1 (fr := .g) (by rfl) T.n_range (e_b1 call_len_seq m_lenL (by rfl) T.n_len bt_len (e_varW (Var.z)))) (blkOk_by (N := ["sheaf", "aside", "rows", "index"]) (sc := defScope s_spare_values) (by decide +kernel)) (Sub.keep (Sub.keep (Sub.nil))) rfl (gc_name (by exact ⟨(show 3 < 4 by decide), trivial⟩) rfl) (fun _ _ _ _ _ => pg_name (i := 3) sc_spare_values.nd rfl (by first | exact .inl rfl | exact .inr rfl)) (fun _ _ _ _ _ => pts_one (q_cmp op_notIn_seq m_niI (e_var (Var.z)) (e_varB (Var.s (Var.s (Var.z)))))) (fun _ _ _ _ _ => e_fst rfl (e_ix ix_list m_ixL (e_varW (Var.s (Var.z))) (e_var (Var.z)))))))
theorem ok_count_no_sharper (T : Txt K mg) (Lb : Lm T base) : FnOk P w K mg base (L2N.CX P w) 2 T.a_count_no_sharper T.d_count_no_sharper ["values", "level"] (spF (wdOf T) (kF : Kd (wdOf T) Int) [.bo 0 (List Int), .fz 1 Int] m_count_no_sharper) :=
  fn_ok T.F_count_no_sharper sc_count_no_sharper rfl (fun cdv A outer s H E hr =>
    t_ret (e_b1 call_len_seq m_lenL (by rfl) T.n_len bt_len (e_ob (e_lc (own := [("value", 2)]) (c2 := [.fz 2 Int, .fz 1 Int]) (mt := m_count_no_sharper_t1) (me := m_count_no_sharper_e2) rfl sc_count_no_sharper.nd (i_bo (Var.z) rfl) (blkOk_by (N := ["values", "level", "value"]) (sc := defScope s_count_no_sharper) (by decide +kernel)) (Sub.skip (Sub.keep (Sub.nil))) rfl (gc_name (by exact ⟨(show 2 < 3 by decide), trivial⟩) rfl) (fun _ _ _ _ _ => pg_name (i := 2) sc_count_no_sharper.nd rfl (by first | exact .inl rfl | exact .inr rfl)) (fun _ _ _ _ _ => pts_one (q_cmp op_le m_le (e_var (Var.z)) (e_var (Var.s (Var.z))))) (fun _ _ _ _ _ => e_var (Var.z))))))
theorem ok_first_lack (T : Txt K mg) (Lb : Lm T base) : FnOk P w K mg base (L2N.CX P w) 3 T.a_first_lack T.d_first_lack ["values", "end", "spare"] (spF (wdOf T) (kF : Kd (wdOf T) (Option (Int × Int))) [.bo 0 (List Int), .fz 1 Int, .bo 2 (List Int)] m_first_lack) :=
  fn_ok T.F_first_lack sc_first_lack rfl (fun cdv A outer s H E hr =>
    b_goT (c1 := [.bo 0 (List Int), .fz 1 Int, .bo 2 (List Int)]) (m2 := m_first_lack_b2) (s_forG (mb := m_first_lack_l1) (passes_of rfl) rfl (by first | exact .inl rfl | exact .inr rfl) (i_rng2 (fr := .g) (by rfl) T.n_range (e_var (Var.s (Var.z))) (e_b1 (cr_max rfl) m_max (by rfl) T.n_max bt_max (e_varB (Var.z)))) (pg_name (i := 3) sc_first_lack.nd rfl (by first | exact .inl rfl | exact .inr rfl)) (g_name (by exact ⟨(show 3 < 5 by decide), trivial⟩) rfl) (b_consG (c1 := [.fz 4 Int, .fz 3 Int, .bo 0 (List Int), .fz 1 Int, .bo 2 (List Int)]) (s_set sc_first_lack.nd (e_call (Γ := [.bo 0 (List Int), .fz 1 Int]) (L2N.takes_of rfl rfl rfl rfl) (ok_count_no_sharper T Lb) (hr.mono (by decide)) T.g_count_no_sharper T.F_count_no_sharper.kp T.b_count_no_sharper (a_consB (e_varB (Var.s (Var.s (Var.s (Var.z))))) (a_cons (e_var (Var.z)) (a_nil)))) (Sub.keep (Sub.keep (Sub.keep (Sub.keep (Sub.nil))))) (by exact ⟨(show 4 < 5 by decide), trivial⟩) rfl) (b_ifG (q_cmp op_lt m_lt (e_var (Var.z)) (e_op op_sub m_sub (e_op op_add m_add (e_var (Var.s (Var.z))) (e_int)) (e_var (Var.s (Var.s (Var.s (Var.z))))))) (t_ret (e_some (e_pair (e_var (Var.s (Var.z))) (e_var (Var.z))))) (b_nilG (Sub.skip (Sub.skip (Sub.keep (Sub.keep (Sub.keep (Sub.nil)))))))))) (t_ret (e_nonO)))
theorem ok_trouble (T : Txt K mg) (Lb : Lm T base) : FnOk P w K mg base (L2N.CX P w) 5 T.a_trouble T.d_trouble ["sheaf", "end", "demands", "breadth"] (spF (wdOf T) (kF : Kd (wdOf T) (Option (Tup (Int ⊕ Str)))) [.bo 0 Sheaf, .fz 1 Int, .bo 2 (DV Str Int), .fz 3 Int] m_trouble) :=
  fn_ok T.F_trouble sc_trouble rfl (fun cdv A outer s H E hr =>
    b_consT (c1 := [.bo 0 Sheaf, .fz 1 Int, .bo 2 (DV Str Int), .fz 3 Int]) (s_expr (e_call (Γ := [.bo 0 (DV Str Int)]) (L2N.takes_of rfl rfl rfl rfl) (ok_check_demands T Lb) (hr.mono (by decide)) T.g_check_demands T.F_check_demands.kp T.b_check_demands (a_consB (e_varB (Var.s (Var.s (Var.z)))) (a_nil)))) (b_consT (c1 := [.fz 4 Int, .bo 0 Sheaf, .fz 1 Int, .bo 2 (DV Str Int), .fz 3 Int]) (s_set sc_trouble.nd (e_b1 (cr_sum rfl) m_sum (by rfl) T.n_sum bt_sum (e_ob (e_lock (m := m_trouble_k2) un_O (Sub.skip (Sub.skip (Sub.keep (Sub.skip (Sub.nil))))) (Lk.bo (LkT.nil)) (e_lc (own := [("record", 6)]) (c2 := [.fz 6 Str, .bo 2 (LV Str Int)]) (mt := fun _ => Rs.ok true) (me := m_trouble_e1) rfl sc_trouble.nd (i_keysV (Var.z)) (blkOk_by (N := ["sheaf", "end", "demands", "breadth", "total", "reached", "record", "spare", "lack", "row"]) (sc := defScope s_trouble) (by decide +kernel)) (Sub.keep (Sub.nil)) rfl (gc_name (by exact ⟨(show 6 < 10 by decide), trivial⟩) rfl) (fun _ _ _ _ _ => pg_name (i := 6) sc_trouble.nd rfl (by first | exact .inl rfl | exact .inr rfl)) (fun _ _ _ _ _ => pts_yes) (fun _ _ _ _ _ => e_dget (by have h2 := room2 hr; exact h2) (e_lvdv (e_varB (Var.s (Var.z)))) (e_var (Var.z))))))) (Sub.keep (Sub.keep (Sub.keep (Sub.keep (Sub.nil))))) (by exact ⟨(show 4 < 10 by decide), trivial⟩) rfl) (b_ifT (q_cmp op_gt m_gt (e_var (Var.z)) (e_b1T (call_lenW (ok_Sheaf_len T Lb) T.me_Sheaf_len.at_ T.me_Sheaf_len.fn (hr.mono (by decide)) T.b_Sheaf_len) (m_lenW ins_sheaf (cm_Sheaf T)) (by rfl) T.n_len bt_len (e_varB (Var.s (Var.z))))) (t_ret (e_some (e_cst (Cst.p2 (Cst.r (Cst.i)) (Cst.l)) (e_pair (e_str) (e_var (Var.z)))))) (b_consT (c1 := [.fz 5 Int, .bo 0 Sheaf, .fz 1 Int, .bo 2 (DV Str Int), .fz 3 Int]) (s_set sc_trouble.nd (e_callK (α := Int) [.bo 0 Sheaf, .fz 1 Int] (n := 2) (L2N.takes_of rfl rfl rfl rfl) (ok_reach T Lb) (hr.mono (by decide)) T.g_reach T.F_reach.kp T.kb_reach (a_consB (e_varB (Var.s (Var.z))) (a_cons (e_var (Var.s (Var.s (Var.z)))) (a_nil))) (e_var (Var.s (Var.s (Var.s (Var.s (Var.z))))))) (Sub.skip (Sub.keep (Sub.keep (Sub.keep (Sub.keep (Sub.nil)))))) (by exact ⟨(show 5 < 10 by decide), trivial⟩) rfl) (b_ifT (q_cmp op_lt m_lt (e_var (Var.z)) (e_b1T (call_lenW (ok_Sheaf_len T Lb) T.me_Sheaf_len.at_ T.me_Sheaf_len.fn (hr.mono (by decide)) T.b_Sheaf_len) (m_lenW ins_sheaf (cm_Sheaf T)) (by rfl) T.n_len bt_len (e_varB (Var.s (Var.z))))) (t_ret (e_some (e_cst (Cst.p2 (Cst.r (Cst.i)) (Cst.l)) (e_pair (e_str) (e_var (Var.z)))))) (b_goT (c1 := [.fz 5 Int, .bo 0 Sheaf, .fz 1 Int, .bo 2 (DV Str Int), .fz 3 Int]) (m2 := m_trouble_b5) (s_forG (mb := m_trouble_l3) (passes_of rfl) rfl (by first | exact .inl rfl | exact .inr rfl) (i_list rfl (e_of (e_b1 (call_sortedD rfl) m_sortedDS (by rfl) T.n_sorted bt_sorted (e_varB (Var.s (Var.s (Var.s (Var.z)))))))) (pg_name (i := 6) sc_trouble.nd rfl (by first | exact .inl rfl | exact .inr rfl)) (g_name (by exact ⟨(show 6 < 10 by decide), trivial⟩) rfl) (b_consG (c1 := [.fz 6 Str, .fz 5 Int, .bo 0 Sheaf, .fz 1 Int, .bo 2 (DV Str Int), .fz 3 Int]) (s_upd sc_trouble.nd (e_callK (α := Int) [.bo 0 Sheaf, .fz 1 Str, .fz 2 Int] (n := 3) (L2N.takes_of rfl rfl rfl rfl) (ok_record_reach T Lb) (hr.mono (by decide)) T.g_record_reach T.F_record_reach.kp T.kb_record_reach (a_consB (e_varB (Var.s (Var.s (Var.z)))) (a_cons (e_var (Var.z)) (a_cons (e_var (Var.s (Var.s (Var.s (Var.z))))) (a_nil)))) (e_var (Var.s (Var.s (Var.s (Var.s (Var.s (Var.z)))))))) (Var.s (Var.z)) (by exact ⟨(show 5 < 10 by decide), trivial⟩)) (b_ifG (q_cmp op_lt m_lt (e_var (Var.s (Var.z))) (e_dget (by have h2 := room2 hr; exact h2) (e_varB (Var.s (Var.s (Var.s (Var.s (Var.z)))))) (e_var (Var.z)))) (t_ret (e_some (e_cst (Cst.nt (CstN.cons (Cst.r (Cst.i)) (CstN.cons (Cst.r (Cst.i)) (CstN.cons (Cst.l) (CstN.nil))))) (e_nt (n_cons (e_str) (n_cons (e_var (Var.z)) (n_cons (e_var (Var.s (Var.z))) (n_nil)))))))) (b_nilG (Sub.skip (Sub.keep (Sub.keep (Sub.keep (Sub.keep (Sub.keep (Sub.nil))))))))))) (b_consT (c1 := [.ow 7 (List Int), .bo 0 Sheaf, .fz 1 Int]) (s_setO sc_trouble.nd (e_call (Γ := [.bo 0 Sheaf, .bo 1 (List Int)]) (L2N.takes_of rfl rfl rfl rfl) (ok_spare_values T Lb) (hr.mono (by decide)) T.g_spare_values T.F_spare_values.kp T.b_spare_values (a_consB (e_varB (Var.s (Var.z))) (a_consB (e_ob (e_callK (α := Int) [.bo 0 Sheaf, .fz 1 Int, .bo 2 (DV Str Int)] (n := 3) (L2N.takes_of rfl rfl rfl rfl) (ok_set_aside T Lb) (hr.mono (by decide)) T.g_set_aside T.F_set_aside.kp T.kb_set_aside (a_consB (e_varB (Var.s (Var.z))) (a_cons (e_var (Var.s (Var.s (Var.z)))) (a_consB (e_varB (Var.s (Var.s (Var.s (Var.z))))) (a_nil)))) (e_var (Var.s (Var.s (Var.s (Var.s (Var.z)))))))) (a_nil)))) (Sub.skip (Sub.keep (Sub.keep (Sub.skip (Sub.skip (Sub.nil)))))) (by exact ⟨(show 7 < 10 by decide), trivial⟩) rfl) (b_consT (c1 := [.fz 8 (Option (Int × Int))]) (s_set sc_trouble.nd (e_call (Γ := [.bo 0 (List Int), .fz 1 Int, .bo 2 (List Int)]) (L2N.takes_of rfl rfl rfl rfl) (ok_first_lack T Lb) (hr.mono (by decide)) T.g_first_lack T.F_first_lack.kp T.b_first_lack (a_consB (e_ob (e_lc (own := [("row", 9)]) (c2 := [.fz 9 (Int × Str)]) (mt := fun _ => Rs.ok true) (me := m_trouble_e4) rfl sc_trouble.nd (i_listB rfl (e_ob (e_meth0 ins_sheaf (cm_Sheaf T) T.cls_Sheaf T.me_Sheaf_rows (by decide) (L2N.takes_of rfl rfl rfl rfl) (ok_Sheaf_rows T Lb) (hr.mono (by decide)) T.b_Sheaf_rows (e_varB (Var.s (Var.z)))))) (blkOk_by (N := ["sheaf", "end", "demands", "breadth", "total", "reached", "record", "spare", "lack", "row"]) (sc := defScope s_trouble) (by decide +kernel)) (Sub.skip (Sub.skip (Sub.skip (Sub.nil)))) rfl (gc_name (by exact ⟨(show 9 < 10 by decide), trivial⟩) rfl) (fun _ _ _ _ _ => pg_name (i := 9) sc_trouble.nd rfl (by first | exact .inl rfl | exact .inr rfl)) (fun _ _ _ _ _ => pts_yes) (fun _ _ _ _ _ => e_fst rfl (e_var (Var.z))))) (a_cons (e_var (Var.s (Var.s (Var.z)))) (a_consB (e_varW (Var.z)) (a_nil))))) (Sub.skip (Sub.skip (Sub.skip (Sub.nil)))) (by exact ⟨(show 8 < 10 by decide), trivial⟩) rfl) (b_ifT (q_cmp op_isN (m_isN nn_own) (e_var (Var.z)) (e_non)) (t_ret (e_nonO)) (t_ret (e_some (e_cst (Cst.nt (CstN.cons (Cst.r (Cst.i)) (CstN.cons (Cst.l) (CstN.cons (Cst.l) (CstN.nil))))) (e_nt (n_cons (e_str) (n_cons (e_fst rfl (e_narF (e_var (Var.z)))) (n_cons (e_snd rfl (e_narF (e_var (Var.z)))) (n_nil)))))))))))))))))
theorem ok_can_meet (T : Txt K mg) (Lb : Lm T base) : FnOk P w K mg base (L2N.CX P w) 6 T.a_can_meet T.d_can_meet ["sheaf", "end", "demands", "breadth"] (spF (wdOf T) (kF : Kd (wdOf T) Bool) [.bo 0 Sheaf, .fz 1 Int, .bo 2 (DV Str Int), .fz 3 Int] m_can_meet) :=
  fn_ok T.F_can_meet sc_can_meet rfl (fun cdv A outer s H E hr =>
    t_ret (e_cmp op_isN (m_isN nn_own) (e_callK (α := Int) [.bo 0 Sheaf, .fz 1 Int, .bo 2 (DV Str Int)] (n := 3) (L2N.takes_of rfl rfl rfl rfl) (ok_trouble T Lb) (hr.mono (by decide)) T.g_trouble T.F_trouble.kp T.kb_trouble (a_consB (e_varB (Var.z)) (a_cons (e_var (Var.s (Var.z))) (a_consB (e_varB (Var.s (Var.s (Var.z)))) (a_nil)))) (e_var (Var.s (Var.s (Var.s (Var.z)))))) (e_non)))
theorem ok_law_asked (T : Txt K mg) (Lb : Lm T base) : FnOk P w K mg base (L2N.CX P w) 7 T.a_law_asked T.d_law_asked ["sheaf", "end", "demands", "width", "plain"] (spF (wdOf T) (kF : Kd (wdOf T) (Str × (Str ⊕ Bool))) [.bo 0 Sheaf, .fz 1 Int, .bo 2 (DV Str Int), .fz 3 Int, .fz 4 Bool] m_law_asked) :=
  fn_ok T.F_law_asked sc_law_asked rfl (fun cdv A outer s H E hr =>
    b_goT (c1 := []) (m2 := m_law_asked_b3) (g_tryA (n := "InvalidDemands") (oth := []) (c1 := []) (c2 := []) (mb := m_law_asked_y1) (mh := m_law_asked_x2) [] (Sub.skip (Sub.skip (Sub.skip (Sub.skip (Sub.skip (Sub.nil)))))) (cm_InvalidDemands T) sc_law_asked.nd (i := 5) rfl rfl T.g_InvalidDemands (L2N.takes_of rfl rfl rfl rfl) (by exact ⟨(show 5 < 6 by decide), trivial⟩) rfl rfl rfl (T.xc_InvalidDemands.exm T.xc_InvalidDemands.sf) (fun _ z => by cases z) (fun W pn xe σ0 tw pw => b_tg (b_ifT (q_val (e_var (Var.s (Var.s (Var.s (Var.s (Var.z))))))) (t_ret (e_cst (Cst.p (Cst.i) (Cst.r (Cst.i))) (e_pair (e_str) (e_callD (α := Int) [.bo 0 Sheaf, .fz 1 Int, .bo 2 (DV Str Int)] (n := 3) (d := .int 1) (z := (1 : Int)) tw (ok_can_meet T Lb) (hr.mono (by decide)) T.g_can_meet T.F_can_meet.kp T.dk_can_meet (fun _ => rfl) (a_consB (e_varB (Var.z)) (a_cons (e_var (Var.s (Var.z))) (a_consB (e_varB (Var.s (Var.s (Var.z)))) (a_nil)))))))) (t_ret (e_cst (Cst.p (Cst.i) (Cst.r (Cst.i))) (e_pair (e_str) (e_callK (α := Int) [.bo 0 Sheaf, .fz 1 Int, .bo 2 (DV Str Int)] (n := 3) tw (ok_can_meet T Lb) (hr.mono (by decide)) T.g_can_meet T.F_can_meet.kp T.kb_can_meet (a_consB (e_varB (Var.z)) (a_cons (e_var (Var.s (Var.z))) (a_consB (e_varB (Var.s (Var.s (Var.z)))) (a_nil)))) (e_var (Var.s (Var.s (Var.s (Var.z))))))))))) (fun a oe d pn hz hf hot => b_ifG (PW.pt (q_and (q_val (e_callX takes_cut hot hz hf (ok_law_single T Lb) (room_mark hr (by decide)) T.g_law_single T.F_law_single.kp T.b_law_single (Var.z) rfl)) (q_and1 (q_val (e_isi (t := fun _ => .type "str") (b := fun _ => true) (u := .type "str") T.n_isinstance (e_fldE (α := Str) T.cx_InvalidDemands hz hf (Var.z) T.nf_InvalidDemands rfl) (pe_bltn (v := .ty "str") (by rfl) T.n_str bt_str rfl) (.ty _) ty_str (fun _ => kit_ty (by decide +kernel))))))) (t_ret (e_cst (Cst.p (Cst.i) (Cst.l)) (e_pair (e_str) (e_fldE (α := Str) T.cx_InvalidDemands hz hf (Var.z) T.nf_InvalidDemands rfl)))) (b_nilG (Sub.skip (Sub.nil))))) (t_ret (e_cst (Cst.p (Cst.i) (Cst.l)) (e_pair (e_str) (e_str)))))
theorem ok_Sheaf_eq (T : Txt K mg) (Lb : Lm T base) : FnOk P w K mg base (L2N.CX P w) 2 T.a_Sheaf_eq T.d_Sheaf_eq ["self", "other"] (spF (wdOf T) (kF : Kd (wdOf T) Bool) [.bo 0 Sheaf, .bo 1 Sheaf] m_Sheaf_eq) :=
  fn_ok T.F_Sheaf_eq sc_Sheaf_eq rfl (fun cdv A outer s H E hr =>
    t_ret (e_and (e_isi (t := fun _ => .ref T.c_Sheaf) (b := fun _ => true) (u := .ref T.c_Sheaf) T.n_isinstance (e_varB (Var.s (Var.z))) (e_cls (by rfl) T.g_Sheaf) (.own _) (ty_insB ins_sheaf (cm_Sheaf T) T.isi_Sheaf) (fun _ => kit_self)) (e_one (e_cmp (op_eqD (by have hu := hr.units; exact hu)) m_eqD (e_fld (C := "Sheaf") (g := fun (b : Sheaf) => b.rows) (cm_Sheaf T) T.cls_Sheaf T.na_Sheaf__rows fld_rows (e_varB (Var.z))) (e_fld (C := "Sheaf") (g := fun (b : Sheaf) => b.rows) (cm_Sheaf T) T.cls_Sheaf T.na_Sheaf__rows fld_rows (e_varB (Var.s (Var.z))))))))
theorem ok_law_met (T : Txt K mg) (Lb : Lm T base) : FnOk P w K mg base (L2N.CX P w) 8 T.a_law_met T.d_law_met ["rows", "end", "demands", "width", "plain", "due"] (spF (wdOf T) (kF : Kd (wdOf T) Bool) [.bo 0 (List (Int × Str)), .fz 1 Int, .bo 2 (DV Str Int), .fz 3 Int, .fz 4 Bool, .fz 5 Bool] m_law_met) :=
  fn_ok T.F_law_met sc_law_met rfl (fun cdv A outer s H E hr =>
    b_consT (c1 := [.ow 6 Sheaf, .bo 0 (List (Int × Str)), .fz 1 Int, .bo 2 (DV Str Int), .fz 3 Int, .fz 4 Bool, .fz 5 Bool]) (s_setO sc_law_met.nd (e_make (C := "Sheaf") (Γ := [.bo 1 (List (Int × Str))]) (cm_Sheaf T) T.mk_Sheaf (L2N.takes_of rfl rfl rfl rfl) (ok_Sheaf_init T Lb) (hr.mono (by decide)) T.g_Sheaf T.b_Sheaf_init (a_consB (e_ob (e_t1 call_list_of m_list (by rfl) T.n_list bt_list (e_varB (Var.z)))) (a_nil))) (Sub.keep (Sub.keep (Sub.keep (Sub.keep (Sub.keep (Sub.keep (Sub.nil))))))) (by exact ⟨(show 6 < 9 by decide), trivial⟩) rfl) (b_consT (c1 := [.ow 7 (Dct Str Int), .ow 6 Sheaf, .bo 0 (List (Int × Str)), .fz 1 Int, .bo 2 (DV Str Int), .fz 3 Int, .fz 4 Bool, .fz 5 Bool]) (s_setO sc_law_met.nd (e_t1 call_dictD m_dictDV (by rfl) T.n_dict bt_dict (e_varB (Var.s (Var.s (Var.s (Var.z)))))) (Sub.keep (Sub.keep (Sub.keep (Sub.keep (Sub.keep (Sub.keep (Sub.keep (Sub.nil)))))))) (by exact ⟨(show 7 < 9 by decide), trivial⟩) rfl) (b_consT (c1 := [.fz 8 (Str × (Str ⊕ Bool)), .ow 7 (Dct Str Int), .ow 6 Sheaf, .bo 0 (List (Int × Str)), .bo 2 (DV Str Int), .fz 5 Bool]) (s_set sc_law_met.nd (e_call (Γ := [.bo 0 Sheaf, .fz 1 Int, .bo 2 (DV Str Int), .fz 3 Int, .fz 4 Bool]) (L2N.takes_of rfl rfl rfl rfl) (ok_law_asked T Lb) (hr.mono (by decide)) T.g_law_asked T.F_law_asked.kp T.b_law_asked (a_consB (e_varW (Var.s (Var.z))) (a_cons (e_var (Var.s (Var.s (Var.s (Var.z))))) (a_consB (e_dv (e_varW (Var.z))) (a_cons (e_var (Var.s (Var.s (Var.s (Var.s (Var.s (Var.z))))))) (a_cons (e_var (Var.s (Var.s (Var.s (Var.s (Var.s (Var.s (Var.z)))))))) (a_nil))))))) (Sub.keep (Sub.keep (Sub.keep (Sub.skip (Sub.keep (Sub.skip (Sub.skip (Sub.keep (Sub.nil))))))))) (by exact ⟨(show 8 < 9 by decide), trivial⟩) rfl) (b_ifT (PW.pt (q_or (q_cmp (op_neDR (by have hu := hr.units; exact hu)) m_eqDR (e_dv (e_varW (Var.s (Var.z)))) (e_varB (Var.s (Var.s (Var.s (Var.s (Var.z))))))) (q_or1 (q_not (q_cmpT (op_eqW (ok_Sheaf_eq T Lb) T.me_Sheaf_eq.at_ T.me_Sheaf_eq.fn (hr.mono (by decide)) T.b_Sheaf_eq) (m_eqW ins_sheaf (cm_Sheaf T)) (e_varW (Var.s (Var.s (Var.z)))) (e_ob (e_make (C := "Sheaf") (Γ := [.bo 1 (List (Int × Str))]) (cm_Sheaf T) T.mk_Sheaf (L2N.takes_of rfl rfl rfl rfl) (ok_Sheaf_init T Lb) (hr.mono (by decide)) T.g_Sheaf T.b_Sheaf_init (a_consB (e_ob (e_t1 call_list_of m_list (by rfl) T.n_list bt_list (e_varB (Var.s (Var.s (Var.s (Var.z))))))) (a_nil))))))))) (t_ret (e_bl)) (t_ret (e_and (e_cmp op_eq m_eqS (e_fst rfl (e_var (Var.z))) (e_str)) (e_and (e_isi (t := fun _ => .type "bool") (b := fun _ => true) (u := .type "bool") T.n_isinstance (e_theR (e_snd rfl (e_var (Var.z)))) (pe_bltn (v := .ty "bool") (by rfl) T.n_bool bt_bool rfl) (.ty _) ty_bool (fun _ => kit_ty (by decide +kernel))) (e_one (e_cmp op_eq m_eqL (e_theR (e_snd rfl (e_var (Var.z)))) (e_var (Var.s (Var.s (Var.s (Var.s (Var.s (Var.z))))))))))))))))
theorem ok_law_refused (T : Txt K mg) (Lb : Lm T base) : FnOk P w K mg base (L2N.CX P w) 8 T.a_law_refused T.d_law_refused ["rows", "end", "demands", "name", "strange", "less", "width", "plain"] (spF (wdOf T) (kF : Kd (wdOf T) Bool) [.bo 0 (List (Int × Str)), .fz 1 Int, .bo 2 (DV Str Int), .fz 3 Str, .fz 4 Str, .fz 5 Int, .fz 6 Int, .fz 7 Bool] m_law_refused) :=
  fn_ok T.F_law_refused sc_law_refused rfl (fun cdv A outer s H E hr =>
    b_consT (c1 := [.ow 8 (Dct Str Int), .bo 0 (List (Int × Str)), .fz 1 Int, .fz 3 Str, .fz 4 Str, .fz 5 Int, .fz 6 Int, .fz 7 Bool]) (s_setO sc_law_refused.nd (e_t1 call_dictD m_dictDV (by rfl) T.n_dict bt_dict (e_varB (Var.s (Var.s (Var.z))))) (Sub.keep (Sub.keep (Sub.skip (Sub.keep (Sub.keep (Sub.keep (Sub.keep (Sub.keep (Sub.nil))))))))) (by exact ⟨(show 8 < 12 by decide), trivial⟩) rfl) (b_consT (c1 := [.ow 8 (Dct Str Int), .bo 0 (List (Int × Str)), .fz 1 Int, .fz 3 Str, .fz 4 Str, .fz 5 Int, .fz 6 Int, .fz 7 Bool]) (s_dput (by have h2 := room2 hr; exact h2) (Var.z) (e_op op_sub m_sub (e_op op_sub m_sub (e_int) (e_int)) (e_var (Var.s (Var.s (Var.s (Var.s (Var.s (Var.z)))))))) (e_var (Var.s (Var.s (Var.s (Var.z)))))) (b_consT (c1 := [.ow 8 (Dct Str Int), .bo 0 (List (Int × Str)), .fz 1 Int, .fz 6 Int, .fz 7 Bool]) (s_if (q_cmp op_gt m_gt (e_var (Var.s (Var.s (Var.s (Var.s (Var.s (Var.z))))))) (e_int)) (b_cons (c1 := [.ow 8 (Dct Str Int), .bo 0 (List (Int × Str)), .fz 1 Int, .fz 3 Str, .fz 4 Str, .fz 5 Int, .fz 6 Int, .fz 7 Bool]) (s_dput (by have h2 := room2 hr; exact h2) (Var.z) (e_op op_sub m_sub (e_int) (e_var (Var.s (Var.s (Var.s (Var.s (Var.s (Var.z)))))))) (e_var (Var.s (Var.s (Var.s (Var.s (Var.z))))))) (b_nil (Sub.keep (Sub.keep (Sub.keep (Sub.skip (Sub.skip (Sub.skip (Sub.keep (Sub.keep (Sub.nil))))))))))) (b_nil (Sub.keep (Sub.keep (Sub.keep (Sub.skip (Sub.skip (Sub.skip (Sub.keep (Sub.keep (Sub.nil))))))))))) (b_consT (c1 := [.fz 9 Str, .ow 8 (Dct Str Int), .bo 0 (List (Int × Str)), .fz 1 Int, .fz 6 Int, .fz 7 Bool]) (s_set sc_law_refused.nd (e_ix ix_list m_ixL (e_ob (e_b1 cr_sortedS m_sortedS (by rfl) T.n_sorted bt_sorted (e_ob (e_lock (m := m_law_refused_k3) un_O (Sub.keep (Sub.skip (Sub.skip (Sub.skip (Sub.skip (Sub.nil)))))) (Lk.ow (LkT.nil)) (e_lc (own := [("one", 11)]) (c2 := [.fz 11 Str, .bo 8 (LV Str Int)]) (mt := m_law_refused_t1) (me := m_law_refused_e2) rfl sc_law_refused.nd (i_keysV (Var.z)) (blkOk_by (N := ["rows", "end", "demands", "name", "strange", "less", "width", "plain", "bad", "least", "handed", "one"]) (sc := defScope s_law_refused) (by decide +kernel)) (Sub.keep (Sub.nil)) rfl (gc_name (by exact ⟨(show 11 < 12 by decide), trivial⟩) rfl) (fun _ _ _ _ _ => pg_name (i := 11) sc_law_refused.nd rfl (by first | exact .inl rfl | exact .inr rfl)) (fun _ _ _ _ _ => pts_one (q_cmp op_lt m_lt (e_dget (by have h2 := room2 hr; exact h2) (e_lvdv (e_varB (Var.s (Var.z)))) (e_var (Var.z))) (e_int))) (fun _ _ _ _ _ => e_var (Var.z))))))) (e_int)) (Sub.keep (Sub.keep (Sub.keep (Sub.keep (Sub.keep (Sub.nil)))))) (by exact ⟨(show 9 < 12 by decide), trivial⟩) rfl) (b_consT (c1 := [.ow 10 (Dct Str Int), .fz 9 Str, .ow 8 (Dct Str Int), .bo 0 (List (Int × Str)), .fz 1 Int, .fz 6 Int, .fz 7 Bool]) (s_setO sc_law_refused.nd (e_t1 call_dictD m_dictDV (by rfl) T.n_dict bt_dict (e_dv (e_varW (Var.s (Var.z))))) (Sub.keep (Sub.keep (Sub.keep (Sub.keep (Sub.keep (Sub.keep (Sub.nil))))))) (by exact ⟨(show 10 < 12 by decide), trivial⟩) rfl) (t_ret (e_and (e_cmp (op_eqD (by have hu := hr.units; exact hu)) m_eqP (e_call (Γ := [.bo 0 Sheaf, .fz 1 Int, .bo 2 (DV Str Int), .fz 3 Int, .fz 4 Bool]) (L2N.takes_of rfl rfl rfl rfl) (ok_law_asked T Lb) (hr.mono (by decide)) T.g_law_asked T.F_law_asked.kp T.b_law_asked (a_consB (e_ob (e_make (C := "Sheaf") (Γ := [.bo 1 (List (Int × Str))]) (cm_Sheaf T) T.mk_Sheaf (L2N.takes_of rfl rfl rfl rfl) (ok_Sheaf_init T Lb) (hr.mono (by decide)) T.g_Sheaf T.b_Sheaf_init (a_consB (e_ob (e_t1 call_list_of m_list (by rfl) T.n_list bt_list (e_varB (Var.s (Var.s (Var.s (Var.z))))))) (a_nil)))) (a_cons (e_var (Var.s (Var.s (Var.s (Var.s (Var.z)))))) (a_consB (e_dv (e_varW (Var.z))) (a_cons (e_var (Var.s (Var.s (Var.s (Var.s (Var.s (Var.z))))))) (a_cons (e_var (Var.s (Var.s (Var.s (Var.s (Var.s (Var.s (Var.z)))))))) (a_nil))))))) (e_pair (e_str) (e_var (Var.s (Var.z))))) (e_one (e_cmp (op_eqDR (by have hu := hr.units; exact hu)) m_eqDR (e_dv (e_varW (Var.z))) (e_dv (e_varW (Var.s (Var.s (Var.z))))))))))))))
theorem ok_law (T : Txt K mg) (Lb : Lm T base) : FnOk P w K mg base (L2N.CX P w) 9 T.a_law T.d_law ["script"] (spF (wdOf T) (kF : Kd (wdOf T) Bool) [.fz 0 Script] m_law) :=
  fn_ok T.F_law sc_law rfl (fun cdv A outer s H E hr =>
    b_consT (c1 := [.fz 1 ((List (Int × Str)) × (List Str)), .fz 0 Script]) (s_set sc_law.nd (e_call (Γ := [.fz 0 Script, .fz 1 Int, .fz 2 Int, .fz 3 Int, .fz 4 Int, .fz 5 Int, .fz 6 Int, .fz 7 Int]) (L2N.takes_of rfl rfl rfl rfl) (ok_law_sheets T Lb) (hr.mono (by decide)) T.g_law_sheets T.F_law_sheets.kp T.b_law_sheets (a_cons (e_var (Var.z)) (a_cons (e_int) (a_cons (e_int) (a_cons (e_int) (a_cons (e_int) (a_cons (e_int) (a_cons (e_int) (a_cons (e_int) (a_nil)))))))))) (Sub.keep (Sub.nil)) (by exact ⟨(show 1 < 21 by decide), trivial⟩) rfl) (b_consT (c1 := [.fz 2 (List (Int × Str)), .fz 1 ((List (Int × Str)) × (List Str)), .fz 0 Script]) (s_set sc_law.nd (e_fst rfl (e_var (Var.z))) (Sub.keep (Sub.keep (Sub.nil))) (by exact ⟨(show 2 < 21 by decide), trivial⟩) rfl) (b_consT (c1 := [.fz 3 Int, .fz 2 (List (Int × Str)), .fz 1 ((List (Int × Str)) × (List Str)), .fz 0 Script]) (s_set sc_law.nd (e_b1 call_len_seq m_lenL (by rfl) T.n_len bt_len (e_fb (e_var (Var.z)))) (Sub.keep (Sub.keep (Sub.keep (Sub.nil)))) (by exact ⟨(show 3 < 21 by decide), trivial⟩) rfl) (b_consT (c1 := [.fz 4 Str, .fz 3 Int, .fz 2 (List (Int × Str)), .fz 0 Script]) (s_set sc_law.nd (e_ix ix_list m_ixL (e_fb (e_snd rfl (e_var (Var.s (Var.s (Var.z)))))) (e_var (Var.z))) (Sub.keep (Sub.keep (Sub.skip (Sub.keep (Sub.nil))))) (by exact ⟨(show 4 < 21 by decide), trivial⟩) rfl) (b_consT (c1 := [.ow 5 (List Int), .fz 4 Str, .fz 2 (List (Int × Str)), .fz 0 Script]) (s_setO sc_law.nd (e_call (Γ := [.fz 0 Int, .bo 1 (List Int)]) (L2N.takes_of rfl rfl rfl rfl) (ok_law_draws T Lb) (hr.mono (by decide)) T.g_law_draws T.F_law_draws.kp T.b_law_draws (a_cons (e_call (Γ := [.fz 0 Script, .fz 1 Int]) (L2N.takes_of rfl rfl rfl rfl) (ok_law_given T Lb) (hr.mono (by decide)) T.g_law_given T.F_law_given.kp T.b_law_given (a_cons (e_var (Var.s (Var.s (Var.s (Var.z))))) (a_cons (e_int) (a_nil)))) (a_consB (e_ob (e_lst (l_cons (e_int) (l_cons (e_int) (l_cons (e_int) (l_cons (e_int) (l_cons (e_var (Var.s (Var.z))) (l_cons (e_int) (l_cons (e_int) (l_cons (e_int) (l_cons (e_int) (l_nil (α := Int))))))))))))) (a_nil)))) (Sub.keep (Sub.skip (Sub.keep (Sub.keep (Sub.nil))))) (by exact ⟨(show 5 < 21 by decide), trivial⟩) rfl) (b_consT (c1 := [.fz 6 Bool, .ow 5 (List Int), .fz 4 Str, .fz 2 (List (Int × Str)), .fz 0 Script]) (s_set sc_law.nd (e_cmp op_eq m_eqI (e_ix ix_list m_ixL (e_varW (Var.z)) (e_int)) (e_int)) (Sub.keep (Sub.keep (Sub.keep (Sub.keep (Sub.nil))))) (by exact ⟨(show 6 < 21 by decide), trivial⟩) rfl) (b_consT (c1 := [.fz 7 Int, .fz 6 Bool, .ow 5 (List Int), .fz 4 Str, .fz 2 (List (Int × Str)), .fz 0 Script]) (s_set sc_law.nd (e_call (Γ := [.bo 0 (List Int)]) (L2N.takes_of rfl rfl rfl rfl) (ok_law_width T Lb) (hr.mono (by decide)) T.g_law_width T.F_law_width.kp T.b_law_width (a_consB (e_varW (Var.s (Var.z))) (a_nil))) (Sub.keep (Sub.keep (Sub.keep (Sub.keep (Sub.keep (Sub.nil)))))) (by exact ⟨(show 7 < 21 by decide), trivial⟩) rfl) (b_consT (c1 := [.ow 8 (List (Int × (Tup Int))), .fz 7 Int, .fz 6 Bool, .ow 5 (List Int), .fz 4 Str, .fz 2 (List (Int × Str)), .fz 0 Script]) (s_setO sc_law.nd (e_call (Γ := [.fz 0 (List (Int × Str)), .bo 1 (List Int), .fz 2 Int, .fz 3 Int]) (L2N.takes_of rfl rfl rfl rfl) (ok_law_wild_log T Lb) (hr.mono (by decide)) T.g_law_wild_log T.F_law_wild_log.kp T.b_law_wild_log (a_cons (e_var (Var.s (Var.s (Var.s (Var.s (Var.z)))))) (a_consB (e_ob (e_lc (own := [("k", 18)]) (c2 := [.fz 18 Int, .fz 0 Script]) (mt := fun _ => Rs.ok true) (me := m_law_e1) rfl sc_law.nd (i_rng1 (fr := .g) (by rfl) T.n_range (e_ix ix_list m_ixL (e_varW (Var.s (Var.s (Var.z)))) (e_int))) (blkOk_by (N := ["script", "built", "rows", "count", "strange", "drawn", "plain", "width", "log", "left", "states", "end", "shares", "middle", "state", "more", "name", "above", "k", "lessened", "row"]) (sc := defScope s_law) (by decide +kernel)) (Sub.skip (Sub.skip (Sub.skip (Sub.skip (Sub.skip (Sub.keep (Sub.nil))))))) rfl (gc_name (by exact ⟨(show 18 < 21 by decide), trivial⟩) rfl) (fun _ _ _ _ _ => pg_name (i := 18) sc_law.nd rfl (by first | exact .inl rfl | exact .inr rfl)) (fun _ _ _ _ _ => pts_yes) (fun _ _ _ _ _ => e_call (Γ := [.fz 0 Script, .fz 1 Int]) takes_cut (ok_law_given T Lb) (hr.mono (by decide)) T.g_law_given T.F_law_given.kp T.b_law_given (a_cons (e_var (Var.s (Var.z))) (a_cons (e_op op_add m_add (e_int) (e_var (Var.z))) (a_nil)))))) (a_cons (e_var (Var.z)) (a_cons (e_int) (a_nil)))))) (Sub.keep (Sub.keep (Sub.keep (Sub.keep (Sub.keep (Sub.keep (Sub.nil))))))) (by exact ⟨(show 8 < 21 by decide), trivial⟩) rfl) (b_consT (c1 := [.fz 9 (List (Int × Str)), .ow 8 (List (Int × (Tup Int))), .fz 7 Int, .fz 6 Bool, .ow 5 (List Int), .fz 4 Str, .fz 2 (List (Int × Str)), .fz 0 Script]) (s_set sc_law.nd (e_ix ix_list m_ixL (e_ob (e_call (Γ := [.fz 0 (List (Int × Str)), .bo 1 (List (Int × (Tup Int)))]) (L2N.takes_of rfl rfl rfl rfl) (ok_law_walk T Lb) (hr.mono (by decide)) T.g_law_walk T.F_law_walk.kp T.b_law_walk (a_cons (e_var (Var.s (Var.s (Var.s (Var.s (Var.s (Var.z))))))) (a_consB (e_varW (Var.z)) (a_nil))))) (e_b1 call_len_seq m_lenL (by rfl) T.n_len bt_len (e_varW (Var.z)))) (Sub.keep (Sub.keep (Sub.keep (Sub.keep (Sub.keep (Sub.keep (Sub.keep (Sub.nil)))))))) (by exact ⟨(show 9 < 21 by decide), trivial⟩) rfl) (b_consT (c1 := [.fz 9 (List (Int × Str)), .ow 8 (List (Int × (Tup Int))), .fz 7 Int, .fz 6 Bool, .ow 5 (List Int), .fz 4 Str, .fz 2 (List (Int × Str)), .fz 0 Script]) (s_updO sc_law.nd (e_call (Γ := [.fz 0 (List (Int × Str)), .bo 1 (List (Int × (Tup Int))), .fz 2 Int]) (L2N.takes_of rfl rfl rfl rfl) (ok_law_finished T Lb) (hr.mono (by decide)) T.g_law_finished T.F_law_finished.kp T.b_law_finished (a_cons (e_var (Var.z)) (a_consB (e_varW (Var.s (Var.z))) (a_cons (e_ix ix_list m_ixL (e_varW (Var.s (Var.s (Var.s (Var.s (Var.z)))))) (e_int)) (a_nil))))) (Var.s (Var.z)) (by exact ⟨(show 8 < 21 by decide), trivial⟩)) (b_consT (c1 := [.ow 10 (List (List (Int × Str))), .ow 8 (List (Int × (Tup Int))), .fz 7 Int, .fz 6 Bool, .ow 5 (List Int), .fz 4 Str, .fz 2 (List (Int × Str)), .fz 0 Script]) (s_setO sc_law.nd (e_call (Γ := [.fz 0 (List (Int × Str)), .bo 1 (List (Int × (Tup Int)))]) (L2N.takes_of rfl rfl rfl rfl) (ok_law_walk T Lb) (hr.mono (by decide)) T.g_law_walk T.F_law_walk.kp T.b_law_walk (a_cons (e_var (Var.s (Var.s (Var.s (Var.s (Var.s (Var.s (Var.z)))))))) (a_consB (e_varW (Var.s (Var.z))) (a_nil)))) (Sub.skip (Sub.keep (Sub.keep (Sub.keep (Sub.keep (Sub.keep (Sub.keep (Sub.keep (Sub.nil))))))))) (by exact ⟨(show 10 < 21 by decide), trivial⟩) rfl) (b_consT (c1 := [.fz 11 Int, .ow 10 (List (List (Int × Str))), .ow 8 (List (Int × (Tup Int))), .fz 7 Int, .fz 6 Bool, .ow 5 (List Int), .fz 4 Str, .fz 2 (List (Int × Str)), .fz 0 Script]) (s_set sc_law.nd (e_fst rfl (e_ix ix_list m_ixL (e_fb (e_ix ix_list m_ixL (e_varW (Var.z)) (e_b1 call_len_seq m_lenL (by rfl) T.n_len bt_len (e_varW (Var.s (Var.z)))))) (e_int))) (Sub.keep (Sub.keep (Sub.keep (Sub.keep (Sub.keep (Sub.keep (Sub.keep (Sub.keep (Sub.nil))))))))) (by exact ⟨(show 11 < 21 by decide), trivial⟩) rfl) (b_consT (c1 := [.ow 12 (Dct Str Int), .fz 11 Int, .ow 10 (List (List (Int × Str))), .ow 8 (List (Int × (Tup Int))), .fz 7 Int, .fz 6 Bool, .ow 5 (List Int), .fz 4 Str, .fz 2 (List (Int × Str)), .fz 0 Script]) (s_setO sc_law.nd (e_call (Γ := [.bo 0 (List (Int × Str))]) (L2N.takes_of rfl rfl rfl rfl) (ok_law_shares T Lb) (hr.mono (by decide)) T.g_law_shares T.F_law_shares.kp T.b_law_shares (a_consB (e_fb (e_ix ix_list m_ixL (e_varW (Var.s (Var.z))) (e_b1 call_len_seq m_lenL (by rfl) T.n_len bt_len (e_varW (Var.s (Var.s (Var.z))))))) (a_nil))) (Sub.keep (Sub.keep (Sub.keep (Sub.keep (Sub.keep (Sub.keep (Sub.keep (Sub.keep (Sub.keep (Sub.nil)))))))))) (by exact ⟨(show 12 < 21 by decide), trivial⟩) rfl) (b_consT (c1 := [.fz 13 (List (Int × Str)), .ow 12 (Dct Str Int), .fz 11 Int, .ow 10 (List (List (Int × Str))), .ow 8 (List (Int × (Tup Int))), .fz 7 Int, .fz 6 Bool, .ow 5 (List Int), .fz 4 Str, .fz 2 (List (Int × Str)), .fz 0 Script]) (s_set sc_law.nd (e_ix ix_list m_ixL (e_varW (Var.s (Var.s (Var.z)))) (e_op op_mod m_mod (e_t1 call_int1 m_int (by rfl) T.n_int bt_int (e_ix ix_list m_ixL (e_varW (Var.s (Var.s (Var.s (Var.s (Var.s (Var.s (Var.z)))))))) (e_int))) (e_b1 call_len_seq m_lenL (by rfl) T.n_len bt_len (e_varW (Var.s (Var.s (Var.z))))))) (Sub.keep (Sub.keep (Sub.keep (Sub.keep (Sub.keep (Sub.keep (Sub.keep (Sub.keep (Sub.keep (Sub.keep (Sub.nil))))))))))) (by exact ⟨(show 13 < 21 by decide), trivial⟩) rfl) (b_goT (c1 := [.fz 13 (List (Int × Str)), .ow 12 (Dct Str Int), .fz 11 Int, .ow 10 (List (List (Int × Str))), .ow 8 (List (Int × (Tup Int))), .fz 7 Int, .fz 6 Bool, .ow 5 (List Int), .fz 4 Str, .fz 2 (List (Int × Str)), .fz 0 Script]) (m2 := m_law_b6) (s_forG (mb := m_law_l4) (passes_of rfl) rfl (by first | exact .inl rfl | exact .inr rfl) (i_list rfl (e_of (e_lst (l_cons (e_var (Var.s (Var.s (Var.s (Var.s (Var.s (Var.s (Var.s (Var.s (Var.s (Var.z))))))))))) (l_cons (e_var (Var.z)) (l_cons (e_ix ix_list m_ixL (e_varW (Var.s (Var.s (Var.s (Var.z))))) (e_b1 call_len_seq m_lenL (by rfl) T.n_len bt_len (e_varW (Var.s (Var.s (Var.s (Var.s (Var.z)))))))) (l_nil (α := (List (Int × Str)))))))))) (pg_name (i := 14) sc_law.nd rfl (by first | exact .inl rfl | exact .inr rfl)) (g_name (by exact ⟨(show 14 < 21 by decide), trivial⟩) rfl) (b_goG (c1 := [.fz 14 (List (Int × Str)), .fz 13 (List (Int × Str)), .ow 12 (Dct Str Int), .fz 11 Int, .ow 10 (List (List (Int × Str))), .ow 8 (List (Int × (Tup Int))), .fz 7 Int, .fz 6 Bool, .ow 5 (List Int), .fz 4 Str, .fz 2 (List (Int × Str)), .fz 0 Script]) (m2 := m_law_b3) (s_forG (mb := m_law_l2) (passes_of rfl) rfl (by first | exact .inl rfl | exact .inr rfl) (i_rng1 (fr := .g) (by rfl) T.n_range (e_int)) (pg_name (i := 18) sc_law.nd rfl (by first | exact .inl rfl | exact .inr rfl)) (g_name (by exact ⟨(show 18 < 21 by decide), trivial⟩) rfl) (b_consG (c1 := [.ow 19 (Dct Str Int), .fz 14 (List (Int × Str)), .fz 13 (List (Int × Str)), .ow 12 (Dct Str Int), .fz 11 Int, .ow 10 (List (List (Int × Str))), .ow 8 (List (Int × (Tup Int))), .fz 7 Int, .fz 6 Bool, .ow 5 (List Int), .fz 4 Str, .fz 2 (List (Int × Str)), .fz 0 Script]) (s_setO sc_law.nd (e_call (Γ := [.bo 0 (DV Str Int), .fz 1 Int]) (L2N.takes_of rfl rfl rfl rfl) (ok_law_lessened T Lb) (hr.mono (by decide)) T.g_law_lessened T.F_law_lessened.kp T.b_law_lessened (a_consB (e_dv (e_varW (Var.s (Var.s (Var.s (Var.z)))))) (a_cons (e_call (Γ := [.fz 0 Script, .fz 1 Int]) (L2N.takes_of rfl rfl rfl rfl) (ok_law_given T Lb) (hr.mono (by decide)) T.g_law_given T.F_law_given.kp T.b_law_given (a_cons (e_var (Var.s (Var.s (Var.s (Var.s (Var.s (Var.s (Var.s (Var.s (Var.s (Var.s (Var.s (Var.s (Var.z)))))))))))))) (a_cons (e_op op_add m_add (e_int) (e_var (Var.z))) (a_nil)))) (a_nil)))) (Sub.skip (Sub.keep (Sub.keep (Sub.keep (Sub.keep (Sub.keep (Sub.keep (Sub.keep (Sub.keep (Sub.keep (Sub.keep (Sub.keep (Sub.keep (Sub.nil)))))))))))))) (by exact ⟨(show 19 < 21 by decide), trivial⟩) rfl) (b_ifG (q_not (q_val (e_call (Γ := [.bo 0 (List (Int × Str)), .fz 1 Int, .bo 2 (DV Str Int), .fz 3 Int, .fz 4 Bool, .fz 5 Bool]) (L2N.takes_of rfl rfl rfl rfl) (ok_law_met T Lb) (hr.mono (by decide)) T.g_law_met T.F_law_met.kp T.b_law_met (a_consB (e_fb (e_var (Var.s (Var.z)))) (a_cons (e_var (Var.s (Var.s (Var.s (Var.s (Var.z)))))) (a_consB (e_dv (e_varW (Var.z))) (a_cons (e_var (Var.s (Var.s (Var.s (Var.s (Var.s (Var.s (Var.s (Var.z))))))))) (a_cons (e_var (Var.s (Var.s (Var.s (Var.s (Var.s (Var.s (Var.s (Var.s (Var.z)))))))))) (a_cons (e_bl) (a_nil)))))))))) (t_ret (e_bl)) (b_nilG (Sub.skip (Sub.keep (Sub.keep (Sub.keep (Sub.keep (Sub.keep (Sub.keep (Sub.keep (Sub.keep (Sub.keep (Sub.keep (Sub.keep (Sub.keep (Sub.nil)))))))))))))))))) (b_ifG (q_not (q_val (e_call (Γ := [.bo 0 (List (Int × Str)), .fz 1 Int, .bo 2 (DV Str Int), .fz 3 Int, .fz 4 Bool, .fz 5 Bool]) (L2N.takes_of rfl rfl rfl rfl) (ok_law_met T Lb) (hr.mono (by decide)) T.g_law_met T.F_law_met.kp T.b_law_met (a_consB (e_fb (e_var (Var.z))) (a_cons (e_var (Var.s (Var.s (Var.s (Var.z))))) (a_consB (e_dv (e_varW (Var.s (Var.s (Var.z))))) (a_cons (e_var (Var.s (Var.s (Var.s (Var.s (Var.s (Var.s (Var.z)))))))) (a_cons (e_var (Var.s (Var.s (Var.s (Var.s (Var.s (Var.s (Var.s (Var.z))))))))) (a_cons (e_bl) (a_nil)))))))))) (t_ret (e_bl)) (b_ifG (PW.pt (q_and (q_cmp op_lt m_lt (e_var (Var.s (Var.s (Var.s (Var.s (Var.s (Var.s (Var.z)))))))) (e_int)) (q_and1 (q_not (q_val (e_call (Γ := [.bo 0 (List (Int × Str)), .fz 1 Int, .bo 2 (DV Str Int), .fz 3 Int, .fz 4 Bool, .fz 5 Bool]) (L2N.takes_of rfl rfl rfl rfl) (ok_law_met T Lb) (hr.mono (by decide)) T.g_law_met T.F_law_met.kp T.b_law_met (a_consB (e_fb (e_var (Var.z))) (a_cons (e_var (Var.s (Var.s (Var.s (Var.z))))) (a_consB (e_dv (e_varW (Var.s (Var.s (Var.z))))) (a_cons (e_op op_add m_add (e_var (Var.s (Var.s (Var.s (Var.s (Var.s (Var.s (Var.z)))))))) (e_int)) (a_cons (e_bl) (a_cons (e_bl) (a_nil))))))))))))) (t_ret (e_bl)) (b_nilG (Sub.skip (Sub.keep (Sub.keep (Sub.keep (Sub.keep (Sub.keep (Sub.keep (Sub.keep (Sub.keep (Sub.keep (Sub.keep (Sub.keep (Sub.nil)))))))))))))))))) (b_consT (c1 := [.ow 15 (Dct Str Int), .ow 12 (Dct Str Int), .fz 11 Int, .fz 7 Int, .fz 6 Bool, .ow 5 (List Int), .fz 4 Str, .fz 2 (List (Int × Str))]) (s_setO sc_law.nd (e_t1 call_dictD m_dictDV (by rfl) T.n_dict bt_dict (e_dv (e_varW (Var.s (Var.z))))) (Sub.skip (Sub.keep (Sub.keep (Sub.skip (Sub.skip (Sub.keep (Sub.keep (Sub.keep (Sub.keep (Sub.keep (Sub.skip (Sub.nil)))))))))))) (by exact ⟨(show 15 < 21 by decide), trivial⟩) rfl) (b_consT (c1 := [.ow 15 (Dct Str Int), .ow 12 (Dct Str Int), .fz 11 Int, .fz 7 Int, .fz 6 Bool, .ow 5 (List Int), .fz 4 Str, .fz 2 (List (Int × Str))]) (s_dput (by have h2 := room2 hr; exact h2) (Var.z) (e_int) (e_var (Var.s (Var.s (Var.s (Var.s (Var.s (Var.s (Var.z))))))))) (b_ifT (PW.pt (q_or (q_not (q_val (e_call (Γ := [.bo 0 (List (Int × Str)), .fz 1 Int, .bo 2 (DV Str Int), .fz 3 Int, .fz 4 Bool, .fz 5 Bool]) (L2N.takes_of rfl rfl rfl rfl) (ok_law_met T Lb) (hr.mono (by decide)) T.g_law_met T.F_law_met.kp T.b_law_met (a_consB (e_fb (e_var (Var.s (Var.s (Var.s (Var.s (Var.s (Var.s (Var.s (Var.z)))))))))) (a_cons (e_var (Var.s (Var.s (Var.z)))) (a_consB (e_dv (e_varW (Var.z))) (a_cons (e_var (Var.s (Var.s (Var.s (Var.z))))) (a_cons (e_var (Var.s (Var.s (Var.s (Var.s (Var.z)))))) (a_cons (e_bl) (a_nil)))))))))) (q_or1 (q_not (q_val (e_call (Γ := [.bo 0 (List (Int × Str)), .fz 1 Int, .bo 2 (DV Str Int), .fz 3 Int, .fz 4 Bool, .fz 5 Bool]) (L2N.takes_of rfl rfl rfl rfl) (ok_law_met T Lb) (hr.mono (by decide)) T.g_law_met T.F_law_met.kp T.b_law_met (a_consB (e_fb (e_var (Var.s (Var.s (Var.s (Var.s (Var.s (Var.s (Var.s (Var.z)))))))))) (a_cons (e_var (Var.s (Var.s (Var.z)))) (a_consB (e_dv (e_ob (e_dnew (κ := Str) (α := Int)))) (a_cons (e_var (Var.s (Var.s (Var.s (Var.z))))) (a_cons (e_var (Var.s (Var.s (Var.s (Var.s (Var.z)))))) (a_cons (e_bl) (a_nil))))))))))))) (t_ret (e_bl)) (b_consT (c1 := [.fz 16 Str, .ow 15 (Dct Str Int), .ow 12 (Dct Str Int), .fz 11 Int, .fz 7 Int, .fz 6 Bool, .ow 5 (List Int), .fz 4 Str, .fz 2 (List (Int × Str))]) (s_set sc_law.nd (e_snd rfl (e_ix ix_list m_ixL (e_fb (e_var (Var.s (Var.s (Var.s (Var.s (Var.s (Var.s (Var.s (Var.z)))))))))) (e_ix ix_list m_ixL (e_varW (Var.s (Var.s (Var.s (Var.s (Var.s (Var.z))))))) (e_int)))) (Sub.keep (Sub.keep (Sub.keep (Sub.keep (Sub.keep (Sub.keep (Sub.keep (Sub.keep (Sub.nil))))))))) (by exact ⟨(show 16 < 21 by decide), trivial⟩) rfl) (b_consT (c1 := [.fz 16 Str, .ow 15 (Dct Str Int), .ow 12 (Dct Str Int), .fz 11 Int, .fz 7 Int, .fz 6 Bool, .ow 5 (List Int), .fz 4 Str, .fz 2 (List (Int × Str))]) (s_dput (by have h2 := room2 hr; exact h2) (Var.s (Var.z)) (e_op op_add m_add (e_dget2 (by have h2 := room2 hr; exact h2) (e_dv (e_varW (Var.s (Var.z)))) (e_var (Var.z)) (e_int)) (e_int)) (e_var (Var.z))) (b_ifT (q_not (q_val (e_call (Γ := [.bo 0 (List (Int × Str)), .fz 1 Int, .bo 2 (DV Str Int), .fz 3 Int, .fz 4 Bool, .fz 5 Bool]) (L2N.takes_of rfl rfl rfl rfl) (ok_law_met T Lb) (hr.mono (by decide)) T.g_law_met T.F_law_met.kp T.b_law_met (a_consB (e_fb (e_var (Var.s (Var.s (Var.s (Var.s (Var.s (Var.s (Var.s (Var.s (Var.z))))))))))) (a_cons (e_var (Var.s (Var.s (Var.s (Var.z))))) (a_consB (e_dv (e_varW (Var.s (Var.z)))) (a_cons (e_var (Var.s (Var.s (Var.s (Var.s (Var.z)))))) (a_cons (e_var (Var.s (Var.s (Var.s (Var.s (Var.s (Var.z))))))) (a_cons (e_bl) (a_nil)))))))))) (t_ret (e_bl)) (b_ifT (q_not (q_val (e_call (Γ := [.bo 0 (List (Int × Str)), .fz 1 Int, .bo 2 (DV Str Int), .fz 3 Int, .fz 4 Bool, .fz 5 Bool]) (L2N.takes_of rfl rfl rfl rfl) (ok_law_met T Lb) (hr.mono (by decide)) T.g_law_met T.F_law_met.kp T.b_law_met (a_consB (e_fb (e_var (Var.s (Var.s (Var.s (Var.s (Var.s (Var.s (Var.s (Var.s (Var.z))))))))))) (a_cons (e_var (Var.s (Var.s (Var.s (Var.z))))) (a_consB (e_dv (e_ob (e_disp1 (e_var (Var.s (Var.s (Var.s (Var.s (Var.s (Var.s (Var.s (Var.z))))))))) (e_int)))) (a_cons (e_var (Var.s (Var.s (Var.s (Var.s (Var.z)))))) (a_cons (e_var (Var.s (Var.s (Var.s (Var.s (Var.s (Var.z))))))) (a_cons (e_bl) (a_nil)))))))))) (t_ret (e_bl)) (b_consT (c1 := [.fz 17 Int, .fz 16 Str, .ow 12 (Dct Str Int), .fz 7 Int, .fz 6 Bool, .ow 5 (List Int), .fz 4 Str, .fz 2 (List (Int × Str))]) (s_set sc_law.nd (e_op op_add m_add (e_op op_add m_add (e_b1 (cr_max rfl) m_max (by rfl) T.n_max bt_max (e_ob (e_lc (own := [("row", 20)]) (c2 := [.fz 20 (Int × Str)]) (mt := fun _ => Rs.ok true) (me := m_law_e5) rfl sc_law.nd (i_listB rfl (e_fb (e_var (Var.s (Var.s (Var.s (Var.s (Var.s (Var.s (Var.s (Var.s (Var.z)))))))))))) (blkOk_by (N := ["script", "built", "rows", "count", "strange", "drawn", "plain", "width", "log", "left", "states", "end", "shares", "middle", "state", "more", "name", "above", "k", "lessened", "row"]) (sc := defScope s_law) (by decide +kernel)) (Sub.skip (Sub.skip (Sub.skip (Sub.skip (Sub.skip (Sub.skip (Sub.skip (Sub.skip (Sub.skip (Sub.nil)))))))))) rfl (gc_name (by exact ⟨(show 20 < 21 by decide), trivial⟩) rfl) (fun _ _ _ _ _ => pg_name (i := 20) sc_law.nd rfl (by first | exact .inl rfl | exact .inr rfl)) (fun _ _ _ _ _ => pts_yes) (fun _ _ _ _ _ => e_fst rfl (e_var (Var.z)))))) (e_int)) (e_ix ix_list m_ixL (e_varW (Var.s (Var.s (Var.s (Var.s (Var.s (Var.s (Var.z)))))))) (e_int))) (Sub.keep (Sub.skip (Sub.keep (Sub.skip (Sub.keep (Sub.keep (Sub.keep (Sub.keep (Sub.keep (Sub.nil)))))))))) (by exact ⟨(show 17 < 21 by decide), trivial⟩) rfl) (b_ifT (q_not (q_val (e_call (Γ := [.bo 0 (List (Int × Str)), .fz 1 Int, .bo 2 (DV Str Int), .fz 3 Int, .fz 4 Bool, .fz 5 Bool]) (L2N.takes_of rfl rfl rfl rfl) (ok_law_met T Lb) (hr.mono (by decide)) T.g_law_met T.F_law_met.kp T.b_law_met (a_consB (e_fb (e_var (Var.s (Var.s (Var.s (Var.s (Var.s (Var.s (Var.s (Var.z)))))))))) (a_cons (e_var (Var.z)) (a_consB (e_dv (e_ob (e_dnew (κ := Str) (α := Int)))) (a_cons (e_var (Var.s (Var.s (Var.s (Var.z))))) (a_cons (e_var (Var.s (Var.s (Var.s (Var.s (Var.z)))))) (a_cons (e_bl) (a_nil)))))))))) (t_ret (e_bl)) (b_ifT (q_cmp op_gt m_gt (e_ix ix_list m_ixL (e_varW (Var.s (Var.s (Var.s (Var.s (Var.s (Var.z))))))) (e_int)) (e_int)) (t_ret (e_bl)) (t_ret (e_call (Γ := [.bo 0 (List (Int × Str)), .fz 1 Int, .bo 2 (DV Str Int), .fz 3 Str, .fz 4 Str, .fz 5 Int, .fz 6 Int, .fz 7 Bool]) (L2N.takes_of rfl rfl rfl rfl) (ok_law_refused T Lb) (hr.mono (by decide)) T.g_law_refused T.F_law_refused.kp T.b_law_refused (a_consB (e_fb (e_var (Var.s (Var.s (Var.s (Var.s (Var.s (Var.s (Var.s (Var.z)))))))))) (a_cons (e_var (Var.z)) (a_consB (e_dv (e_varW (Var.s (Var.s (Var.z))))) (a_cons (e_var (Var.s (Var.z))) (a_cons (e_var (Var.s (Var.s (Var.s (Var.s (Var.s (Var.s (Var.z)))))))) (a_cons (e_ix ix_list m_ixL (e_varW (Var.s (Var.s (Var.s (Var.s (Var.s (Var.z))))))) (e_int)) (a_cons (e_var (Var.s (Var.s (Var.s (Var.z))))) (a_cons (e_var (Var.s (Var.s (Var.s (Var.s (Var.z)))))) (a_nil))))))))))))))))))))))))))))))))))))
end
end Wk
set_option Elab.async false
set_option linter.all false
set_option maxRecDepth 100000
set_option maxHeartbeats 400000
namespace Wk
open PySem PySem.Spec PyProof.Rows L2 Wm
theorem cell_ok (ns : List Int) (k : Nat) : ∃ v : Int, m_law_cell (⟨ns⟩, (k : Int), ()) = .ok v := by
  unfold m_law_cell
  simp only [Rs.bo]
  by_cases h : (k : Int) < (ns.length : Int)
  · rw [if_pos (by simpa using h)]
    have h' : k < ns.length := by omega
    rw [getI_nat (List.getElem?_eq_getElem h')]
    exact ⟨_, rfl⟩
  · rw [if_neg (by simpa using h)]
    exact ⟨_, rfl⟩

/-- each draw stands under its size -/
structure Drawn (sizes ds : List Int) : Prop where
  len : ds.length = sizes.length
  at' : ∀ (i : Nat) (s : Int), sizes[i]? = some s → ∃ d : Int, ds[i]? = some d ∧ 0 ≤ d ∧ d < s
theorem draws_step (sizes : List Int) (hs : ∀ s ∈ sizes, 0 < s ∧ s < 1000000000) (hl : sizes.length ≤ 1000000) (cell : Int) (packed : Bool) (left : Int) (drawn : List Int) (i : Nat) (s : Int) (hi : sizes[i]? = some s) (hd : drawn.length = i) :
    ∃ left' d, m_law_draws_l1 ((i : Int), packed, left, drawn, cell, sizes, ()) = .ok (packed, left', drawn ++ [d], cell, sizes, ()) ∧ 0 ≤ d ∧ d < s := by
  obtain ⟨h0, h1⟩ := hs s (List.mem_of_getElem? hi)
  have hil : i < sizes.length := (List.getElem?_eq_some_iff.mp hi).1
  unfold m_law_draws_l1
  simp only [Rs.bo, getI_nat hi, if_pos h0, if_pos (CDiv_of h0 (show s < 1000000000 by omega)), appI_ok (show drawn.length < 16777216 by omega)]
  have ht : (if packed = true then Rs.ok (decide (0 < left)) else Rs.ok false) = Rs.ok (packed && decide (0 < left)) := by cases packed <;> rfl
  rw [ht]
  simp only [Rs.bo]
  split
  · exact ⟨_, _, rfl, Int.emod_nonneg _ (by omega), Int.emod_lt_of_pos _ h0⟩
  · rw [if_pos (CMul_l (by decide) (by decide))]
    simp only [Rs.bo]
    rw [if_pos (by decide)]
    simp only [Rs.bo]
    generalize hm1 : (cell + 7919 * (i : Int) + 13) % 2147483647 = m1
    have b1 := Int.emod_nonneg (cell + 7919 * (i : Int) + 13) (show (2147483647 : Int) ≠ 0 by decide)
    have b2 := Int.emod_lt_of_pos (cell + 7919 * (i : Int) + 13) (show (0 : Int) < 2147483647 by decide)
    rw [hm1] at b1 b2
    rw [if_pos (CMul_l (by omega) (by omega))]
    simp only [Rs.bo]
    rw [if_pos (by decide)]
    simp only [Rs.bo]
    generalize hm2 : (m1 * (m1 + 48271)) % 2147483629 = m2
    have c1 := Int.emod_nonneg (m1 * (m1 + 48271)) (show (2147483629 : Int) ≠ 0 by decide)
    have c2 := Int.emod_lt_of_pos (m1 * (m1 + 48271)) (show (0 : Int) < 2147483629 by decide)
    rw [hm2] at c1 c2
    rw [if_pos (CMul_l (by omega) (by omega))]
    simp only [Rs.bo]
    rw [if_pos (CMul_l (by decide) (by decide))]
    simp only [Rs.bo]
    rw [if_pos (by decide)]
    simp only [Rs.bo]
    rw [if_pos (CDiv_of (by decide) (by decide))]
    simp only [Rs.bo, getI_nat hi, if_pos h0, appI_ok (show drawn.length < 16777216 by omega)]
    exact ⟨_, _, rfl, Int.emod_nonneg _ (by omega), Int.emod_lt_of_pos _ h0⟩
theorem draws_w (cell : Int) (sizes : List Int) (hs : ∀ s ∈ sizes, 0 < s ∧ s < 1000000000) (hl : sizes.length ≤ 1000000) : ∃ ds, m_law_draws (cell, sizes, ()) = .ok ds ∧ Drawn sizes ds := by
  unfold m_law_draws
  simp only [Rs.bo]
  rw [if_pos (by decide)]
  simp only [Rs.bo]
  rw [Rng_nat (by omega)]
  simp only [Rs.bo]
  obtain ⟨g, e, packed, left, drawn, rfl, hd, hv⟩ := fold_inv (f := fun γ x => m_law_draws_l1 (x, γ)) (xs := rng 0 (sizes.length : Int)) (g := (decide ((10 : Int) ^ (Int.toNat 18) ≤ cell), cell, ([] : List Int), cell, sizes, ()))
    (fun i g => ∃ packed left drawn, g = (packed, left, drawn, cell, sizes, ()) ∧ drawn.length = i ∧ ∀ j s, j < i → sizes[j]? = some s → ∃ d, drawn[j]? = some d ∧ 0 ≤ d ∧ d < s)
    ⟨_, _, _, rfl, rfl, fun j s hj => absurd hj (Nat.not_lt_zero j)⟩ (by
      rintro i g a ha ⟨packed, left, drawn, rfl, hd, hv⟩
      obtain ⟨hi, rfl⟩ := rng_get ha
      have hi' : i < sizes.length := by omega
      obtain ⟨left', d, e, h0, h1⟩ := draws_step sizes hs hl cell packed left drawn i _ (List.getElem?_eq_getElem hi') hd
      refine ⟨_, by rw [show (0 : Int) + (i : Int) = (i : Int) by omega]; exact e, packed, left', drawn ++ [d], rfl, by simp [hd], fun j s hj hjs => ?_⟩
      by_cases hji : j < i
      · obtain ⟨d', k1, k2, k3⟩ := hv j s hji hjs
        exact ⟨d', by rw [List.getElem?_append_left (by omega)]; exact k1, k2, k3⟩
      · have : j = i := by omega
        subst this
        rw [List.getElem?_eq_getElem hi'] at hjs
        cases hjs
        exact ⟨d, by rw [List.getElem?_append_right (by omega), hd]; simp, h0, h1⟩)
  rw [e]
  refine ⟨drawn, rfl, by rw [hd, rng0_len], fun i s hi => hv i s ?_ hi⟩
  rw [rng0_len]
  exact (List.getElem?_eq_some_iff.mp hi).1
theorem Drawn.get {sizes ds : List Int} (h : Drawn sizes ds) {i : Nat} {s : Int} (hi : sizes[i]? = some s) : ∃ d : Int, getI ds (i : Int) = .ok d ∧ ds[i]? = some d ∧ 0 ≤ d ∧ d < s := by
  obtain ⟨d, e, h0, h1⟩ := h.at' i s hi
  exact ⟨d, getI_nat e, e, h0, h1⟩
theorem draws_ok (cell : Int) (sizes : List Int) (hs : ∀ s ∈ sizes, 0 < s ∧ s < 1000000) (hl : sizes.length ≤ 1000000) : ∃ ds, m_law_draws (cell, sizes, ()) = .ok ds ∧ Drawn sizes ds :=
  draws_w cell sizes (fun s h => ⟨(hs s h).1, by have := (hs s h).2; omega⟩) hl

theorem cell_ex (s : Script) (k : Int) (h : 0 ≤ k) : ∃ v, m_law_cell (s, k, ()) = .ok v := by
  obtain ⟨n, rfl⟩ := Int.eq_ofNat_of_zero_le h
  exact cell_ok s.ns n
theorem Drawn.g {sizes ds : List Int} (h : Drawn sizes ds) (k : Int) {s : Int} (h0 : 0 ≤ k) (hs : sizes[k.toNat]? = some s) : ∃ d, getI ds k = .ok d ∧ 0 ≤ d ∧ d < s := by
  obtain ⟨d, e, _, l, u⟩ := h.get hs
  exact ⟨d, by rw [← e, Int.toNat_of_nonneg h0], l, u⟩

theorem comp_some {α β : Type} {t : α → Rs Bool} {f : α → Rs β} (P : β → Prop) : ∀ {xs : List α}, (∀ x ∈ xs, ∃ b, t x = .ok b ∧ (b = true → ∃ y, f x = .ok y ∧ P y)) → ∃ ys, Rs.comp t f xs = .ok ys ∧ ys.length ≤ xs.length ∧ ∀ y ∈ ys, P y
  | [], _ => ⟨[], rfl, Nat.le_refl _, fun _ h => by cases h⟩
  | x :: xs, h => by
    obtain ⟨b, e1, hb⟩ := h x List.mem_cons_self
    obtain ⟨ys, e2, l, hy⟩ := comp_some P (xs := xs) fun z hz => h z (List.mem_cons_of_mem _ hz)
    unfold Rs.comp
    rw [e1]
    cases b with
    | false => exact ⟨ys, e2, Nat.le_succ_of_le l, hy⟩
    | true =>
      obtain ⟨y, e3, hp⟩ := hb rfl
      refine ⟨y :: ys, ?_, Nat.succ_le_succ l, fun z hz => ?_⟩
      · show (Rs.nox (f x)).bind (fun y => (Rs.comp t f xs).bind fun ys => .ok (y :: ys)) = _
        rw [e3, e2]
        rfl
      · rcases List.mem_cons.mp hz with e | e
        · rw [e]; exact hp
        · exact hy z e
/-- over range(n), the test and the term fine at each place -/
theorem comp_rng {n : Int} (h0 : 0 ≤ n) (hn : n ≤ 16777216) {t : Int → Rs Bool} {f : Int → Rs β} (P : β → Prop) (h : ∀ x, 0 ≤ x → x < n → ∃ b, t x = .ok b ∧ (b = true → ∃ y, f x = .ok y ∧ P y)) :
    ∃ ys, ((Rng 0 n).bind fun xs => if xs.length ≤ 16777216 then Rs.comp t f xs else Rs.no) = .ok ys ∧ (ys.length : Int) ≤ n ∧ ∀ y ∈ ys, P y := by
  rw [Rng_ok (by omega) (by omega) (by omega) (by omega)]
  simp only [Rs.bo]
  rw [if_pos (by rw [rng_len]; omega)]
  obtain ⟨ys, e, l, hy⟩ := comp_some P (xs := rng 0 n) (t := t) (f := f) fun x hx => by
    have := mem_rng.mp hx
    exact h x this.1 this.2
  rw [rng_len] at l
  exact ⟨ys, e, by omega, hy⟩

/-- the sizes that the names are drawn by -/
def nameSizes (n : Nat) : List Int := [2, 36, 35] ++ (List.replicate n [7, 36, 36, 36]).flatten
theorem nameSizes_at {n k j : Nat} (hk : k < n) (hj : j < 4) : (nameSizes n)[3 + 4 * k + j]? = ([7, 36, 36, 36] : List Int)[j]? := by
  unfold nameSizes
  rw [List.getElem?_append_right (by simp; omega), rep_get n _ (by simp; omega)]
  congr 1
  simp
  omega
def letter (i : Int) : Nat := LET.cps.toList.getD i.toNat 0
theorem letter_inj {i j : Int} (i0 : 0 ≤ i) (i1 : i < 36) (j0 : 0 ≤ j) (j1 : j < 36) (h : letter i = letter j) : i = j := by
  have key : ∀ a b : Fin 36, LET.cps.toList.getD a.val 0 = LET.cps.toList.getD b.val 0 → a = b := by decide +kernel
  have := key ⟨i.toNat, by omega⟩ ⟨j.toNat, by omega⟩ h
  have := congrArg Fin.val this
  simp only at this
  omega
theorem letter_get {k : Int} (h0 : 0 ≤ k) (h1 : k < 36) : getI (chars LET) k = .ok ⟨#[letter k]⟩ ∧ Sg ⟨#[letter k]⟩ := by
  obtain ⟨i, rfl⟩ := Int.eq_ofNat_of_zero_le h0
  have hl : LET.cps.toList.length = 36 := by decide +kernel
  have hi : LET.cps.toList[i]? = some (letter (i : Int)) := by
    unfold letter
    rw [Int.toNat_natCast, List.getD_eq_getElem?_getD, List.getElem?_eq_getElem (by omega)]
    rfl
  exact ⟨getI_nat (chars_get hi), fun d hd => by
    have : d = letter (i : Int) := by simpa using hd
    rw [this]; exact List.mem_of_getElem? hi⟩
/-- what the k-th name is told by -/
def Told (n : Nat) (d0 d1 d2 : Int) (k : Nat) (t : Str) : Prop :=
  if d0 = 0 ∧ (n : Int) * (1 + d2 / 5) ≤ 36 then t.cps.toList = [letter ((d1 + (k : Int) * (1 + d2 / 5)) % 36)]
  else if d2 % 2 = 0 then ∃ fr, t.cps.toList = fr ++ [letter ((36 * d1 + d2 + 7 * (k : Int)) % 1296 / 36), letter ((36 * d1 + d2 + 7 * (k : Int)) % 1296 % 36)]
  else ∃ fr, t.cps.toList = [letter ((36 * d1 + d2 + 7 * (k : Int)) % 1296 / 36), letter ((36 * d1 + d2 + 7 * (k : Int)) % 1296 % 36)] ++ fr
theorem told_ne {n : Nat} {d0 d1 d2 : Int} {i j : Nat} {s t : Str} (h2 : 0 ≤ d2) (hn : n ≤ 1000) (hij : i < j) (hj : j < n) (h : Told n d0 d1 d2 i s) (k : Told n d0 d1 d2 j t) : s ≠ t := by
  intro e
  subst e
  unfold Told at h k
  have pl : letter ((36 * d1 + d2 + 7 * (i : Int)) % 1296 / 36) = letter ((36 * d1 + d2 + 7 * (j : Int)) % 1296 / 36) → letter ((36 * d1 + d2 + 7 * (i : Int)) % 1296 % 36) = letter ((36 * d1 + d2 + 7 * (j : Int)) % 1296 % 36) → False := by
    intro e1 e2
    have e1 := letter_inj (by omega) (by omega) (by omega) (by omega) e1
    have e2 := letter_inj (by omega) (by omega) (by omega) (by omega) e2
    omega
  by_cases c : d0 = 0 ∧ (n : Int) * (1 + d2 / 5) ≤ 36
  · rw [if_pos c] at h k
    rw [h] at k
    have e := (List.cons.inj k).1
    have e := letter_inj (Int.emod_nonneg _ (by decide)) (Int.emod_lt_of_pos _ (by decide)) (Int.emod_nonneg _ (by decide)) (Int.emod_lt_of_pos _ (by decide)) e
    generalize hs : 1 + d2 / 5 = st at e c
    have s1 : 1 ≤ st := by omega
    have m1 : ((i : Int) + 1) * st ≤ (j : Int) * st := Int.mul_le_mul_of_nonneg_right (by omega) (by omega)
    have m2 : ((j : Int) + 1) * st ≤ (n : Int) * st := Int.mul_le_mul_of_nonneg_right (by omega) (by omega)
    rw [Int.add_mul, Int.one_mul] at m1 m2
    have m3 : 0 ≤ (i : Int) * st := Int.mul_nonneg (by omega) (by omega)
    have c2 := c.2
    generalize (i : Int) * st = a at *
    generalize (j : Int) * st = b at *
    omega
  · rw [if_neg c] at h k
    by_cases c2 : d2 % 2 = 0
    · rw [if_pos c2] at h k
      obtain ⟨f, h⟩ := h
      obtain ⟨g, k⟩ := k
      rw [h] at k
      have e := List.append_inj_right' k rfl
      have e1 := (List.cons.inj e).1
      have e2 := (List.cons.inj (List.cons.inj e).2).1
      exact pl e1 e2
    · rw [if_neg c2] at h k
      obtain ⟨f, h⟩ := h
      obtain ⟨g, k⟩ := k
      rw [h] at k
      have e := List.append_inj_left k rfl
      have e1 := (List.cons.inj e).1
      have e2 := (List.cons.inj (List.cons.inj e).2).1
      exact pl e1 e2
theorem names_step {n : Nat} {ds names : List Int} {nm : List Str} {d0 d1 d2 : Int} (hD : Drawn (nameSizes n) ds) (g0 : getI ds ((0 : Nat) : Int) = .ok d0) (g1 : getI ds ((1 : Nat) : Int) = .ok d1) (g2 : getI ds ((2 : Nat) : Int) = .ok d2) (l0 : 0 ≤ d0) (u0 : d0 < 2) (l1 : 0 ≤ d1) (u1 : d1 < 36) (l2 : 0 ≤ d2) (u2 : d2 < 35) (hn : n ≤ 1000) {k : Nat} (hk : k < n) (hl : nm.length = k) :
    ∃ t, m_law_names_l1 ((k : Int), nm, ds, LET, (n : Int), ()) = .ok (nm ++ [t], ds, LET, (n : Int), ()) ∧ IsRec t ∧ Told n d0 d1 d2 k t := by
  have g0' : getI ds (0 : Int) = .ok d0 := g0
  have g1' : getI ds (1 : Int) = .ok d1 := g1
  have g2' : getI ds (2 : Int) = .ok d2 := g2
  have q1 : CMul (k : Int) (1 + d2 / 5) := CMul_l (by omega) (by omega)
  have q2 : CMul (n : Int) (1 + d2 / 5) := CMul_l (by omega) (by omega)
  have q3 : CMul (36 : Int) d1 := CMul_l (by decide) (by decide)
  have q4 : CMul (7 : Int) (k : Int) := CMul_l (by decide) (by decide)
  have q5 : CMul (4 : Int) (k : Int) := CMul_l (by decide) (by decide)
  have q7 : CDiv d2 (5 : Int) := CDiv_of (by decide) (by decide)
  unfold m_law_names_l1
  simp only [Rs.bo, g0', g1', g2', if_pos q1, if_pos q2, if_pos q3, if_pos q4, if_pos q5, if_pos q7, if_pos (show (0 : Int) < 36 by decide), if_pos (show (0 : Int) < 1296 by decide), if_pos (show (0 : Int) < 4 by decide), if_pos (show (0 : Int) < 2 by decide), ok_if]
  have hb : (if decide (d0 = 0) = true then decide ((n : Int) * (1 + d2 / 5) ≤ 36) else false) = decide (d0 = 0 ∧ (n : Int) * (1 + d2 / 5) ≤ 36) := by
    by_cases c : d0 = 0
    · rw [decide_eq_true c, if_pos rfl, decide_eq_decide]; exact ⟨fun h => ⟨c, h⟩, fun h => h.2⟩
    · rw [decide_eq_false c, if_neg (by decide), decide_eq_false (show ¬ (d0 = 0 ∧ (n : Int) * (1 + d2 / 5) ≤ 36) from fun z => c z.1)]
  rw [hb]
  cases hc : decide (d0 = 0 ∧ (n : Int) * (1 + d2 / 5) ≤ 36)
  rotate_left
  · simp only [if_true]
    obtain ⟨hy, hyS⟩ := letter_get (k := (d1 + (k : Int) * (1 + d2 / 5)) % 36) (Int.emod_nonneg _ (by decide)) (Int.emod_lt_of_pos _ (by decide))
    rw [hy]
    simp only [Rs.bo]
    rw [appI_ok (by omega)]
    exact ⟨_, rfl, ⟨hyS, by rw [one_len]; omega, by rw [one_len]; omega⟩, by unfold Told; rw [if_pos (of_decide_eq_true hc)]⟩
  · simp only [Bool.false_eq_true, if_false]
    generalize hp : (36 * d1 + d2 + 7 * (k : Int)) % 1296 = place
    have p0 := Int.emod_nonneg (36 * d1 + d2 + 7 * (k : Int)) (show (1296 : Int) ≠ 0 by decide)
    have p1 := Int.emod_lt_of_pos (36 * d1 + d2 + 7 * (k : Int)) (show (0 : Int) < 1296 by decide)
    rw [hp] at p0 p1
    generalize hw : (if decide (1 < d2 % 4) = true then (1 : Int) else 0) = w
    have hw' : w = 0 ∨ w = 1 := by rw [← hw]; split <;> simp
    have q6 : CMul (4 * (k : Int)) w := CMul_r (by omega) (by omega)
    have q8 : CDiv place (36 : Int) := CDiv_of (by decide) (by decide)
    have at' : ∀ j : Nat, j < 4 → ∃ d : Int, getI ds ((3 + j : Nat) + 4 * (k : Int) * w) = .ok d ∧ ∃ s, ([7, 36, 36, 36] : List Int)[j]? = some s ∧ 0 ≤ d ∧ d < s := by
      intro j hj
      rcases hw' with e | e
      · subst e
        obtain ⟨s, hs⟩ : ∃ s, ([7, 36, 36, 36] : List Int)[j]? = some s := ⟨_, List.getElem?_eq_getElem hj⟩
        obtain ⟨d, h1, h2, h3⟩ := hD.at' (3 + 4 * 0 + j) s (by rw [nameSizes_at (by omega) hj]; exact hs)
        exact ⟨d, getI_at (by simp) h1, s, hs, h2, h3⟩
      · subst e
        obtain ⟨s, hs⟩ : ∃ s, ([7, 36, 36, 36] : List Int)[j]? = some s := ⟨_, List.getElem?_eq_getElem hj⟩
        obtain ⟨d, h1, h2, h3⟩ := hD.at' (3 + 4 * k + j) s (by rw [nameSizes_at hk hj]; exact hs)
        exact ⟨d, getI_at (by simp; omega) h1, s, hs, h2, h3⟩
    obtain ⟨d3, e3, s3, hs3, l3, u3⟩ := at' 0 (by decide)
    obtain ⟨d4, e4, s4, hs4, l4, u4⟩ := at' 1 (by decide)
    obtain ⟨d5, e5, s5, hs5, l5, u5⟩ := at' 2 (by decide)
    obtain ⟨d6, e6, s6, hs6, l6, u6⟩ := at' 3 (by decide)
    cases hs3; cases hs4; cases hs5; cases hs6
    have e3' : getI ds (3 + 4 * (k : Int) * w) = .ok d3 := e3
    have e4' : getI ds (4 + 4 * (k : Int) * w) = .ok d4 := e4
    have e5' : getI ds (5 + 4 * (k : Int) * w) = .ok d5 := e5
    have e6' : getI ds (6 + 4 * (k : Int) * w) = .ok d6 := e6
    obtain ⟨y4, hy4, n4, S4⟩ := let_get l4 u4
    obtain ⟨y5, hy5, n5, S5⟩ := let_get l5 u5
    obtain ⟨y6, hy6, n6, S6⟩ := let_get l6 u6
    obtain ⟨hz1, T1⟩ := letter_get (k := place / 36) (by omega) (by omega)
    obtain ⟨hz2, T2⟩ := letter_get (k := place % 36) (by omega) (by omega)
    have m1 : (⟨#[letter (place / 36)]⟩ : Str).length = 1 := rfl
    have m2 : (⟨#[letter (place % 36)]⟩ : Str).length = 1 := rfl
    have c1 : (⟨#[letter (place / 36)]⟩ : Str).cps.toList = [letter (place / 36)] := rfl
    have c2 : (⟨#[letter (place % 36)]⟩ : Str).cps.toList = [letter (place % 36)] := rfl
    generalize (⟨#[letter (place / 36)]⟩ : Str) = z1 at *
    generalize (⟨#[letter (place % 36)]⟩ : Str) = z2 at *
    simp only [if_pos q6, if_pos q8, Rs.bo, e3', e4', e5', e6', hy4, hy5, hy6, hz1, hz2]
    rw [catS_ok (by omega)]
    simp only [Rs.bo]
    have nf : (y4 ++ y5 ++ y6).length = 3 := by rw [app_len, app_len]; omega
    rw [catS_ok (by rw [app_len]; omega)]
    simp only [Rs.bo]
    rw [catS_ok (a := y4 ++ y5 ++ y6) (by omega)]
    simp only [Rs.bo, e3', if_pos q8, hz1, hz2]
    have Sf : Sg (y4 ++ y5 ++ y6) := (S4.app S5).app S6
    generalize hfr : cutS (y4 ++ y5 ++ y6 ++ (y4 ++ y5 ++ y6)) none (some d3) = fr
    have Sfr : Sg fr := by rw [← hfr]; exact (Sf.app Sf).cut _ _
    have nfr : fr.length ≤ 6 := by rw [← hfr]; exact Nat.le_trans (cut_to l3) (by omega)
    rw [catS_ok (a := z1) (by omega)]
    simp only [Rs.bo]
    have nt : (z1 ++ z2).length = 2 := by rw [app_len]; omega
    rw [catS_ok (a := fr) (by omega), catS_ok (a := z1 ++ z2) (by omega)]
    simp only [Rs.bo, g2']
    have R1 : IsRec (fr ++ (z1 ++ z2)) := ⟨Sfr.app (T1.app T2), by rw [app_len]; omega, by rw [app_len]; omega⟩
    have R2 : IsRec (z1 ++ z2 ++ fr) := ⟨(T1.app T2).app Sfr, by rw [app_len]; omega, by rw [app_len]; omega⟩
    have hm : d2 % 2 = 0 ∨ d2 % 2 = 1 := by omega
    rcases hm with e | e
    · rw [e, show getI [fr ++ (z1 ++ z2), z1 ++ z2 ++ fr] (0 : Int) = .ok (fr ++ (z1 ++ z2)) from rfl]
      simp only [Rs.bo]
      rw [appI_ok (by omega)]
      exact ⟨_, rfl, R1, by
        unfold Told
        rw [if_neg (of_decide_eq_false hc), if_pos e, hp]
        exact ⟨fr.cps.toList, by rw [app_list, app_list, c1, c2]; rfl⟩⟩
    · rw [e, show getI [fr ++ (z1 ++ z2), z1 ++ z2 ++ fr] (1 : Int) = .ok (z1 ++ z2 ++ fr) from rfl]
      simp only [Rs.bo]
      rw [appI_ok (by omega)]
      exact ⟨_, rfl, R2, by
        unfold Told
        rw [if_neg (of_decide_eq_false hc), if_neg (by rw [e]; decide), hp]
        exact ⟨fr.cps.toList, by rw [app_list, app_list, c1, c2]; rfl⟩⟩
theorem names_nd (cell : Int) (n : Nat) (hn : n ≤ 1000) : ∃ nm : List Str, m_law_names (cell, (n : Int), ()) = .ok nm ∧ nm.length = n ∧ (∀ t ∈ nm, IsRec t) ∧ nm.Nodup := by
  unfold m_law_names
  simp only [Rs.bo]
  rw [repI_ok (by omega) (by omega) (by simp; omega)]
  simp only [Rs.bo]
  rw [catI_ok (by rw [rep_flen]; simp; omega)]
  simp only [Rs.bo]
  rw [show ((n : Int).toNat) = n from Int.toNat_natCast n]
  obtain ⟨ds, e, hD⟩ := draws_ok cell (nameSizes n) (fun s hs => by
    unfold nameSizes at hs
    rcases List.mem_append.mp hs with h | h
    · exact (by decide : ∀ s ∈ ([2, 36, 35] : List Int), 0 < s ∧ s < 1000000) s h
    · exact (by decide : ∀ s ∈ ([7, 36, 36, 36] : List Int), 0 < s ∧ s < 1000000) s (Wm.rep_mem h)) (by unfold nameSizes; rw [List.length_append, rep_flen]; simp; omega)
  rw [show m_law_draws (cell, [2, 36, 35] ++ (List.replicate n [7, 36, 36, 36]).flatten, ()) = _ from e]
  simp only [Rs.bo]
  rw [Rng_nat (by omega)]
  simp only [Rs.bo]
  obtain ⟨d0, g0, -, l0, u0⟩ := hD.get (i := 0) rfl
  obtain ⟨d1, g1, -, l1, u1⟩ := hD.get (i := 1) rfl
  obtain ⟨d2, g2, -, l2, u2⟩ := hD.get (i := 2) rfl
  obtain ⟨g, e2, nm, rfl, hl, hr, hd⟩ := fold_inv (f := fun (γ : Ctx.T [.ow 4 (List Str), .ow 3 (List Int), .fz 2 Str, .fz 1 Int]) x => m_law_names_l1 (x, γ)) (xs := rng 0 (n : Int)) (g := (([] : List Str), ds, LET, (n : Int), ()))
    (fun i g => ∃ nm : List Str, g = (nm, ds, LET, (n : Int), ()) ∧ nm.length = i ∧ (∀ t ∈ nm, IsRec t) ∧ ∀ j t, nm[j]? = some t → Told n d0 d1 d2 j t) ⟨[], rfl, rfl, (fun t h => by cases h), (fun j t h => by simp at h)⟩ (by
      rintro i a g ha ⟨nm, rfl, hl, hr, hd⟩
      obtain ⟨hi, rfl⟩ := rng_get ha
      obtain ⟨t, et, ht, htt⟩ := names_step (names := []) hD g0 g1 g2 l0 u0 l1 u1 l2 u2 hn (k := i) (by omega) hl
      refine ⟨_, by rw [show ((0 : Int) + (i : Int)) = (i : Int) by omega]; exact et, _, rfl, by rw [List.length_append, hl]; rfl, fun u hu => ?_, fun j u hu => ?_⟩
      · rcases List.mem_append.mp hu with h | h
        · exact hr u h
        · rw [List.mem_singleton.mp h]; exact ht
      · by_cases hj : j < nm.length
        · rw [List.getElem?_append_left hj] at hu
          exact hd j u hu
        · rw [List.getElem?_append_right (by omega)] at hu
          have h0 : j - nm.length = 0 := by
            have := (List.getElem?_eq_some_iff.mp hu).1
            simp at this
            omega
          rw [h0] at hu
          cases hu
          have : j = i := by omega
          rw [this]; exact htt)
  rw [e2]
  rw [rng0_len] at hl
  refine ⟨nm, rfl, hl, hr, ?_⟩
  refine List.pairwise_iff_getElem.mpr fun i j hi hj hij => ?_
  exact told_ne l2 hn hij (by omega) (hd i _ (List.getElem?_eq_getElem hi)) (hd j _ (List.getElem?_eq_getElem hj))
theorem Sg.any {t : Str} (h : Sg t) : (chars t).any (misses LET) = false := by
  rw [List.any_eq_false]
  intro x hx
  unfold chars at hx
  obtain ⟨c, hc, rfl⟩ := List.mem_map.mp hx
  show ¬ (!decide (c ∈ LET.cps.toList)) = true
  rw [decide_eq_true (h c hc)]
  decide
theorem valid_ok {t : Str} (h : IsRec t) : m_valid_record (t, ()) = .ok true := by
  unfold m_valid_record
  simp only [Rs.bo]
  have hf := foldR_test (f := fun (γ : Ctx.T [.fz 0 Str]) x => m_valid_record_l1 (x, γ)) (xs := chars t) (g := (t, ())) (misses LET) (r := false) (by
    intro x hx
    unfold m_valid_record_l1
    simp only [Rs.bo]
    rw [misses_chars hx]
    simp only [Rs.bo]
    exact ok_if)
  rw [hf, Sg.any h.sg, left_if]
  have h1 := h.lo
  have h2 := h.hi
  rw [decide_eq_false (show ¬ (t.length : Int) < 1 by omega)]
  simp only [Bool.false_eq_true, if_false]
  rw [decide_eq_false (show ¬ (8 : Int) < (t.length : Int) by omega)]
  simp only [Rs.bo, Bool.false_eq_true, if_false]
  rfl

/-- rows as a sheaf takes them -/
structure IsRows (rs : List (Int × Str)) : Prop where
  ne : 1 ≤ rs.length
  le : rs.length ≤ 16777216
  rec' : ∀ r ∈ rs, IsRec r.2
theorem enum_get {xs : List (Int × Str)} {i : Nat} {p : Int × (Int × Str)} (h : (enumI xs)[i]? = some p) : p.1 = (i : Int) ∧ xs[i]? = some p.2 := by
  unfold enumI at h
  simp only [List.getElem?_map, List.getElem?_zipIdx, Option.map_eq_some_iff] at h
  obtain ⟨q, ⟨r, hr, rfl⟩, rfl⟩ := h
  exact ⟨by simp, hr⟩
theorem init_ok {rs : List (Int × Str)} (h : IsRows rs) : mi_Sheaf_init (rs, ()) = .ok ⟨⟨rs⟩⟩ := by
  unfold mi_Sheaf_init m_Sheaf_init
  have h1 := h.ne
  simp only [Rs.bo]
  rw [decide_eq_false (show ¬ (rs.length : Int) = 0 by omega)]
  simp only [Bool.false_eq_true, if_false, Rs.bo]
  obtain ⟨g, e, hg⟩ := fold_inv (f := fun (γ : Ctx.T [.ow 0 (Ini "Sheaf"), .bo 1 (List (Int × Str))]) x => m_Sheaf_init_l1 (x.2, x.1, γ)) (xs := enumI rs) (g := ((⟨⟩ : Ini "Sheaf"), rs, ())) (fun _ g => g = ((⟨⟩ : Ini "Sheaf"), rs, ())) rfl (by
    intro i x g hx hg
    rw [hg]
    refine ⟨_, ?_, rfl⟩
    obtain ⟨-, hx2⟩ := enum_get hx
    show m_Sheaf_init_l1 (x.2, x.1, (⟨⟩ : Ini "Sheaf"), rs, ()) = _
    unfold m_Sheaf_init_l1
    simp only [Rs.bo]
    rw [valid_ok (h.rec' _ (List.mem_of_getElem? hx2))]
    simp only [Rs.bo, Bool.not_true, Bool.false_eq_true, if_false])
  rw [e, hg]
  rfl
theorem sheaf_rows (s : Sheaf) : m_Sheaf_rows (s, ()) = .ok s.rows.items := rfl

theorem fold_exat {γ α : Type} {f : γ → α → Rs γ} {g : γ} {e : Exc} : ∀ {xs : List α} (k : Nat) {a : α}, xs[k]? = some a → f g a = .ex e → (∀ i b, i < k → xs[i]? = some b → f g b = .ok g) → Rs.fold f g xs = .ex e
  | [], k, a, h, _, _ => by simp at h
  | x :: xs, 0, a, h, h1, _ => by
    have : x = a := by simpa using h
    subst this
    show (f g x).bind _ = _
    rw [h1]
    rfl
  | x :: xs, k + 1, a, h, h1, h2 => by
    show (f g x).bind _ = _
    rw [h2 0 x (by omega) rfl]
    exact fold_exat (xs := xs) k (by simpa using h) h1 fun i b hi hb => h2 (i + 1) b (by omega) (by simpa using hb)
theorem fold_same {γ α : Type} {f : γ → α → Rs γ} {g : γ} : ∀ {xs : List α}, (∀ x ∈ xs, f g x = .ok g) → Rs.fold f g xs = .ok g
  | [], _ => rfl
  | x :: xs, h => by
    show (f g x).bind _ = _
    rw [h x List.mem_cons_self]
    exact fold_same fun y hy => h y (List.mem_cons_of_mem _ hy)
def exInt (n : String) (f : Str) (j : Int) : Exc := ⟨n, [(f, .int j)]⟩
theorem sheaf_eq_self (s : Sheaf) : m_Sheaf_eq (s, s, ()) = .ok true := by
  unfold m_Sheaf_eq
  simp only [Rs.bo, if_true, decide_true]

theorem bitAnd_one (l : Nat) : Builtin.bitAnd (l : Int) 1 = ((l % 2 : Nat) : Int) := by
  unfold Builtin.bitAnd
  simp [Nat.and_one_is_mod]
theorem log2_pow {b : Int} (b0 : 1 ≤ b) (b1 : b ≤ 8) (k : Nat) : (b ^ k).natAbs.log2 ≤ 3 * k := by
  have h1 := pow_pos' b0 k
  have h2 : b ^ k ≤ 8 ^ k := pow_base (by omega) b1 k
  have h3 : (b ^ k).natAbs < 2 ^ (3 * k + 1) := by
    have e : ((b ^ k).natAbs : Int) = b ^ k := Int.natAbs_of_nonneg (by omega)
    have e2 : (8 : Int) ^ k = ((2 ^ (3 * k) : Nat) : Int) := by rw [Nat.pow_mul]; norm_cast
    have : (b ^ k).natAbs ≤ 2 ^ (3 * k) := by omega
    rw [Nat.pow_succ]
    have := Nat.two_pow_pos (3 * k)
    omega
  have := (Nat.log2_lt (n := (b ^ k).natAbs) (k := 3 * k + 1) (by omega)).mpr h3
  omega
theorem power_is {b e : Int} (b0 : 1 ≤ b) (b1 : b ≤ 8) (e0 : 0 ≤ e) (e1 : e ≤ 10000) : m_power (b, e, ()) = .ok (b ^ e.toNat) := by
  obtain ⟨k, rfl⟩ := Int.eq_ofNat_of_zero_le e0
  rw [Int.toNat_natCast]
  unfold m_power
  simp only [Rs.bo]
  obtain ⟨g, hg, ⟨l, p, j, rfl, hl⟩, hf⟩ := whl_inv (t := m_power_w1) (b := m_power_l2) (fun g => ∃ l p j : Nat, g = ((l : Int), b ^ p, b ^ j, ()) ∧ j + p * l = k) (fun g => g.1.toNat) (by
    rintro g ⟨l, p, j, rfl, hl⟩
    refine ⟨decide ((0 : Int) < l), by unfold m_power_w1; simp only [Rs.bo], fun hc => ?_⟩
    have h0 : (0 : Int) < l := of_decide_eq_true hc
    have hp : p ≤ k := by
      have : p * 1 ≤ p * l := Nat.mul_le_mul_left p (by omega)
      omega
    have e2 : (l : Int) / 2 = ((l / 2 : Nat) : Int) := by omega
    have w1 := log2_pow b0 b1 p
    have w2 := log2_pow b0 b1 j
    have hj : j ≤ k := by omega
    unfold m_power_l2
    simp only [Rs.bo]
    rw [bitAnd_one]
    have c2 : CMulW (b ^ p) (b ^ p) := by show _ + _ < 1000000; omega
    have c3 : CDivW (l : Int) 2 := ⟨by decide, by decide⟩
    by_cases ho : l % 2 = 1
    · have c1 : CMulW (b ^ j) (b ^ p) := by show _ + _ < 1000000; omega
      rw [dtrue (show ((l % 2 : Nat) : Int) = 1 by omega)]
      simp only [if_true, if_pos c1, if_pos c2, if_pos c3, Rs.bo]
      refine ⟨_, rfl, ⟨l / 2, p + p, j + p, by rw [e2, Int.pow_add, Int.pow_add], ?_⟩, by show ((l : Int) / 2).toNat < (l : Int).toNat; omega⟩
      have : l = 2 * (l / 2) + 1 := by omega
      generalize l / 2 = q at *
      subst this
      rw [← hl, Nat.mul_add, Nat.mul_one, Nat.mul_left_comm p 2 q, Nat.add_mul]
      omega
    · rw [decide_eq_false (show ¬ ((l % 2 : Nat) : Int) = 1 by omega)]
      simp only [Bool.false_eq_true, if_false, if_pos c2, if_pos c3, Rs.bo]
      refine ⟨_, rfl, ⟨l / 2, p + p, j, by rw [e2, Int.pow_add], ?_⟩, by show ((l : Int) / 2).toNat < (l : Int).toNat; omega⟩
      have : l = 2 * (l / 2) := by omega
      generalize l / 2 = q at *
      subst this
      rw [← hl, Nat.mul_left_comm p 2 q, Nat.add_mul]
      omega) (g := ((k : Int), b, 1, ())) ⟨k, 1, 0, by rw [Int.pow_zero, Int.pow_succ, Int.pow_zero, Int.one_mul], by omega⟩
  rw [hg]
  unfold m_power_w1 at hf
  simp only [Rs.bo] at hf
  have hl0 : l = 0 := by
    have : decide ((0 : Int) < l) = false := by injection hf
    have := of_decide_eq_false this
    omega
  subst hl0
  simp only [Rs.bo]
  rw [← hl, Nat.mul_zero, Nat.add_zero]

def lvs (rows : List (Int × Str)) : List Int := rows.map (·.1)

theorem cap_is {x e w : Int} (w0 : 1 ≤ w) (w1 : w ≤ 6) (h : x - e ≤ 10000) : m_cap (x, e, w, ()) = .ok (capE w x e) := by
  unfold m_cap capE
  simp only [Rs.bo]
  by_cases c : x < e
  · rw [decide_eq_true c, if_pos rfl, if_pos c]
  · rw [decide_eq_false c, if_neg (by decide), if_neg c]
    exact power_is (by omega) (by omega) (by omega) (by omega)
theorem reach_is {rows : List (Int × Str)} {e w : Int} (w0 : 1 ≤ w) (w1 : w ≤ 6) (hl : rows.length ≤ 1000) (h : ∀ r ∈ rows, r.1 - e ≤ 10000) : m_reach (⟨⟨rows⟩⟩, e, w, ()) = .ok (reachE w (lvs rows) e) := by
  unfold m_reach
  simp only [Rs.bo, m_Sheaf_rows]
  rw [if_pos (by omega)]
  rw [show Rs.comp (fun x => Rs.ok true) (fun x => m_reach_e1 (x, (e, w, ()))) rows = .ok (rows.map fun r => capE w r.1 e) from comp_map (fun _ _ => rfl) fun r hr => by
    unfold m_reach_e1
    simp only [Rs.bo]
    exact cap_is w0 w1 (h r hr)]
  simp only [Rs.bo]
  unfold reachE lvs
  rw [List.map_map]
  rfl

theorem dct_get_cons {κ α : Type} [DecidableEq κ] (p : κ × α) (es : List (κ × α)) (k : κ) : (Dct.mk (p :: es)).get? k = if p.1 = k then some p.2 else (Dct.mk es).get? k := by
  unfold Dct.get?
  dsimp only
  rw [List.find?_cons]
  by_cases h : p.1 = k
  · rw [decide_eq_true h, if_pos h]; rfl
  · rw [decide_eq_false h, if_neg h]
theorem dct_mem {κ α : Type} [DecidableEq κ] : ∀ (es : List (κ × α)) (k : κ), k ∈ es.map (·.1) ↔ ((Dct.mk es).get? k).isSome = true
  | [], k => by simp [Dct.get?]
  | p :: es, k => by
    rw [dct_get_cons, List.map_cons, List.mem_cons, dct_mem es k]
    by_cases h : p.1 = k
    · rw [if_pos h]; simp [h]
    · rw [if_neg h]
      exact ⟨fun z => z.resolve_left fun e => h e.symm, .inr⟩
theorem dct_any {κ α : Type} [DecidableEq κ] : ∀ (es : List (κ × α)) (k : κ), (es.any fun e => decide (e.1 = k)) = ((Dct.mk es).get? k).isSome
  | [], k => rfl
  | p :: es, k => by
    rw [dct_get_cons, List.any_cons, dct_any es k]
    by_cases h : p.1 = k
    · rw [if_pos h, decide_eq_true h]; rfl
    · rw [if_neg h, decide_eq_false h, Bool.false_or]
theorem dct_map {κ α : Type} [DecidableEq κ] (k j : κ) (a : α) : ∀ es : List (κ × α), (Dct.mk (es.map fun e => if e.1 = k then (e.1, a) else e)).get? j = ((Dct.mk es).get? j).map fun x => if j = k then a else x
  | [] => rfl
  | p :: es => by
    rw [List.map_cons, dct_get_cons, dct_get_cons, dct_map k j a es]
    by_cases h : p.1 = k
    · rw [if_pos h]
      by_cases e : p.1 = j
      · rw [if_pos e, if_pos e, Option.map_some, if_pos (e.symm.trans h)]
      · rw [if_neg e, if_neg e]
    · rw [if_neg h]
      by_cases e : p.1 = j
      · rw [if_pos e, if_pos e, Option.map_some, if_neg fun z => h (e.trans z)]
      · rw [if_neg e, if_neg e]
theorem dct_snoc {κ α : Type} [DecidableEq κ] (k j : κ) (a : α) : ∀ es : List (κ × α), (Dct.mk es).get? k = none → (Dct.mk (es ++ [(k, a)])).get? j = if j = k then some a else (Dct.mk es).get? j
  | [], _ => by
    rw [List.nil_append, dct_get_cons]
    by_cases e : k = j
    · rw [if_pos e, if_pos e.symm]
    · rw [if_neg e, if_neg fun z => e z.symm]
  | p :: es, h => by
    rw [dct_get_cons] at h
    by_cases hp : p.1 = k
    · rw [if_pos hp] at h; cases h
    · rw [if_neg hp] at h
      rw [List.cons_append, dct_get_cons, dct_get_cons, dct_snoc k j a es h]
      by_cases e : p.1 = j
      · rw [if_pos e, if_pos e, if_neg fun z => hp (e.trans z)]
      · rw [if_neg e, if_neg e]
theorem dct_put {κ α : Type} [DecidableEq κ] (d : Dct κ α) (k j : κ) (a : α) : (d.put k a).get? j = if j = k then some a else d.get? j := by
  obtain ⟨es⟩ := d
  unfold Dct.put
  dsimp only
  rw [dct_any]
  cases e : (Dct.mk es).get? k with
  | none =>
    rw [if_neg (by simp)]
    exact dct_snoc k j a es e
  | some b =>
    rw [if_pos (by simp), dct_map]
    by_cases h : j = k
    · rw [h, if_pos rfl, e]; simp
    · rw [if_neg h]
      cases (Dct.mk es).get? j with
      | none => rfl
      | some x => rw [Option.map_some, if_neg h]
theorem dct_len {κ α : Type} [DecidableEq κ] (d : Dct κ α) (k : κ) (a : α) : (d.put k a).es.length ≤ d.es.length + 1 := by
  unfold Dct.put
  dsimp only
  split
  · rw [List.length_map]; omega
  · rw [List.length_append, List.length_singleton]; omega
theorem dput_ok {κ α : Type} [DecidableEq κ] {d : Dct κ α} {k : κ} {a : α} (h : d.es.length < 16777216) : dputR d k a = .ok (d.put k a) := if_pos h
theorem dget_ok {κ α : Type} [DecidableEq κ] {d : Dct κ α} {k : κ} {a : α} (h : d.get? k = some a) : dgetR d k = .ok a := by unfold dgetR; rw [h]

theorem capped_is {b e n : Int} (b0 : 2 ≤ b) (b1 : b ≤ 1000) (e0 : 0 ≤ e) (n0 : 1 ≤ n) : m_capped_power (b, e, n, ()) = .ok (min (b ^ e.toNat) n) := by
  obtain ⟨k, rfl⟩ := Int.eq_ofNat_of_zero_le e0
  rw [Int.toNat_natCast]
  obtain ⟨j, hj, hmin⟩ := least_ex (p := fun j : Nat => j = k ∨ n ≤ b ^ j) ⟨k, .inl rfl⟩
  have hjk : j ≤ k := Nat.le_of_not_lt fun h => hmin k h (.inl rfl)
  unfold m_capped_power
  simp only [Rs.bo]
  have hw := whl_count (t := m_capped_power_w1) (b := m_capped_power_l2) (fun i : Nat => ((k : Int) - i, b ^ i, b, n, ())) j (fun i hi => by
      have h := hmin i hi
      have h1 : i ≠ k := fun e => h (.inl e)
      have h2 : ¬ n ≤ b ^ i := fun e => h (.inr e)
      show m_capped_power_w1 ((k : Int) - i, b ^ i, b, n, ()) = _
      unfold m_capped_power_w1
      simp only [Rs.bo]
      rw [dtrue (show (0 : Int) < (k : Int) - i by omega), dtrue (show b ^ i < n by omega)]
      rfl) (fun i hi => by
      show m_capped_power_l2 ((k : Int) - i, b ^ i, b, n, ()) = _
      unfold m_capped_power_l2
      simp only [Rs.bo, if_pos (CMul_r (i := b ^ i) (show -1000000000000 ≤ b by omega) (show b ≤ 1000000000000 by omega))]
      rw [Int.pow_succ, show (k : Int) - i - 1 = (k : Int) - ((i + 1 : Nat) : Int) by omega]) (by
      show m_capped_power_w1 ((k : Int) - j, b ^ j, b, n, ()) = _
      unfold m_capped_power_w1
      simp only [Rs.bo]
      rcases hj with e | e
      · rw [decide_eq_false (show ¬ (0 : Int) < (k : Int) - j by omega)]
        rfl
      · rw [decide_eq_false (show ¬ b ^ j < n by omega)]
        cases decide ((0 : Int) < (k : Int) - j) <;> rfl)
  have h0 : Rs.whl m_capped_power_w1 m_capped_power_l2 ((k : Int), (1 : Int), b, n, ()) = .ok ((k : Int) - (j : Int), b ^ j, b, n, ()) := by
    have : ((k : Int), (1 : Int), b, n, ()) = ((k : Int) - ((0 : Nat) : Int), b ^ 0, b, n, ()) := by rw [Int.pow_zero]; simp
    rw [this]
    exact hw
  rw [h0]
  simp only [Rs.bo]
  rw [minI_two]
  rcases hj with e | e
  · rw [e]
  · have := pow_mono (show 1 ≤ b by omega) hjk
    congr 1
    omega

def exStr (n : String) (f y : Str) : Exc := ⟨n, [(f, .str y)]⟩
theorem rai_str {β : Type} (n : String) (f y : Str) (h : y.length ≤ 1000) : (Rs.rai n f (.ok y) : Rs β) = .ex (exStr n f y) := by
  unfold Rs.rai
  simp only [Rs.bo]
  rw [if_pos (show XV.fit y = true from decide_eq_true h)]
  rfl
theorem at_str (n : String) (f y : Str) (h : SOk y) : (Exc.at (exStr n f y) f : Rs Str) = .ok y := by
  unfold Exc.at exStr
  dsimp only
  rw [List.lookup_cons, beq_self_eq_true]
  exact if_pos h
theorem try_exS {α : Type} (n : String) (oth : List String) (f y : Str) (h : Exc → Rs α) : Rs.try n oth (.ex (exStr n f y)) h = h (exStr n f y) := by
  unfold Rs.try
  exact if_pos rfl

def keysD {α : Type} (d : Dct Str α) : List Str := d.es.map (·.1)
def demD (d : Dct Str Int) (nm : Str) : Int := (d.get? nm).getD 0
theorem dem_at {d : Dct Str Int} {nm : Str} (h : nm ∈ keysD d) : dgetR d nm = .ok (demD d nm) := by
  have := (dct_mem d.es nm).mp h
  change (d.get? nm).isSome = true at this
  obtain ⟨x, hx⟩ := Option.isSome_iff_exists.mp this
  unfold demD
  rw [dget_ok hx, hx]
  rfl
theorem sortStr_mem {nm : Str} {xs : List Str} : nm ∈ sortStr xs ↔ nm ∈ xs := (sortStr_perm xs).mem_iff

/-! ### the sheets of a record, the sharpest first -/
def ownP (rs : List (Int × Str)) (nm : Str) (e k : Int) : Bool := decide (((rs[k.toNat]?).map (·.2)) = some nm) && decide (e ≤ lv0 rs k)
def ownI (rs : List (Int × Str)) (nm : Str) (e : Int) : List Int := (rng 0 (rs.length : Int)).filter (ownP rs nm e)
def ownS (rs : List (Int × Str)) (nm : Str) (e : Int) : List Int := (ownI rs nm e).mergeSort (keyLe rs)
theorem rw_at {rs : List (Int × Str)} {k : Int} (h0 : 0 ≤ k) (h1 : k < rs.length) : ∃ r, getI rs k = .ok r ∧ r ∈ rs ∧ rs[k.toNat]? = some r ∧ r.1 = lv0 rs k := by
  obtain ⟨r, e, m, g⟩ := getI_mem h0 h1
  exact ⟨r, e, m, g, by unfold lv0; rw [g]; rfl⟩
theorem ownS_mem {rs : List (Int × Str)} {nm : Str} {e k : Int} : k ∈ ownS rs nm e ↔ k ∈ ownI rs nm e := (List.mergeSort_perm _ _).mem_iff
theorem ownI_mem {rs : List (Int × Str)} {nm : Str} {e k : Int} (h : k ∈ ownI rs nm e) : (0 ≤ k ∧ k < rs.length) ∧ e ≤ lv0 rs k := by
  unfold ownI at h
  obtain ⟨h1, h2⟩ := List.mem_filter.mp h
  unfold ownP at h2
  rw [Bool.and_eq_true] at h2
  exact ⟨mem_rng.mp h1, of_decide_eq_true h2.2⟩
theorem ownS_len (rs : List (Int × Str)) (nm : Str) (e : Int) : (ownS rs nm e).length ≤ rs.length := by
  unfold ownS
  rw [List.length_mergeSort]
  unfold ownI
  have := List.length_filter_le (ownP rs nm e) (rng 0 (rs.length : Int))
  rw [rng_mapn] at this
  omega
theorem own_order_is {rs : List (Int × Str)} (nm : Str) (e : Int) (h : rs.length ≤ 16777216) : m_own_order (rs, nm, e, ()) = .ok (ownS rs nm e) := by
  unfold m_own_order
  simp only [Rs.bo]
  rw [Rng_nat h]
  simp only [Rs.bo]
  rw [if_pos (by rw [rng_mapn]; omega)]
  rw [comp_on (ownP rs nm e) (fun k => k) (t := fun x => m_own_order_t1 (x, rs, nm, e, ())) (f := fun x => m_own_order_e2 (x, rs, nm, e, ())) fun k hk => ⟨by
    obtain ⟨h0, h1⟩ := mem_rng.mp hk
    obtain ⟨r, g, -, q, l⟩ := rw_at h0 h1
    show m_own_order_t1 (k, rs, nm, e, ()) = _
    unfold m_own_order_t1 ownP
    simp only [Rs.bo, g, q, Option.map_some, Option.some.injEq, l]
    cases decide (r.2 = nm) <;> rfl, fun _ => rfl⟩]
  rw [List.map_id']
  simp only [Rs.bo]
  unfold sortOwn
  exact if_pos fun k hk => (ownI_mem (show k ∈ ownI rs nm e from hk)).1
/-! ### the sheets that are taken for a demand -/
def takeI (w e dem : Int) (rs : List (Int × Str)) : List Int → Int → List Int
  | [], _ => []
  | k :: ks, t => if t < dem then k :: takeI w e dem rs ks (t + capE w (lv0 rs k) e) else takeI w e dem rs ks t
theorem takeI_len (w e dem : Int) (rs : List (Int × Str)) : ∀ (ks : List Int) (t : Int), (takeI w e dem rs ks t).length ≤ ks.length
  | [], _ => Nat.le_refl _
  | x :: ks, t => by
    unfold takeI
    split
    · rw [List.length_cons, List.length_cons]; exact Nat.succ_le_succ (takeI_len w e dem rs ks _)
    · rw [List.length_cons]; exact Nat.le_succ_of_le (takeI_len w e dem rs ks _)
def asideL (rs : List (Int × Str)) (e w : Int) (d : Dct Str Int) (nms : List Str) : List Int := nms.flatMap fun nm => takeI w e (demD d nm) rs (ownS rs nm e) 0
theorem asideL_len (rs : List (Int × Str)) (e w : Int) (d : Dct Str Int) : ∀ nms : List Str, (asideL rs e w d nms).length ≤ nms.length * rs.length
  | [] => Nat.zero_le _
  | nm :: nms => by
    unfold asideL
    rw [List.flatMap_cons, List.length_append, List.length_cons, Nat.succ_mul]
    have h1 := takeI_len w e (demD d nm) rs (ownS rs nm e) 0
    have h2 := ownS_len rs nm e
    have h3 := asideL_len rs e w d nms
    unfold asideL at h3
    omega
/-- the list that is set aside -/
def asideOf (rs : List (Int × Str)) (e w : Int) (d : Dct Str Int) : List Int := sortI (asideL rs e w d (sortStr (keysD d)))
/-- levels that a power can be asked of -/
def LevB (rs : List (Int × Str)) (e : Int) : Prop := ∀ r ∈ rs, r.1 - e ≤ 1000000
theorem nd_le {α : Type} [DecidableEq α] : ∀ {xs ys : List α}, xs.Nodup → (∀ x ∈ xs, x ∈ ys) → xs.length ≤ ys.length
  | [], _, _, _ => Nat.zero_le _
  | x :: xs, ys, h, k => by
    obtain ⟨h1, h2⟩ := List.nodup_cons.mp h
    have := nd_le (ys := ys.erase x) h2 fun z hz => (List.mem_erase_of_ne (fun e : z = x => h1 (by rw [← e]; exact hz))).mpr (k z (List.mem_cons_of_mem _ hz))
    rw [List.length_erase_of_mem (k x List.mem_cons_self)] at this
    have := List.length_pos_of_mem (k x List.mem_cons_self)
    rw [List.length_cons]
    omega

/-! ### the demands checked -/
theorem check_l1 {d : Dct Str Int} {nm : Str} (h : nm ∈ keysD d) (hl : nm.length ≤ 1000) : m_check_demands_l1 (nm, ⟨d⟩, ()) = if demD d nm < 0 then .ex (exStr "InvalidDemands" "record" nm) else .ok (⟨d⟩, ()) := by
  unfold m_check_demands_l1
  simp only [Rs.bo, dem_at h]
  by_cases c : demD d nm < 0
  · rw [decide_eq_true c, if_pos c]
    simp only [if_true]
    rw [rai_str _ _ _ hl]
    rfl
  · rw [decide_eq_false c, if_neg c]
    rfl
theorem check_ok {d : Dct Str Int} (hd : (keysD d).length < 64) (hn : ∀ nm ∈ keysD d, nm.length ≤ 1000 ∧ 0 ≤ demD d nm) : m_check_demands (⟨d⟩, ()) = .ok () := by
  unfold m_check_demands m_check_demands_z2
  simp only [Rs.bo, Rs.okl]
  rw [show sortS (d.es.map (·.1)) = .ok (sortStr (keysD d)) from if_pos hd]
  simp only [Rs.bo]
  rw [fold_same (f := fun (γ : Ctx.T [.bo 0 (DV Str Int)]) x => m_check_demands_l1 (x, γ)) (g := (⟨d⟩, ())) fun nm h => by
    have h := sortStr_mem.mp h
    show m_check_demands_l1 (nm, ⟨d⟩, ()) = _
    rw [check_l1 h (hn nm h).1, if_neg (by have := (hn nm h).2; omega)]]
  rfl
/-- the first of the sorted keys with a negative demand -/
def firstNeg (d : Dct Str Int) : Option Str := (sortStr (keysD d)).find? fun nm => decide (demD d nm < 0)
theorem check_bad {d : Dct Str Int} (hd : (keysD d).length < 64) (hn : ∀ nm ∈ keysD d, nm.length ≤ 1000) {nm : Str} (hf : firstNeg d = some nm) : m_check_demands (⟨d⟩, ()) = .ex (exStr "InvalidDemands" "record" nm) := by
  unfold firstNeg at hf
  obtain ⟨hneg, as, bs, e, hb⟩ := List.find?_eq_some_iff_append.mp hf
  have hneg := of_decide_eq_true hneg
  unfold m_check_demands m_check_demands_z2
  simp only [Rs.bo, Rs.okl]
  rw [show sortS (d.es.map (·.1)) = .ok (sortStr (keysD d)) from if_pos hd]
  simp only [Rs.bo]
  have hin : ∀ x ∈ sortStr (keysD d), x ∈ keysD d := fun x => sortStr_mem.mp
  have hk : (sortStr (keysD d))[as.length]? = some nm := by rw [e]; simp
  rw [fold_exat (f := fun (γ : Ctx.T [.bo 0 (DV Str Int)]) x => m_check_demands_l1 (x, γ)) (g := (⟨d⟩, ())) as.length hk (by
    have h := hin nm (List.mem_of_getElem? hk)
    show m_check_demands_l1 (nm, ⟨d⟩, ()) = _
    rw [check_l1 h (hn nm h), if_pos hneg]) fun i b hi hb' => by
    have h := hin b (List.mem_of_getElem? hb')
    show m_check_demands_l1 (b, ⟨d⟩, ()) = _
    rw [e, List.getElem?_append_left hi] at hb'
    have := hb b (List.mem_of_getElem? hb')
    rw [check_l1 h (hn b h), if_neg]
    simpa using this]
  rfl

theorem set_aside_fold {w e : Int} {rs : List (Int × Str)} {d : Dct Str Int} {nm : Str} (w0 : 1 ≤ w) (w1 : w ≤ 900) (hdn : 0 ≤ demD d nm) : ∀ (ks : List Int) (t p : Int) (as : List Int), 0 ≤ p → (t < demD d nm → p = t) → (demD d nm ≤ t → demD d nm ≤ p) → (∀ k ∈ ks, (0 ≤ k ∧ k < rs.length) ∧ e ≤ lv0 rs k) → as.length + ks.length ≤ 16777216 →
    ∃ p', Rs.fold (fun (γ : Ctx.T [.fz 8 Int, .fz 7 Int, .fz 6 Str, .ow 5 (List Int), .ow 4 (List (Int × Str)), .fz 1 Int, .bo 2 (DV Str Int), .fz 3 Int]) x => m_set_aside_l1 (x, γ)) (p, demD d nm, nm, as, rs, e, ⟨d⟩, w, ()) ks = .ok (p', demD d nm, nm, as ++ takeI w e (demD d nm) rs ks t, rs, e, ⟨d⟩, w, ())
  | [], t, p, as, _, _, _, _, _ => ⟨p, by unfold takeI; rw [List.append_nil]; rfl⟩
  | k :: ks, t, p, as, p0, h1, h2, hk, hl => by
    rw [List.length_cons] at hl
    obtain ⟨⟨k0, k1⟩, k2⟩ := hk k List.mem_cons_self
    obtain ⟨r, g, -, -, lr⟩ := rw_at k0 k1
    have hb : (1 : Int) ≤ (w + 1) ^ (lv0 rs k - e).toNat := pow_pos' (by omega) _
    have hcap : capE w (lv0 rs k) e = (w + 1) ^ (lv0 rs k - e).toNat := by unfold capE; rw [if_neg (by omega)]
    have hx : m_set_aside_l1 (k, p, demD d nm, nm, as, rs, e, ⟨d⟩, w, ()) = .ok (if t < demD d nm then t + min ((w + 1) ^ (lv0 rs k - e).toNat) (demD d nm) else p, demD d nm, nm, if t < demD d nm then as ++ [k] else as, rs, e, ⟨d⟩, w, ()) := by
      unfold m_set_aside_l1
      simp only [Rs.bo]
      by_cases c : t < demD d nm
      · have ep := h1 c
        rw [ep, decide_eq_true c, if_pos c, if_pos c]
        simp only [if_true]
        rw [appI_ok (by omega)]
        simp only [Rs.bo, g, lr]
        rw [capped_is (by omega) (by omega) (by omega) (by omega)]
        rfl
      · have := h2 (by omega)
        rw [decide_eq_false (show ¬ p < demD d nm by omega), if_neg c, if_neg c]
        rfl
    unfold Rs.fold
    rw [hx]
    simp only [Rs.bo]
    unfold takeI
    by_cases c : t < demD d nm
    · rw [if_pos c, if_pos c, if_pos c, hcap]
      have ep := h1 c
      obtain ⟨t', e'⟩ := set_aside_fold w0 w1 hdn ks (t + (w + 1) ^ (lv0 rs k - e).toNat) (t + min ((w + 1) ^ (lv0 rs k - e).toNat) (demD d nm)) (as ++ [k]) (by omega) (by omega) (by omega) (fun z hz => hk z (List.mem_cons_of_mem _ hz)) (by rw [List.length_append, List.length_singleton]; omega)
      refine ⟨t', ?_⟩
      rw [e', List.append_assoc]
      rfl
    · rw [if_neg c, if_neg c, if_neg c]
      exact set_aside_fold w0 w1 hdn ks t p as p0 h1 h2 (fun z hz => hk z (List.mem_cons_of_mem _ hz)) (by omega)
theorem set_aside_is {w e : Int} {rs : List (Int × Str)} {d : Dct Str Int} (w0 : 1 ≤ w) (w1 : w ≤ 900) (hr : rs.length ≤ 1000) (hd : (keysD d).length < 64) (hn : ∀ nm ∈ keysD d, nm.length ≤ 1000 ∧ 0 ≤ demD d nm) : m_set_aside (⟨⟨rs⟩⟩, e, ⟨d⟩, w, ()) = .ok (asideOf rs e w d) := by
  unfold m_set_aside
  simp only [Rs.bo, Rs.okl]
  rw [check_ok hd hn]
  simp only [Rs.bo]
  rw [show m_Sheaf_rows (⟨⟨rs⟩⟩, ()) = .ok rs from rfl]
  simp only [Rs.bo]
  rw [show sortS (d.es.map (·.1)) = .ok (sortStr (keysD d)) from if_pos hd]
  simp only [Rs.bo]
  have hlen := sortStr_len (keysD d)
  obtain ⟨g, eg, hg⟩ := fold_inv (f := fun (γ : Ctx.T [.ow 5 (List Int), .ow 4 (List (Int × Str)), .fz 1 Int, .bo 2 (DV Str Int), .fz 3 Int]) x => m_set_aside_l2 (x, γ)) (xs := sortStr (keysD d)) (g := (([] : List Int), rs, e, (⟨d⟩ : DV Str Int), w, ()))
    (fun i g => g = (asideL rs e w d ((sortStr (keysD d)).take i), rs, e, ⟨d⟩, w, ())) rfl (by
      rintro i nm g ha rfl
      have hi := (List.getElem?_eq_some_iff.mp ha).1
      have hnk : nm ∈ keysD d := sortStr_mem.mp (List.mem_of_getElem? ha)
      have hal := asideL_len rs e w d ((sortStr (keysD d)).take i)
      have h1 : ((sortStr (keysD d)).take i).length * rs.length ≤ 64 * 1000 := Nat.mul_le_mul (by rw [List.length_take]; omega) hr
      have hol := ownS_len rs nm e
      refine ⟨_, ?_, rfl⟩
      show m_set_aside_l2 (nm, asideL rs e w d ((sortStr (keysD d)).take i), rs, e, ⟨d⟩, w, ()) = _
      unfold m_set_aside_l2
      simp only [Rs.bo, dem_at hnk, Rs.okl]
      rw [own_order_is nm e (by omega)]
      simp only [Rs.bo]
      obtain ⟨t', e'⟩ := set_aside_fold (nm := nm) w0 w1 (hn nm hnk).2 (ownS rs nm e) 0 0 (asideL rs e w d ((sortStr (keysD d)).take i)) (Int.le_refl _) (fun _ => rfl) (fun h => h) (fun k hk => ownI_mem (ownS_mem.mp hk)) (by omega)
      rw [e']
      simp only [Rs.bo]
      rw [List.take_succ, ha]
      unfold asideL
      rw [Option.toList_some, List.flatMap_append, List.flatMap_singleton])
  rw [eg, hg]
  simp only [Rs.bo]
  rw [List.take_of_length_le (Nat.le_refl _)]
  rfl
/-! ### demands: keys apart, records, values that P holds of -/
structure Dem (P : Int → Prop) (d : Dct Str Int) (n : Nat) : Prop where
  nd : (keysD d).Nodup
  rc : ∀ nm ∈ keysD d, IsRec nm
  vs : ∀ nm v, d.get? nm = some v → P v
  le : d.es.length ≤ n
abbrev NN (v : Int) : Prop := 0 ≤ v
theorem get_self {κ α : Type} [DecidableEq κ] : ∀ {es : List (κ × α)}, (es.map (·.1)).Nodup → ∀ e ∈ es, (Dct.mk es).get? e.1 = some e.2
  | [], _, e, h => by cases h
  | x :: es, nd, e, h => by
    rw [List.map_cons, List.nodup_cons] at nd
    rw [dct_get_cons]
    rcases List.mem_cons.mp h with z | z
    · rw [z, if_pos rfl]
    · rw [if_neg fun q => nd.1 (by rw [q]; exact List.mem_map_of_mem z)]
      exact get_self nd.2 e z
theorem eqD_self {κ α : Type} [DecidableEq κ] {d : Dct κ α} (h : (d.es.map (·.1)).Nodup) : EqD d d := ⟨rfl, get_self h⟩
/-- the keys with a negative demand, and the first of them -/
theorem sort_filter (p : Str → Bool) (xs : List Str) : sortStr (xs.filter p) = (sortStr xs).filter p :=
  (sortStr_is ((sortStr_perm xs).filter p) ((sortStr_up xs).filter p)).symm
theorem first_neg {d : Dct Str Int} (h : ∃ nm ∈ keysD d, demD d nm < 0) : ∃ nm, firstNeg d = some nm ∧ nm ∈ keysD d ∧ ∃ rest, sortStr ((keysD d).filter fun nm => decide (demD d nm < 0)) = nm :: rest := by
  obtain ⟨n0, h1, h2⟩ := h
  have hs : (firstNeg d).isSome = true := by
    unfold firstNeg
    rw [List.find?_isSome]
    exact ⟨n0, sortStr_mem.mpr h1, decide_eq_true h2⟩
  obtain ⟨nm, hnm⟩ := Option.isSome_iff_exists.mp hs
  refine ⟨nm, hnm, ?_, ?_⟩
  · unfold firstNeg at hnm
    exact sortStr_mem.mp (List.mem_of_find?_eq_some hnm)
  · rw [sort_filter]
    unfold firstNeg at hnm
    rw [← List.head?_filter] at hnm
    cases e : (sortStr (keysD d)).filter fun nm => decide (demD d nm < 0) with
    | nil => rw [e] at hnm; cases hnm
    | cons a as => rw [e] at hnm; cases hnm; exact ⟨as, rfl⟩
theorem IsRec.sok {t : Str} (h : IsRec t) : SOk t := ⟨by have := h.hi; rw [Str.len_toList] at this; omega, fun c hc => by
  have := h.sg c hc
  have k : ∀ c ∈ LET.cps.toList, c < 1114112 := by decide +kernel
  exact k c this⟩

theorem spare_is (sh : Sheaf) (X : List Int) (hs : sh.rows.items.length ≤ 16777216) : m_spare_values (sh, X, ()) = .ok (spareL (sh.rows.items.map (·.1)) X) := by
  unfold m_spare_values
  simp only [Rs.bo]
  rw [sheaf_rows]
  simp only [Rs.bo]
  rw [Rng_nat hs]
  simp only [Rs.bo]
  rw [if_pos (by rw [rng0_len]; exact hs)]
  rw [Wm.comp_filter (p := fun k => !decide (k ∈ X)) (t := fun k => m_spare_values_t1 (k, sh.rows.items, X, ())) (f := fun k => m_spare_values_e2 (k, sh.rows.items, X, ())) (g := fun k => (sh.rows.items.map (·.1)).getD k.toNat 0) (fun _ _ => rfl) (fun k hk _ => by
    rw [mem_rng] at hk
    show m_spare_values_e2 (k, sh.rows.items, X, ()) = _
    obtain ⟨a, e, h⟩ := getI_ex hk.1 hk.2
    unfold m_spare_values_e2
    simp only [Rs.bo, h]
    rw [List.getD_eq_getElem?_getD, List.getElem?_map, e]
    rfl)]
  unfold spareL
  rw [List.length_map]

theorem count_ns_is {s : List Int} (hs : s.length ≤ 16777216) (x : Int) : m_count_no_sharper (s, x, ()) = .ok (atmost s x) := by
  simp (disch := first | omega | (simp only [List.length_map]; omega)) only [Rs.bo, Rs.okl, comp_okk, comp_oki, comp_okt, comp_okid, filter_tt, if_pos, decide_eq_true_eq, decide_true, decide_false, if_true, Bool.false_eq_true, if_false, left_okl, left_okr, nox_ok, catI_ok, appI_ok, Rng_ok, RngL_ok, CMul_l, CDiv_of, theI_some, Bool.not_true, Bool.not_false, getI_0, getI_1, List.length_map, m_count_no_sharper, m_count_no_sharper_t1, m_count_no_sharper_e2]
  rfl
/-! ### the first reason against demands -/
def lvR (rows : List (Int × Str)) : List Int := rows.map (·.1)
def sumD (d : Dct Str Int) : Int := ((keysD d).map (demD d)).sum
def ownR (rs : List (Int × Str)) (nm : Str) (e w : Int) : Int := ((rs.filter fun r => decide (r.2 = nm)).map fun r => capE w r.1 e).sum
/-- how many spare sheets are no sharper than h -/
def spareN (rs : List (Int × Str)) (as : List Int) (h : Int) : Int := (((rng 0 (rs.length : Int)).filter fun k => !decide (k ∈ as) && decide (lv0 rs k ≤ h)).length : Int)
abbrev Rsn := Tup (Int ⊕ Str)
def rTotal (n : Int) : Rsn := ⟨[.inr "total", .inl n]⟩
def rReach (n : Int) : Rsn := ⟨[.inr "reach", .inl n]⟩
def rRecord (nm : Str) (n : Int) : Rsn := ⟨[.inr "record", .inr nm, .inl n]⟩
def rHeight (h n : Int) : Rsn := ⟨[.inr "height", .inl h, .inl n]⟩
def lackOf (rs : List (Int × Str)) (as : List Int) (e t : Int) : Option Int := (rng e t).find? fun h => decide (spareN rs as h < h + 1 - e)
def lowRec (rs : List (Int × Str)) (e w : Int) (d : Dct Str Int) : Option Str := (sortStr (keysD d)).find? fun nm => decide (ownR rs nm e w < demD d nm)
/-- the first reason; t: the top -/
def troubleOf (rs : List (Int × Str)) (e w t : Int) (d : Dct Str Int) : Option Rsn :=
  if (rs.length : Int) < sumD d then some (rTotal (sumD d))
  else if reachE w (lvR rs) e < rs.length then some (rReach (reachE w (lvR rs) e))
  else match lowRec rs e w d with
    | some nm => some (rRecord nm (ownR rs nm e w))
    | none => match lackOf rs (asideOf rs e w d) e t with
      | some h => some (rHeight h (spareN rs (asideOf rs e w d) h))
      | none => none
theorem sum_comp {d : Dct Str Int} (hd : (keysD d).length < 64) {f : Str → Rs Int} (hf : ∀ nm ∈ keysD d, f nm = .ok (demD d nm)) : (if (d.es.map (·.1)).length ≤ 16777216 then Rs.comp (fun _ => Rs.ok true) f (d.es.map (·.1)) else Rs.no) = .ok ((keysD d).map (demD d)) := by
  rw [if_pos (by show (keysD d).length ≤ _; omega)]
  exact Wm.comp_map (fun _ _ => rfl) hf
theorem own_comp {rs : List (Int × Str)} {nm : Str} {e w : Int} {t : Int × Str → Rs Bool} {f : Int × Str → Rs Int} (hr : rs.length ≤ 16777216) (ht : ∀ r ∈ rs, t r = .ok (decide (r.2 = nm))) (hf : ∀ r ∈ rs, f r = .ok (capE w r.1 e)) :
    ((if rs.length ≤ 16777216 then Rs.comp t f rs else Rs.no).bind fun x => .ok x.sum) = .ok (ownR rs nm e w) := by
  rw [if_pos hr, comp_on (fun r : Int × Str => decide (r.2 = nm)) (fun r => capE w r.1 e) fun r h => ⟨ht r h, fun _ => hf r h⟩]
  rfl
theorem spare_count (rs : List (Int × Str)) (as : List Int) (h : Int) : atmost (spareL (lvR rs) as) h = spareN rs as h := by
  unfold atmost spareL spareN lvR
  rw [List.length_map, List.filter_map, List.length_map, List.filter_filter]
  congr 2
  apply List.filter_congr
  intro k hk
  obtain ⟨h0, h1⟩ := mem_rng.mp hk
  obtain ⟨r, -, -, q, l⟩ := rw_at h0 h1
  have e : (rs.map (·.1)).getD k.toNat 0 = lv0 rs k := by rw [List.getD_eq_getElem?_getD, List.getElem?_map, q, Option.map_some, Option.getD_some, l]
  show (decide ((rs.map (·.1)).getD k.toNat 0 ≤ h) && !decide (k ∈ as)) = _
  rw [e, Bool.and_comm]
theorem record_reach_is {rs : List (Int × Str)} {nm : Str} {e w : Int} (w0 : 1 ≤ w) (w1 : w ≤ 6) (hl : rs.length ≤ 1000) (h : ∀ r ∈ rs, r.1 - e ≤ 10000) : m_record_reach (⟨⟨rs⟩⟩, nm, e, w, ()) = .ok (ownR rs nm e w) := by
  unfold m_record_reach
  simp only [Rs.bo, m_Sheaf_rows]
  exact own_comp (nm := nm) (e := e) (w := w) (by omega) (fun r _ => rfl) fun r hr => by
    show m_record_reach_e2 (r, nm, e, w, ()) = _
    unfold m_record_reach_e2
    simp only [Rs.bo]
    exact cap_is w0 w1 (h r hr)

theorem len_is {rs : List (Int × Str)} (hl : rs.length ≤ 1000) : (Rs.nox (m_Sheaf_len (⟨⟨rs⟩⟩, ()))).bind (fun i => if 0 ≤ i ∧ i < 4611686018427387904 then .ok i else Rs.no) = .ok (rs.length : Int) := by
  show (Rs.ok (rs.length : Int)).bind _ = _
  simp only [Rs.bo]
  rw [if_pos (by omega)]

theorem first_lack_is {rs : List (Int × Str)} {as : List Int} {e t : Int} (hl : rs.length ≤ 1000) (ht : maxI (lvR rs) = .ok t) (he : -1000000 ≤ e ∧ e ≤ 1000000) (hb : -1000000 ≤ t ∧ t ≤ 1000000) : m_first_lack (lvR rs, e, spareL (lvR rs) as, ()) = .ok ((lackOf rs as e t).map fun h => (h, spareN rs as h)) := by
  unfold m_first_lack
  simp only [Rs.bo, ht]
  rw [Rng_ok (by omega) (by omega) (by omega) (by omega)]
  simp only [Rs.bo]
  have hsl := spareL_len (lvR rs) as
  have hsl2 : (lvR rs).length = rs.length := List.length_map _
  have step : ∀ h : Int, m_first_lack_l1 (h, lvR rs, e, spareL (lvR rs) as, ()) = .ok (if decide (spareN rs as h < h + 1 - e) = true then .inr (some (h, spareN rs as h)) else .inl (lvR rs, e, spareL (lvR rs) as, ())) := fun h => by
    unfold m_first_lack_l1
    simp only [Rs.bo]
    rw [count_ns_is (by omega), spare_count]
    simp only [Rs.bo]
    split <;> rfl
  rw [foldR_find (f := fun (γ : Ctx.T [.bo 0 (List Int), .fz 1 Int, .bo 2 (List Int)]) x => m_first_lack_l1 (x, γ)) (g := (lvR rs, e, spareL (lvR rs) as, ())) (p := fun h => decide (spareN rs as h < h + 1 - e)) (r := fun h => some (h, spareN rs as h)) (fun h _ hp => by
      show m_first_lack_l1 (h, lvR rs, e, spareL (lvR rs) as, ()) = _
      rw [step, if_pos hp]) fun h _ hp => by
      show m_first_lack_l1 (h, lvR rs, e, spareL (lvR rs) as, ()) = _
      rw [step, if_neg (by rw [hp]; decide)]]
  unfold lackOf
  cases (rng e t).find? fun h => decide (spareN rs as h < h + 1 - e) <;> rfl
theorem trouble_is {rs : List (Int × Str)} {e w t : Int} {d : Dct Str Int} (w0 : 1 ≤ w) (w1 : w ≤ 6) (hl : rs.length ≤ 1000) (hlev : ∀ r ∈ rs, r.1 - e ≤ 10000) (ht : maxI (lvR rs) = .ok t) (he : -1000000 ≤ e ∧ e ≤ 1000000) (hb : -1000000 ≤ t ∧ t ≤ 1000000) (hd : (keysD d).length < 64) (hn : ∀ nm ∈ keysD d, nm.length ≤ 1000 ∧ 0 ≤ demD d nm) :
    m_trouble (⟨⟨rs⟩⟩, e, ⟨d⟩, w, ()) = .ok (troubleOf rs e w t d) := by
  unfold m_trouble m_trouble_k2
  simp only [Rs.bo]
  rw [check_ok hd hn]
  simp only [Rs.bo]
  rw [sum_comp (d := d) hd (f := fun x => m_trouble_e1 (x, (⟨d⟩ : LV Str Int), ())) fun nm h => by
    show m_trouble_e1 (nm, (⟨d⟩ : LV Str Int), ()) = _
    unfold m_trouble_e1
    simp only [Rs.bo]
    exact dem_at h]
  simp only [nox_ok, Rs.bo]
  rw [len_is hl]
  simp only [Rs.bo]
  rw [show ((keysD d).map (demD d)).sum = sumD d from rfl]
  unfold troubleOf
  by_cases c1 : (rs.length : Int) < sumD d
  · rw [decide_eq_true c1, if_pos rfl, if_pos c1]; rfl
  rw [decide_eq_false c1, if_neg (by decide), if_neg c1]
  rw [show m_reach (⟨⟨rs⟩⟩, e, w, ()) = .ok (reachE w (lvR rs) e) from reach_is w0 w1 hl hlev]
  simp only [Rs.bo]
  rw [len_is hl]
  simp only [Rs.bo]
  by_cases c2 : reachE w (lvR rs) e < rs.length
  · rw [decide_eq_true c2, if_pos rfl, if_pos c2]; rfl
  rw [decide_eq_false c2, if_neg (by decide), if_neg c2]
  rw [show sortS (d.es.map (·.1)) = .ok (sortStr (keysD d)) from if_pos hd]
  simp only [Rs.bo, Rs.okl]
  have step : ∀ nm ∈ keysD d, ∀ x : Int, m_trouble_l3 (nm, x, ⟨⟨rs⟩⟩, e, ⟨d⟩, w, ()) = .ok (if decide (ownR rs nm e w < demD d nm) = true then .inr (some (rRecord nm (ownR rs nm e w))) else .inl (ownR rs nm e w, ⟨⟨rs⟩⟩, e, ⟨d⟩, w, ())) := fun nm h x => by
    unfold m_trouble_l3
    simp only [Rs.bo]
    rw [record_reach_is w0 w1 hl hlev]
    simp only [Rs.bo, dem_at h]
    split <;> rfl
  have fold : ∀ (nms : List Str) (x : Int), (∀ nm ∈ nms, nm ∈ keysD d) → ∃ y, Rs.foldR (fun (γ : Ctx.T [.fz 5 Int, .bo 0 Sheaf, .fz 1 Int, .bo 2 (DV Str Int), .fz 3 Int]) x => m_trouble_l3 (x, γ)) (x, ⟨⟨rs⟩⟩, e, ⟨d⟩, w, ()) nms = .ok (match nms.find? fun nm => decide (ownR rs nm e w < demD d nm) with | some nm => .inr (some (rRecord nm (ownR rs nm e w))) | none => .inl (y, ⟨⟨rs⟩⟩, e, ⟨d⟩, w, ())) := by
    intro nms
    induction nms with
    | nil => exact fun x _ => ⟨x, rfl⟩
    | cons nm nms ih =>
      intro x hx
      simp only [Rs.foldR]
      rw [step nm (hx nm List.mem_cons_self) x]
      by_cases c : ownR rs nm e w < demD d nm
      · rw [if_pos (decide_eq_true c), List.find?_cons_of_pos (p := fun nm => decide (ownR rs nm e w < demD d nm)) (decide_eq_true c)]
        exact ⟨0, rfl⟩
      · rw [if_neg (by rw [decide_eq_false c]; decide), List.find?_cons_of_neg (p := fun nm => decide (ownR rs nm e w < demD d nm)) (by rw [decide_eq_false c]; decide)]
        obtain ⟨y, hy⟩ := ih (ownR rs nm e w) fun z hz => hx z (List.mem_cons_of_mem _ hz)
        exact ⟨y, hy⟩
  obtain ⟨y, hy⟩ := fold (sortStr (keysD d)) (reachE w (lvR rs) e) fun nm h => sortStr_mem.mp h
  rw [hy]
  unfold lowRec
  cases (sortStr (keysD d)).find? fun nm => decide (ownR rs nm e w < demD d nm) with
  | some nm => rw [left_okr]
  | none =>
    rw [left_okl]
    unfold m_trouble_b5
    simp only [Rs.bo]
    rw [set_aside_is w0 (by omega) hl hd hn]
    simp only [Rs.bo]
    rw [spare_is _ _ (by show rs.length ≤ _; omega)]
    simp only [Rs.bo, m_Sheaf_rows, Rs.okl]
    rw [if_pos (show rs.length ≤ 16777216 by omega), show Rs.comp (fun _ => Rs.ok true) (fun x => m_trouble_e4 (x, ())) rs = .ok (lvR rs) from Wm.comp_map (fun _ _ => rfl) fun _ _ => rfl]
    simp only [Rs.bo]
    rw [show m_first_lack (lvR rs, e, spareL (rs.map (·.1)) (asideOf rs e w d), ()) = _ from first_lack_is hl ht he hb]
    simp only [Rs.bo]
    cases lackOf rs (asideOf rs e w d) e t <;> rfl
theorem trouble_bad {rs : List (Int × Str)} {e w : Int} {d : Dct Str Int} (hd : (keysD d).length < 64) (hn : ∀ nm ∈ keysD d, nm.length ≤ 1000) {nm : Str} (hf : firstNeg d = some nm) : m_trouble (⟨⟨rs⟩⟩, e, ⟨d⟩, w, ()) = .ex (exStr "InvalidDemands" "record" nm) := by
  unfold m_trouble
  simp only [Rs.bo]
  rw [check_bad hd hn hf]
  rfl

theorem can_meet_is {rs : List (Int × Str)} {e w : Int} {d : Dct Str Int} {r : Option Rsn} (h : m_trouble (⟨⟨rs⟩⟩, e, ⟨d⟩, w, ()) = .ok r) : m_can_meet (⟨⟨rs⟩⟩, e, ⟨d⟩, w, ()) = .ok r.isNone := by
  unfold m_can_meet
  simp only [Rs.bo]
  rw [h]
  rfl
theorem can_meet_bad {rs : List (Int × Str)} {e w : Int} {d : Dct Str Int} {x : Exc} (h : m_trouble (⟨⟨rs⟩⟩, e, ⟨d⟩, w, ()) = .ex x) : m_can_meet (⟨⟨rs⟩⟩, e, ⟨d⟩, w, ()) = .ex x := by
  unfold m_can_meet
  simp only [Rs.bo]
  rw [h]
  rfl

/-! ### deeds -/
def lvl (rs : List (Int × Str)) (k : Int) : Int := ((rs[k.toNat]?).map (·.1)).getD 0
theorem row_at {rs : List (Int × Str)} {k : Int} (h0 : 0 ≤ k) (h1 : k < rs.length) : ∃ r, getI rs k = .ok r ∧ r ∈ rs ∧ r.1 = lvl rs k ∧ rs[k.toNat]? = some r := by
  obtain ⟨r, e, hm, hk⟩ := getI_mem h0 h1
  exact ⟨r, e, hm, by unfold lvl; rw [hk]; rfl, hk⟩
def Asc (ts : List Int) : Prop := ∀ i : Nat, i + 1 < ts.length → ts.getD i 0 < ts.getD (i + 1) 0
structure Fit (rs : List (Int × Str)) (s : Int) (ts : List Int) (w : Int) : Prop where
  s0 : 0 ≤ s
  s1 : s < rs.length
  t1 : 1 ≤ ts.length
  tw : (ts.length : Int) ≤ w
  tin : ∀ t ∈ ts, 0 ≤ t ∧ t < rs.length
  asc : Asc ts
  low : ∀ t ∈ ts, lvl rs t < lvl rs s
theorem Fit.out {rs : List (Int × Str)} {s : Int} {ts : List Int} {w : Int} (h : Fit rs s ts w) : s ∉ ts := fun z => by
  have := h.low s z
  omega
/-- the rows after a deed -/
def mvd (r : Int × Str) (ys : List (Int × Str)) (k : Int) : List (Int × Str) := ys.set k.toNat (r.1 - 1, r.2)
theorem mvd_len (r : Int × Str) : ∀ (xs : List Int) (ys : List (Int × Str)), (xs.foldl (mvd r) ys).length = ys.length
  | [], _ => rfl
  | x :: xs, ys => by
    rw [List.foldl_cons, mvd_len r xs]
    exact List.length_set
theorem mvd_mem (r : Int × Str) : ∀ (xs : List Int) (ys : List (Int × Str)) (z : Int × Str), z ∈ xs.foldl (mvd r) ys → z ∈ ys ∨ z = (r.1 - 1, r.2)
  | [], _, _, h => .inl h
  | x :: xs, ys, z, h => by
    rcases mvd_mem r xs _ z h with e | e
    · rcases List.mem_or_eq_of_mem_set e with q | q
      · exact .inl q
      · exact .inr q
    · exact .inr e

theorem law_moved_fold {rs : List (Int × Str)} {s : Int} {ts : List Int} {r : Int × Str} (er : getI rs s = .ok r) : ∀ (xs : List Int) (ys : List (Int × Str)), (∀ x ∈ xs, 0 ≤ x ∧ x < ys.length) →
    Rs.fold (fun (γ : Ctx.T [.ow 3 (List (Int × Str)), .bo 0 (List (Int × Str)), .fz 1 Int, .bo 2 (List Int)]) x => m_law_moved_l1 (x, γ)) (ys, rs, s, ts, ()) xs = .ok (xs.foldl (mvd r) ys, rs, s, ts, ())
  | [], _, _ => rfl
  | x :: xs, ys, h => by
    have e : m_law_moved_l1 (x, ys, rs, s, ts, ()) = .ok (mvd r ys x, rs, s, ts, ()) := by
      unfold m_law_moved_l1
      simp only [Rs.bo]
      rw [er]
      simp only [Rs.bo]
      rw [setI_in (h x List.mem_cons_self).1 (h x List.mem_cons_self).2]
      rfl
    show Rs.bind (m_law_moved_l1 (x, ys, rs, s, ts, ())) _ = _
    rw [e]
    exact law_moved_fold er xs _ fun y hy => by
      rw [show (mvd r ys x).length = ys.length from List.length_set]
      exact h y (List.mem_cons_of_mem _ hy)
theorem law_moved_ok {rs : List (Int × Str)} {s : Int} {ts : List Int} {r : Int × Str} (hs : 0 ≤ s ∧ s < rs.length) (er : getI rs s = .ok r) (hin : ∀ t ∈ ts, 0 ≤ t ∧ t < rs.length) (hl : ts.length ≤ 1000) : m_law_moved (rs, s, ts, ()) = .ok ((s :: ts).foldl (mvd r) rs) := by
  unfold m_law_moved
  simp only [Rs.bo, Rs.okl]
  rw [catI_ok (by simp; omega)]
  simp only [Rs.bo, Rs.okl, List.cons_append, List.nil_append]
  rw [law_moved_fold er (s :: ts) rs fun x hx => by
    rcases List.mem_cons.mp hx with e | e
    · rw [e]; exact hs
    · exact hin x e]
  rfl

theorem law_moved2_fold {rs : List (Int × Str)} {s : Int} {ts : List Int} {r : Int × Str} (er : getI rs s = .ok r) : ∀ (xs : List Int) (ys : List (Int × Str)), (∀ x ∈ xs, 0 ≤ x ∧ x < ys.length) →
    Rs.fold (fun (γ : Ctx.T [.ow 3 (List (Int × Str)), .bo 0 (List (Int × Str)), .fz 1 Int, .fz 2 (Tup Int)]) x => m_law_moved_v2_l1 (x, γ)) (ys, rs, s, ⟨ts⟩, ()) xs = .ok (xs.foldl (mvd r) ys, rs, s, ⟨ts⟩, ())
  | [], _, _ => rfl
  | x :: xs, ys, h => by
    have e : m_law_moved_v2_l1 (x, ys, rs, s, ⟨ts⟩, ()) = .ok (mvd r ys x, rs, s, ⟨ts⟩, ()) := by
      unfold m_law_moved_v2_l1
      simp only [Rs.bo]
      rw [er]
      simp only [Rs.bo]
      rw [setI_in (h x List.mem_cons_self).1 (h x List.mem_cons_self).2]
      rfl
    show Rs.bind (m_law_moved_v2_l1 (x, ys, rs, s, ⟨ts⟩, ())) _ = _
    rw [e]
    exact law_moved2_fold er xs _ fun y hy => by
      rw [show (mvd r ys x).length = ys.length from List.length_set]
      exact h y (List.mem_cons_of_mem _ hy)
theorem law_moved2_ok {rs : List (Int × Str)} {s : Int} {ts : List Int} {r : Int × Str} (hs : 0 ≤ s ∧ s < rs.length) (er : getI rs s = .ok r) (hin : ∀ t ∈ ts, 0 ≤ t ∧ t < rs.length) (hl : ts.length ≤ 1000) : m_law_moved_v2 (rs, s, ⟨ts⟩, ()) = .ok ((s :: ts).foldl (mvd r) rs) := by
  unfold m_law_moved_v2
  simp only [Rs.bo, Rs.okl]
  rw [catI_ok (by simp; omega)]
  simp only [Rs.bo, Rs.okl, List.cons_append, List.nil_append]
  rw [law_moved2_fold er (s :: ts) rs fun x hx => by
    rcases List.mem_cons.mp hx with e | e
    · rw [e]; exact hs
    · exact hin x e]
  rfl

/-! ### rounds: the plain notions -/
def rowA (rs : List (Int × Str)) (k : Int) : Int × Str := (rs[k.toNat]?).getD (0, (⟨#[]⟩ : Str))
theorem rowA_get {rs : List (Int × Str)} {k : Int} (h0 : 0 ≤ k) (h1 : k < rs.length) : getI rs k = .ok (rowA rs k) := by
  obtain ⟨r, e, -, hk⟩ := getI_mem h0 h1
  unfold rowA
  rw [hk]
  exact e
theorem rowA_lvl {rs : List (Int × Str)} {k : Int} (h0 : 0 ≤ k) (h1 : k < rs.length) : (rowA rs k).1 = lvl rs k := by
  obtain ⟨r, e, -, hk⟩ := getI_mem h0 h1
  unfold rowA lvl
  rw [hk]
  rfl
theorem rowA_mem {rs : List (Int × Str)} {k : Int} (h0 : 0 ≤ k) (h1 : k < rs.length) : rowA rs k ∈ rs := by
  obtain ⟨r, e, hm, hk⟩ := getI_mem h0 h1
  unfold rowA
  rw [hk]
  exact hm
def idx (d : Int × Tup Int) : List Int := d.1 :: d.2.items
def used (ds : List (Int × Tup Int)) : List Int := ds.flatMap idx
def aft1 (rs ys : List (Int × Str)) (d : Int × Tup Int) : List (Int × Str) := (idx d).foldl (mvd (rowA rs d.1)) ys
def aft (rs : List (Int × Str)) (ds : List (Int × Tup Int)) : List (Int × Str) := ds.foldl (aft1 rs) rs
structure RFit (rs : List (Int × Str)) (ds : List (Int × Tup Int)) (w : Int) : Prop where
  fit : ∀ d ∈ ds, Fit rs d.1 d.2.items w
  nd : (used ds).Nodup
theorem Fit.idx {rs : List (Int × Str)} {d : Int × Tup Int} {w : Int} (h : Fit rs d.1 d.2.items w) : ∀ k ∈ idx d, 0 ≤ k ∧ k < rs.length := fun k hk => by
  rcases List.mem_cons.mp hk with e | e
  · rw [e]; exact ⟨h.s0, h.s1⟩
  · exact h.tin k e
theorem aft1_len (rs ys : List (Int × Str)) (d : Int × Tup Int) : (aft1 rs ys d).length = ys.length := mvd_len _ _ _
theorem aftf_len (rs : List (Int × Str)) : ∀ (ds : List (Int × Tup Int)) (ys : List (Int × Str)), (ds.foldl (aft1 rs) ys).length = ys.length
  | [], _ => rfl
  | d :: ds, ys => by rw [List.foldl_cons, aftf_len rs ds]; exact aft1_len rs ys d
/-- a place that is not touched -/
theorem mvd_at {r : Int × Str} {k : Int} (k0 : 0 ≤ k) : ∀ (xs : List Int) (ys : List (Int × Str)), (∀ x ∈ xs, 0 ≤ x) → k ∉ xs → rowA (xs.foldl (mvd r) ys) k = rowA ys k
  | [], _, _, _ => rfl
  | x :: xs, ys, h0, hn => by
    rw [List.foldl_cons, mvd_at k0 xs _ (fun y hy => h0 y (List.mem_cons_of_mem _ hy)) fun z => hn (List.mem_cons_of_mem _ z)]
    have := h0 x List.mem_cons_self
    have : x ≠ k := fun e => hn (by rw [e]; exact List.mem_cons_self)
    unfold rowA mvd
    rw [List.getElem?_set_ne (by omega)]

/-! ### the law walks a log -/
theorem Fit.len' {rs : List (Int × Str)} {s : Int} {ts : List Int} {w : Int} (h : Fit rs s ts w) (hw : w ≤ 1000) : ts.length ≤ 1000 := by have := h.tw; omega
def play1 (rs : List (Int × Str)) (d : Int × Tup Int) : List (Int × Str) := aft1 rs rs d
def played (rs : List (Int × Str)) (log : List (Int × Tup Int)) : List (Int × Str) := log.foldl play1 rs
def Plays (w : Int) : List (Int × Str) → List (Int × Tup Int) → Prop
  | _, [] => True
  | rs, d :: log => Fit rs d.1 d.2.items w ∧ Plays w (play1 rs d) log
theorem played_snoc (rs : List (Int × Str)) (log : List (Int × Tup Int)) (d : Int × Tup Int) : played rs (log ++ [d]) = play1 (played rs log) d := by unfold played; rw [List.foldl_append]; rfl
theorem Plays.snoc {w : Int} : ∀ {log : List (Int × Tup Int)} {rs : List (Int × Str)} {d : Int × Tup Int}, Plays w rs log → Fit (played rs log) d.1 d.2.items w → Plays w rs (log ++ [d])
  | [], _, _, _, h => ⟨h, trivial⟩
  | _ :: _, _, _, h, k => ⟨h.1, Plays.snoc h.2 k⟩
theorem play1_len (rs : List (Int × Str)) (d : Int × Tup Int) : (play1 rs d).length = rs.length := aft1_len rs rs d
theorem played_len : ∀ (log : List (Int × Tup Int)) (rs : List (Int × Str)), (played rs log).length = rs.length
  | [], _ => rfl
  | d :: log, rs => (played_len log (play1 rs d)).trans (play1_len rs d)
theorem play1_mem {rs : List (Int × Str)} {d : Int × Tup Int} {w : Int} (h : Fit rs d.1 d.2.items w) {z : Int × Str} (hz : z ∈ play1 rs d) : z ∈ rs ∨ ∃ r ∈ rs, r.1 = lvl rs d.1 ∧ z = (r.1 - 1, r.2) := by
  rcases mvd_mem _ _ _ _ hz with e | e
  · exact .inl e
  · exact .inr ⟨_, rowA_mem h.s0 h.s1, rowA_lvl h.s0 h.s1, e⟩
theorem lvs_len (rows : List (Int × Str)) : (lvs rows).length = rows.length := List.length_map ..
theorem lvs_at {rows : List (Int × Str)} {k : Int} (h0 : 0 ≤ k) (h1 : k < rows.length) : (lvs rows)[k.toNat]? = some (lvl rows k) := by
  obtain ⟨r, e, -, hk⟩ := getI_mem h0 h1
  unfold lvs lvl
  rw [List.getElem?_map, hk]
  rfl
theorem lvs_mem {rows : List (Int × Str)} {x : Int} : x ∈ lvs rows ↔ ∃ k : Int, 0 ≤ k ∧ k < rows.length ∧ lvl rows k = x := by
  constructor
  · intro h
    obtain ⟨i, hi⟩ := List.mem_iff_getElem?.mp h
    have hl := (List.getElem?_eq_some_iff.mp hi).1
    rw [lvs_len] at hl
    have := lvs_at (rows := rows) (k := (i : Int)) (by omega) (by omega)
    rw [Int.toNat_natCast, hi] at this
    exact ⟨i, by omega, by omega, (Option.some.inj this).symm⟩
  · rintro ⟨k, h0, h1, e⟩
    have := lvs_at h0 h1
    rw [e] at this
    exact List.mem_of_getElem? this
theorem lvs_play {rs : List (Int × Str)} {i j : Int} (h : Fit rs i [j] 1) : lvs (play1 rs (i, ⟨[j]⟩)) = ((lvs rs).set i.toNat (lvl rs i - 1)).set j.toNat (lvl rs i - 1) := by
  unfold lvs play1 aft1 idx
  simp only [List.foldl_cons, List.foldl_nil, mvd, List.map_set]
  rw [rowA_lvl h.s0 h.s1]
def Ei {γ ρ : Type} (I : γ → Prop) (P : ρ → Prop) : γ ⊕ ρ → Prop
  | .inl g => I g
  | .inr r => P r
theorem foldR_post {γ ρ α : Type} {f : γ → α → Rs (γ ⊕ ρ)} (I : γ → Prop) (P : ρ → Prop) : ∀ {xs : List α} {g : γ}, I g → (∀ x ∈ xs, ∀ g, I g → ∃ z, f g x = .ok z ∧ Ei I P z) → ∃ z, Rs.foldR f g xs = .ok z ∧ Ei I P z
  | [], g, h, _ => ⟨.inl g, rfl, h⟩
  | x :: xs, g, h, hs => by
    obtain ⟨z, e, hz⟩ := hs x List.mem_cons_self g h
    cases z with
    | inl g' =>
      obtain ⟨z2, e2, hz2⟩ := foldR_post I P (xs := xs) (g := g') hz fun y hy => hs y (List.mem_cons_of_mem _ hy)
      refine ⟨z2, ?_, hz2⟩
      show (f g x).bind _ = _
      rw [e]
      exact e2
    | inr r =>
      refine ⟨.inr r, ?_, hz⟩
      show (f g x).bind _ = _
      rw [e]
      rfl

def EiN {γ ρ : Type} (I : γ → Prop) (P : ρ → Prop) : γ ⊕ ρ → Prop
  | .inl g => I g
  | .inr r => P r
theorem foldR_postN {γ ρ α : Type} {f : γ → α → Rs (γ ⊕ ρ)} (I : Nat → γ → Prop) (P : ρ → Prop) : ∀ {xs : List α} (i : Nat) {g : γ}, I i g → (∀ j x g, xs[j]? = some x → I (i + j) g → ∃ z, f g x = .ok z ∧ EiN (I (i + j + 1)) P z) → ∃ z, Rs.foldR f g xs = .ok z ∧ EiN (I (i + xs.length)) P z
  | [], _, g, h, _ => ⟨.inl g, rfl, h⟩
  | x :: xs, i, g, h, hs => by
    obtain ⟨z, e, hz⟩ := hs 0 x g rfl h
    cases z with
    | inl g' =>
      obtain ⟨z2, e2, hz2⟩ := foldR_postN I P (xs := xs) (i + 1) (g := g') hz fun j y g hy hg => by
        have := hs (j + 1) y g (by simpa using hy) (by rw [show i + (j + 1) = i + 1 + j by omega]; exact hg)
        rw [show i + (j + 1) = i + 1 + j by omega] at this
        exact this
      refine ⟨z2, ?_, by rw [show i + (x :: xs).length = i + 1 + xs.length by rw [List.length_cons]; omega]; exact hz2⟩
      show (f g x).bind _ = _
      rw [e]
      exact e2
    | inr r =>
      refine ⟨.inr r, ?_, hz⟩
      show (f g x).bind _ = _
      rw [e]
      rfl

/-! ### the drawn deeds are allowed -/
theorem Asc.of {ts : List Int} (h : ts.Pairwise (· < ·)) : Asc ts := fun i hi => by
  rw [List.getD_eq_getElem?_getD, List.getD_eq_getElem?_getD, List.getElem?_eq_getElem (by omega), List.getElem?_eq_getElem hi]
  exact List.pairwise_iff_getElem.mp h i (i + 1) (by omega) hi (by omega)
theorem rng_pw (lo hi : Int) : (rng lo hi).Pairwise (· < ·) := by
  unfold rng
  rw [List.pairwise_map]
  exact List.pairwise_lt_range.imp fun h => by omega
theorem rng_getD (un : List Int) : (rng 0 (un.length : Int)).map (fun x => un.getD x.toNat 0) = un := by
  apply List.ext_getElem?
  intro i
  rw [List.getElem?_map]
  by_cases h : i < un.length
  · rw [rng_at (by omega), List.getElem?_eq_getElem h, Option.map_some, Int.zero_add, Int.toNat_natCast, List.getD_eq_getElem?_getD, List.getElem?_eq_getElem h]
    rfl
  · rw [List.getElem?_eq_none (by rw [rng0_len]; omega), List.getElem?_eq_none (by omega)]
    rfl
abbrev WG (w : Int) (rs0 : List (Int × Str)) (log : List (Int × Tup Int)) : Prop := Plays w rs0 log ∧ log.length ≤ 100
theorem wild_step {rs0 : List (Int × Str)} {log : List (Int × Tup Int)} {cells : List Int} {cell w m : Int} {n : Nat} (hm : m ≤ 12) (hn0 : rs0.length = n) (h1 : 1 ≤ n) (h2 : n ≤ 60) (hw : 1 ≤ w ∧ w ≤ 6) (hg : WG w rs0 log) :
    ∃ z, m_law_wild_log_l9 (cell, log, played rs0 log, cells, w, m, ()) = .ok z ∧ Ei (fun γ : List (Int × Tup Int) × List (Int × Str) × List Int × Int × Int × Unit => ∃ (log : List (Int × Tup Int)), γ = (log, played rs0 log, cells, w, m, ()) ∧ WG w rs0 log) (fun log : List (Int × Tup Int) => WG w rs0 log) z := by
  have hn : (played rs0 log).length = n := by rw [played_len]; exact hn0
  have hps : ∀ d, played rs0 (log ++ [d]) = play1 (played rs0 log) d := fun d => played_snoc rs0 log d
  have hpl : ∀ d, Fit (played rs0 log) d.1 d.2.items w → Plays w rs0 (log ++ [d]) := fun d h => hg.1.snoc h
  revert hn hps hpl
  generalize played rs0 log = rs
  intro hn hps hpl
  obtain ⟨ds, hds, hD⟩ := draws_ok cell ([64, 3] ++ List.replicate n 2) (by
    intro s hs
    rcases List.mem_append.mp hs with e | e
    · simp only [List.mem_cons, List.not_mem_nil, or_false] at e; omega
    · rw [(List.mem_replicate.mp e).2]; omega) (by simp; omega)
  obtain ⟨d0, g0, l0, u0⟩ := Drawn.g hD 0 (by decide) rfl
  obtain ⟨d1, g1, l1, u1⟩ := Drawn.g hD 1 (by decide) rfl
  have hdl : ds.length = 2 + n := by rw [hD.len]; simp; omega
  unfold m_law_wild_log_l9
  simp only [Rs.bo, Rs.okl]
  rw [hn, repI_one (by omega) (by omega)]
  simp only [Rs.bo]
  rw [catI_ok (by simp; omega)]
  simp only [Rs.bo, Int.toNat_natCast]
  rw [hds]
  simp only [Rs.bo, hn]
  obtain ⟨so, eso, lso, hso⟩ := comp_rng (n := (n : Int)) (by omega) (by omega) (t := fun x => m_law_wild_log_t3 (x, rs, ())) (f := fun x => m_law_wild_log_e4 (x, rs, ())) (fun y => (0 ≤ y ∧ y < (n : Int)) ∧ ∃ r ∈ rs, r.1 < lvl rs y) (fun x x0 x1 => by
    obtain ⟨r1, e1, -, k1, -⟩ := row_at (rs := rs) (k := x) x0 (by omega)
    have hc : Rs.comp (fun y => m_law_wild_log_t1 (y, x, rs, ())) (fun y => m_law_wild_log_e2 (y, x, rs, ())) rs = .ok ((rs.filter fun r => decide (r.1 < lvl rs x)).map fun r => r) := by
      refine comp_filter (fun r hr => ?_) fun _ _ _ => rfl
      unfold m_law_wild_log_t1
      simp only [Rs.bo]
      rw [e1]
      simp only [Rs.bo]
      rw [k1]
    refine ⟨decide ((0 : Int) < ((rs.filter fun r => decide (r.1 < lvl rs x)).length : Int)), ?_, fun hb => ⟨x, rfl, ⟨x0, x1⟩, ?_⟩⟩
    · unfold m_law_wild_log_t3
      simp only [Rs.bo, Rs.okl]
      rw [if_pos (show rs.length ≤ 16777216 by omega), show Rs.comp (fun y => m_law_wild_log_t1 (y, x, rs, ())) (fun y => m_law_wild_log_e2 (y, x, rs, ())) rs = _ from hc, List.map_id']
      rfl
    · have := of_decide_eq_true hb
      cases hf : rs.filter fun r => decide (r.1 < lvl rs x) with
      | nil => rw [hf] at this; simp at this
      | cons r l =>
        have hm : r ∈ rs.filter fun r => decide (r.1 < lvl rs x) := by rw [hf]; exact List.mem_cons_self
        have := List.mem_filter.mp hm
        exact ⟨r, this.1, of_decide_eq_true this.2⟩)
  rw [eso]
  simp only [Rs.bo]
  by_cases hstop : (so.length : Int) = 0 ∨ m ≤ log.length
  · have hb : (if decide ((so.length : Int) = 0) = true then Rs.ok true else Rs.ok (decide (m ≤ (log.length : Int)))) = Rs.ok true := by
      by_cases q : (so.length : Int) = 0
      · rw [dtrue q]; rfl
      · rw [decide_eq_false q, dtrue (show m ≤ (log.length : Int) from hstop.resolve_left q)]; rfl
    rw [hb]
    exact ⟨_, rfl, hg⟩
  have hb : (if decide ((so.length : Int) = 0) = true then Rs.ok true else Rs.ok (decide (m ≤ (log.length : Int)))) = Rs.ok false := by
    rw [decide_eq_false (fun z => hstop (.inl z)), decide_eq_false (fun z => hstop (.inr z))]; rfl
  rw [hb]
  simp only [Rs.bo, Bool.false_eq_true, if_false, g0]
  have hs0 : ¬ (so.length : Int) = 0 := fun z => hstop (.inl z)
  have hl0 : ¬ m ≤ log.length := fun z => hstop (.inr z)
  have q1 := Int.emod_nonneg d0 hs0
  have q2 := Int.emod_lt_of_pos d0 (show (0 : Int) < so.length by omega)
  rw [if_pos (show (0 : Int) < (so.length : Int) by omega)]
  obtain ⟨s, es, hsm, -⟩ := getI_mem (xs := so) (k := d0 % (so.length : Int)) (by omega) (by omega)
  obtain ⟨hs, rr, hrr, hlt⟩ := hso s hsm
  obtain ⟨r2, e2, -, k2, -⟩ := row_at (rs := rs) (k := s) hs.1 (by omega)
  simp only [Rs.bo, es, hn]
  have hu : Rs.comp (fun x => m_law_wild_log_t5 (x, s, rs, ())) (fun x => m_law_wild_log_e6 (x, s, rs, ())) (rng 0 (n : Int)) = .ok (((rng 0 (n : Int)).filter fun x => decide (lvl rs x < lvl rs s)).map fun x => x) := by
    refine comp_filter (fun x hx => ?_) fun _ _ _ => rfl
    have hx := mem_rng.mp hx
    obtain ⟨r1, e1, -, k1, -⟩ := row_at (rs := rs) (k := x) hx.1 (by omega)
    unfold m_law_wild_log_t5
    simp only [Rs.bo]
    rw [e1, e2]
    simp only [Rs.bo]
    rw [k1, k2]
  rw [Rng_nat (by omega)]
  simp only [Rs.bo]
  rw [if_pos (by rw [rng0_len]; omega), show Rs.comp (fun x => m_law_wild_log_t5 (x, s, rs, ())) (fun x => m_law_wild_log_e6 (x, s, rs, ())) (rng 0 (n : Int)) = _ from hu, List.map_id']
  simp only [Rs.bo]
  have hun : ∀ x ∈ (rng 0 (n : Int)).filter fun x => decide (lvl rs x < lvl rs s), 0 ≤ x ∧ x < (n : Int) := fun x hx => mem_rng.mp (List.mem_filter.mp hx).1
  have hul : ((rng 0 (n : Int)).filter fun x => decide (lvl rs x < lvl rs s)).length ≤ n := by
    have := List.length_filter_le (fun x => decide (lvl rs x < lvl rs s)) (rng 0 (n : Int))
    rw [rng0_len] at this
    exact this
  have hu1 : 1 ≤ ((rng 0 (n : Int)).filter fun x => decide (lvl rs x < lvl rs s)).length := by
    obtain ⟨i, hi⟩ := List.mem_iff_getElem?.mp hrr
    have hil := (List.getElem?_eq_some_iff.mp hi).1
    have hv : lvl rs (i : Int) = rr.1 := by unfold lvl; rw [Int.toNat_natCast, hi]; rfl
    exact List.length_pos_of_mem (a := (i : Int)) (List.mem_filter.mpr ⟨mem_rng.mpr ⟨by omega, by omega⟩, decide_eq_true (by rw [hv]; exact hlt)⟩)
  have hlow : ∀ x ∈ (rng 0 (n : Int)).filter fun x => decide (lvl rs x < lvl rs s), lvl rs x < lvl rs s := fun x hx => of_decide_eq_true (List.mem_filter.mp hx).2
  have hpw : ((rng 0 (n : Int)).filter fun x => decide (lvl rs x < lvl rs s)).Pairwise (· < ·) := (rng_pw 0 n).filter _
  revert hun hul hu1 hlow hpw
  generalize ((rng 0 (n : Int)).filter fun x => decide (lvl rs x < lvl rs s)) = un
  intro hun hul hu1 hlow hpw
  rw [Rng_nat (by omega)]
  simp only [Rs.bo]
  rw [if_pos (by rw [rng0_len]; omega)]
  have hpk : Rs.comp (fun x => m_law_wild_log_t7 (x, un, ds, ())) (fun x => m_law_wild_log_e8 (x, un, ds, ())) (rng 0 (un.length : Int)) = .ok (((rng 0 (un.length : Int)).filter fun x => decide (ds.getD (2 + x).toNat 0 = 1)).map fun x => un.getD x.toNat 0) := by
    refine comp_filter (fun x hx => ?_) fun x hx _ => ?_
    · have hx := mem_rng.mp hx
      unfold m_law_wild_log_t7
      simp only [Rs.bo]
      rw [getD_at (L := ds) (k := 2 + x) (by omega) (by omega)]
      rfl
    · have hx := mem_rng.mp hx
      show m_law_wild_log_e8 (x, un, ds, ()) = _
      unfold m_law_wild_log_e8
      simp only [Rs.bo]
      exact getD_at hx.1 hx.2
  rw [show Rs.comp (fun x => m_law_wild_log_t7 (x, un, ds, ())) (fun x => m_law_wild_log_e8 (x, un, ds, ())) (rng 0 (un.length : Int)) = _ from hpk]
  have hsub : List.Sublist (((rng 0 (un.length : Int)).filter fun x => decide (ds.getD (2 + x).toNat 0 = 1)).map fun x => un.getD x.toNat 0) un := by
    have := (List.filter_sublist (p := fun x : Int => decide (ds.getD (2 + x).toNat 0 = 1)) (l := rng 0 (un.length : Int))).map (fun x => un.getD x.toNat 0)
    rw [rng_getD] at this
    exact this
  revert hsub
  generalize (((rng 0 (un.length : Int)).filter fun x => decide (ds.getD (2 + x).toNat 0 = 1)).map fun x => un.getD x.toNat 0) = pk
  intro hsub
  simp only [Rs.bo, g1]
  rw [if_pos (CMul_l (show -1000000000000 ≤ d1 by omega) (by omega))]
  simp only [Rs.bo]
  rw [if_pos (CDiv_of (show (0 : Int) < 2 by decide) (by decide))]
  simp only [Rs.bo]
  have hq : 0 ≤ d1 * (w - 1) / 2 ∧ 1 + d1 * (w - 1) / 2 ≤ w := by
    have : d1 = 0 ∨ d1 = 1 ∨ d1 = 2 := by omega
    rcases this with rfl | rfl | rfl <;> omega
  rw [show cutI pk none (some (1 + d1 * (w - 1) / 2)) = pk.take (1 + d1 * (w - 1) / 2).toNat from cutI_take (by omega)]
  generalize d1 * (w - 1) / 2 = hv at hq
  have hts : List.Sublist (pk.take (1 + hv).toNat) un := (List.take_sublist _ _).trans hsub
  have htl : (pk.take (1 + hv).toNat).length ≤ w.toNat := by rw [List.length_take]; omega
  revert hts htl
  generalize pk.take (1 + hv).toNat = tk
  intro hts htl
  refine Rs.exb (fun γ => ∃ P : List Int, γ = (P, s, log, rs, cells, w, m, ()) ∧ List.Sublist P un ∧ 1 ≤ P.length ∧ P.length ≤ w.toNat) ?_ ?_
  · refine Rs.exi (fun _ => ?_) fun hz => ⟨_, rfl, tk, rfl, hts, by have := of_decide_eq_false hz; omega, htl⟩
    simp only [Rs.bo, g0]
    rw [if_pos (CDiv_of (show (0 : Int) < 8 by decide) (by decide))]
    simp only [Rs.bo]
    rw [if_pos (show (0 : Int) < (un.length : Int) by omega)]
    have q3 := Int.emod_nonneg (d0 / 8) (show (un.length : Int) ≠ 0 by omega)
    have q4 := Int.emod_lt_of_pos (d0 / 8) (show (0 : Int) < un.length by omega)
    obtain ⟨v, ev, hv, -⟩ := getI_mem (xs := un) (k := d0 / 8 % (un.length : Int)) (by omega) (by omega)
    simp only [Rs.bo, ev, Rs.okl]
    exact ⟨_, rfl, [v], rfl, List.singleton_sublist.mpr hv, by simp, by simp; omega⟩
  rintro _ ⟨P, rfl, hP, lP, uP⟩
  simp only [Rs.bo]
  rw [appI_ok (by have := hg.2; omega)]
  simp only [Rs.bo]
  have hin : ∀ t ∈ P, 0 ≤ t ∧ t < rs.length := fun t ht => by have := hun t (hP.mem ht); omega
  have hfit : Fit rs s P w := ⟨hs.1, by omega, lP, by omega, hin, Asc.of (hpw.sublist hP), fun t ht => hlow t (hP.mem ht)⟩
  rw [show m_law_moved (rs, s, P, ()) = .ok (play1 rs (s, ⟨P⟩)) from law_moved_ok ⟨hfit.s0, hfit.s1⟩ (rowA_get hfit.s0 hfit.s1) hin (by omega)]
  simp only [Rs.bo]
  exact ⟨_, rfl, log ++ [(s, ⟨P⟩)], by rw [hps], hpl _ hfit, by rw [List.length_append, List.length_singleton]; have := hg.2; omega⟩
theorem wild_ok {rs : List (Int × Str)} {cells : List Int} {w m : Int} {n : Nat} (hm : m ≤ 12) (hn : rs.length = n) (h1 : 1 ≤ n) (h2 : n ≤ 60) (hw : 1 ≤ w ∧ w ≤ 6) : ∃ log, m_law_wild_log (rs, cells, w, m, ()) = .ok log ∧ WG w rs log := by
  unfold m_law_wild_log
  simp only [Rs.bo]
  obtain ⟨z, e, hz⟩ := foldR_post (f := fun (γ : Ctx.T [.ow 4 (List (Int × (Tup Int))), .fz 0 (List (Int × Str)), .bo 1 (List Int), .fz 2 Int, .fz 3 Int]) x => m_law_wild_log_l9 (x, γ)) (fun γ => ∃ (log : List (Int × Tup Int)), γ = (log, played rs log, cells, w, m, ()) ∧ WG w rs log) (fun log => WG w rs log) (xs := cells) (g := (([] : List (Int × Tup Int)), rs, cells, w, m, ()))
    ⟨[], rfl, trivial, by simp⟩ (by
    rintro x hx _ ⟨log, rfl, a⟩
    exact wild_step hm hn h1 h2 hw a)
  rw [e]
  cases z with
  | inl γ =>
    obtain ⟨log, rfl, b⟩ := hz
    exact ⟨log, rfl, b⟩
  | inr log => exact ⟨log, rfl, hz⟩

def cnt (rows : List (Int × Str)) (nm : Str) : Int := ((rows.filter fun r => decide (r.2 = nm)).length : Int)
theorem cnt_snoc (rows : List (Int × Str)) (r : Int × Str) (nm : Str) : cnt (rows ++ [r]) nm = cnt rows nm + if r.2 = nm then 1 else 0 := by
  unfold cnt
  rw [List.filter_append, List.length_append]
  by_cases h : r.2 = nm
  · rw [if_pos h, List.filter_cons, if_pos (by simpa using h)]; simp
  · rw [if_neg h, List.filter_cons, if_neg (by simpa using h)]; simp
theorem cnt_zero {rows : List (Int × Str)} {nm : Str} (h : nm ∉ rows.map (·.2)) : cnt rows nm = 0 := by
  unfold cnt
  rw [List.filter_eq_nil_iff.mpr fun z hz q => h (List.mem_map.mpr ⟨z, hz, by simpa using q⟩)]
  rfl
def SharesD (rows : List (Int × Str)) (d : Dct Str Int) : Prop := (∀ nm, d.get? nm = if nm ∈ rows.map (·.2) then some (cnt rows nm) else none) ∧ (d.es.map (·.1)).Nodup
theorem put_nd {κ α : Type} [DecidableEq κ] {d : Dct κ α} {k : κ} {a : α} (h : (d.es.map (·.1)).Nodup) : ((d.put k a).es.map (·.1)).Nodup := by
  obtain ⟨es⟩ := d
  unfold Dct.put
  dsimp only at h ⊢
  by_cases c : (es.any fun e => decide (e.1 = k)) = true
  · rw [if_pos c, List.map_map]
    have : (fun x : κ × α => x.1) ∘ (fun e : κ × α => if e.1 = k then (e.1, a) else e) = fun x => x.1 := by
      funext e
      show (if e.1 = k then (e.1, a) else e).1 = e.1
      split <;> rfl
    rw [this]
    exact h
  · rw [if_neg c, List.map_append]
    refine List.nodup_append.mpr ⟨h, by simp, fun x hx y hy e => ?_⟩
    have hy : y = k := by simpa using hy
    rw [dct_any] at c
    exact c ((dct_mem es k).mp (by rw [← hy, ← e]; exact hx))

/-! ### sums over places -/
def sumK (L : List Int) (f : Int → Int) : Int := (L.map f).sum
theorem sumK_nil (f : Int → Int) : sumK [] f = 0 := rfl
theorem sumK_cons (a : Int) (L : List Int) (f : Int → Int) : sumK (a :: L) f = f a + sumK L f := by unfold sumK; rw [List.map_cons, List.sum_cons]
theorem sumK_app (L M : List Int) (f : Int → Int) : sumK (L ++ M) f = sumK L f + sumK M f := by
  induction L with
  | nil => rw [List.nil_append, sumK_nil]; omega
  | cons a L ih => rw [List.cons_append, sumK_cons, sumK_cons, ih]; omega
theorem sumK_perm {L L' : List Int} (p : L.Perm L') (f : Int → Int) : sumK L f = sumK L' f := perm_sum (p.map f)
theorem sumK_congr {L : List Int} {f g : Int → Int} (h : ∀ k ∈ L, f k = g k) : sumK L f = sumK L g := by unfold sumK; rw [List.map_congr_left h]
theorem sumK_le : ∀ {L : List Int} {f g : Int → Int}, (∀ k ∈ L, f k ≤ g k) → sumK L f ≤ sumK L g
  | [], _, _, _ => Int.le_refl _
  | a :: L, f, g, h => by
    have := h a List.mem_cons_self
    have := sumK_le (L := L) fun k hk => h k (List.mem_cons_of_mem _ hk)
    rw [sumK_cons, sumK_cons]; omega
theorem sumK_zero {L : List Int} {f : Int → Int} (h : ∀ k ∈ L, f k = 0) : sumK L f = 0 := by
  rw [sumK_congr h]
  induction L with
  | nil => rfl
  | cons a L ih => rw [sumK_cons, ih fun k hk => h k (List.mem_cons_of_mem _ hk)]; rfl
theorem sumK_nn {L : List Int} {f : Int → Int} (h : ∀ k ∈ L, 0 ≤ f k) : 0 ≤ sumK L f := by
  have := sumK_le (L := L) (f := fun _ => 0) h
  rw [sumK_zero (fun _ _ => rfl)] at this
  exact this
theorem sumK_add (L : List Int) (f g : Int → Int) : sumK L (fun k => f k + g k) = sumK L f + sumK L g := by
  induction L with
  | nil => rfl
  | cons a L ih => rw [sumK_cons, sumK_cons, sumK_cons, ih]; omega
theorem sumK_const (L : List Int) (c : Int) : sumK L (fun _ => c) = c * L.length := by
  induction L with
  | nil => rw [sumK_nil, List.length_nil]; omega
  | cons a L ih => rw [sumK_cons, ih, List.length_cons, show ((L.length + 1 : Nat) : Int) = (L.length : Int) + 1 by omega, Int.mul_add]; omega
theorem sumK_mem {L : List Int} {f : Int → Int} (h : ∀ k ∈ L, 0 ≤ f k) {a : Int} (ha : a ∈ L) : f a ≤ sumK L f := by
  induction L with
  | nil => cases ha
  | cons b L ih =>
    rw [sumK_cons]
    have h1 := sumK_nn (L := L) (f := f) fun k hk => h k (List.mem_cons_of_mem _ hk)
    rcases List.mem_cons.mp ha with e | e
    · rw [e]; omega
    · have := ih (fun k hk => h k (List.mem_cons_of_mem _ hk)) e
      have := h b List.mem_cons_self
      omega
/-- the number of places of which p holds -/
theorem sumK_count (L : List Int) (p : Int → Bool) : sumK L (fun k => if p k = true then 1 else 0) = ((L.filter p).length : Int) := by
  induction L with
  | nil => rfl
  | cons a L ih =>
    rw [sumK_cons, ih, List.filter_cons]
    cases p a
    · rw [if_neg (by decide), if_neg (by decide)]; omega
    · rw [if_pos rfl, if_pos rfl, List.length_cons]; omega
theorem perm_out : ∀ {M L : List Int}, L.Nodup → M.Nodup → (∀ k ∈ M, k ∈ L) → ∃ R, L.Perm (M ++ R) ∧ ∀ k ∈ R, k ∈ L ∧ k ∉ M
  | [], L, _, _, _ => ⟨L, .refl _, fun k hk => ⟨hk, fun z => by cases z⟩⟩
  | a :: M, L, hL, hM, hs => by
    have hM := List.nodup_cons.mp hM
    have ha := hs a List.mem_cons_self
    obtain ⟨R, p, h⟩ := perm_out (M := M) (L := L.erase a) (hL.erase a) hM.2 fun k hk => (hL.mem_erase_iff).mpr ⟨fun e => hM.1 (e ▸ hk), hs k (List.mem_cons_of_mem _ hk)⟩
    refine ⟨R, (List.perm_cons_erase ha).trans (.cons _ p), fun k hk => ?_⟩
    obtain ⟨h1, h2⟩ := h k hk
    have h1 := (hL.mem_erase_iff).mp h1
    exact ⟨h1.2, fun z => (List.mem_cons.mp z).elim h1.1 h2⟩
/-! ### a deed, place by place -/
theorem lv0_row (rs : List (Int × Str)) (k : Int) : lv0 rs k = (rowA rs k).1 := by
  unfold lv0 rowA
  cases rs[k.toNat]? <;> rfl
theorem mvd_hit {r : Int × Str} {k : Int} (k0 : 0 ≤ k) : ∀ (xs : List Int) (ys : List (Int × Str)), (∀ x ∈ xs, 0 ≤ x ∧ x < ys.length) → k ∈ xs → rowA (xs.foldl (mvd r) ys) k = (r.1 - 1, r.2)
  | [], _, _, h => by cases h
  | x :: xs, ys, hx, hk => by
    rw [List.foldl_cons]
    by_cases c : k ∈ xs
    · exact mvd_hit k0 xs _ (fun y hy => by
        have := hx y (List.mem_cons_of_mem _ hy)
        unfold mvd
        rw [List.length_set]
        exact this) c
    · rw [mvd_at k0 xs _ (fun y hy => (hx y (List.mem_cons_of_mem _ hy)).1) c]
      have e : k = x := (List.mem_cons.mp hk).resolve_right c
      have := hx x List.mem_cons_self
      unfold rowA mvd
      rw [e, List.getElem?_set_self (by omega)]
      rfl
theorem play1_hit {rs : List (Int × Str)} {d : Int × Tup Int} {w : Int} (h : Fit rs d.1 d.2.items w) {k : Int} (hk : k ∈ idx d) : rowA (play1 rs d) k = ((rowA rs d.1).1 - 1, (rowA rs d.1).2) :=
  mvd_hit (h.idx k hk).1 _ _ h.idx hk
theorem play1_miss {rs : List (Int × Str)} {d : Int × Tup Int} {w : Int} (h : Fit rs d.1 d.2.items w) {k : Int} (k0 : 0 ≤ k) (hk : k ∉ idx d) : rowA (play1 rs d) k = rowA rs k :=
  mvd_at k0 _ _ (fun x hx => (h.idx x hx).1) hk
theorem Asc.nd : ∀ {ts : List Int}, Asc ts → ts.Nodup ∧ ts.Pairwise (· < ·)
  | [], _ => ⟨List.nodup_nil, .nil⟩
  | [a], _ => ⟨by simp, by simp⟩
  | a :: b :: ts, h => by
    have ih := Asc.nd (ts := b :: ts) fun i hi => by
      have := h (i + 1) (by simpa using hi)
      simpa using this
    have hab : a < b := by simpa using h 0 (by simp)
    have all : ∀ x ∈ b :: ts, a < x := fun x hx => by
      rcases List.mem_cons.mp hx with e | e
      · rw [e]; exact hab
      · have := (List.pairwise_cons.mp ih.2).1 x e; omega
    exact ⟨List.nodup_cons.mpr ⟨fun z => by have := all a z; omega, ih.1⟩, List.pairwise_cons.mpr ⟨all, ih.2⟩⟩
theorem fit_nd {rs : List (Int × Str)} {d : Int × Tup Int} {w : Int} (h : Fit rs d.1 d.2.items w) : (idx d).Nodup := List.nodup_cons.mpr ⟨h.out, h.asc.nd.1⟩
theorem rng_nd (lo hi : Int) : (rng lo hi).Nodup := (rng_pw lo hi).imp fun h => by omega
theorem rng_rowA (rs : List (Int × Str)) : (rng 0 (rs.length : Int)).map (rowA rs) = rs := by
  apply List.ext_getElem?
  intro i
  rw [List.getElem?_map]
  by_cases h : i < rs.length
  · rw [rng_at (by omega), Option.map_some, Int.zero_add]
    unfold rowA
    rw [Int.toNat_natCast, List.getElem?_eq_getElem h]
    rfl
  · rw [List.getElem?_eq_none (by rw [rng0_len]; omega), List.getElem?_eq_none (by omega)]
    rfl
/-! ### the heirs of a sheet: how many sheets at the end of the log come from it -/
def heirs : List (Int × Tup Int) → Int → Int
  | [], _ => 1
  | d :: log, k => if k = d.1 then sumK (idx d) (heirs log) else if k ∈ d.2.items then 0 else heirs log k
theorem heirs_nn : ∀ (log : List (Int × Tup Int)) (k : Int), 0 ≤ heirs log k
  | [], _ => by unfold heirs; decide
  | d :: log, k => by
    unfold heirs
    split
    · exact sumK_nn fun j _ => heirs_nn log j
    · split
      · exact Int.le_refl _
      · exact heirs_nn log k
theorem heirs_src (d : Int × Tup Int) (log : List (Int × Tup Int)) : heirs (d :: log) d.1 = sumK (idx d) (heirs log) := by
  rw [heirs, if_pos rfl]
theorem heirs_tgt {d : Int × Tup Int} {log : List (Int × Tup Int)} {k : Int} (h : d.1 ∉ d.2.items) (hk : k ∈ d.2.items) : heirs (d :: log) k = 0 := by
  rw [heirs, if_neg (fun e : k = d.1 => h (e ▸ hk)), if_pos hk]
theorem heirs_out {d : Int × Tup Int} {log : List (Int × Tup Int)} {k : Int} (hk : k ∉ idx d) : heirs (d :: log) k = heirs log k := by
  rw [heirs, if_neg (fun e : k = d.1 => hk (by rw [e]; exact List.mem_cons_self)), if_neg (fun z => hk (List.mem_cons_of_mem _ z))]
theorem capE_step {w x e : Int} (w0 : 0 ≤ w) : (w + 1) * capE w (x - 1) e ≤ capE w x e := by
  unfold capE
  by_cases c : x - 1 < e
  · rw [if_pos c, Int.mul_zero]
    split
    · exact Int.le_refl _
    · exact Int.pow_nonneg (by omega)
  · rw [if_neg c, if_neg (by omega), show (x - e).toNat = (x - 1 - e).toNat + 1 by omega, Int.pow_succ, Int.mul_comm]
    exact Int.le_refl _
theorem heirs_cap {w e : Int} (w0 : 0 ≤ w) : ∀ {log : List (Int × Tup Int)} {rs : List (Int × Str)}, Plays w rs log → (∀ r ∈ played rs log, r.1 = e) → ∀ k : Int, 0 ≤ k → k < rs.length → heirs log k ≤ capE w (lv0 rs k) e
  | [], rs, _, hl, k, k0, k1 => by
    have : lv0 rs k = e := by rw [lv0_row]; exact hl _ (rowA_mem k0 k1)
    rw [this]
    unfold heirs capE
    rw [if_neg (by omega), Int.sub_self, Int.toNat_zero, Int.pow_zero]
    exact Int.le_refl _
  | d :: log, rs, hp, hl, k, k0, k1 => by
    have F := hp.1
    have hlen := play1_len rs d
    have ih := heirs_cap w0 (log := log) (rs := play1 rs d) hp.2 hl
    by_cases c : k ∈ idx d
    · rcases List.mem_cons.mp c with e1 | e1
      · rw [e1, heirs_src]
        have h1 : sumK (idx d) (heirs log) ≤ sumK (idx d) fun _ => capE w (lv0 rs d.1 - 1) e := sumK_le fun j hj => by
          have hj2 := F.idx j hj
          have := ih j hj2.1 (by omega)
          rw [lv0_row, play1_hit F hj] at this
          rw [lv0_row]
          exact this
        rw [sumK_const] at h1
        have h2 := capE_step (w := w) (x := lv0 rs d.1) (e := e) w0
        have h3 : capE w (lv0 rs d.1 - 1) e * ((idx d).length : Int) ≤ (w + 1) * capE w (lv0 rs d.1 - 1) e := by
          rw [Int.mul_comm]
          refine Int.mul_le_mul_of_nonneg_right ?_ (capE_nn w0 _ _)
          have := F.tw
          show ((d.2.items.length + 1 : Nat) : Int) ≤ _
          omega
        omega
      · rw [heirs_tgt F.out e1]
        exact capE_nn w0 _ _
    · rw [heirs_out c]
      have := ih k k0 (by omega)
      rw [lv0_row, play1_miss F k0 c, ← lv0_row] at this
      exact this
/-- each sheet of a record at the end is an heir of one of its sheets at first -/
theorem heirs_sum {w : Int} (p : Str → Bool) : ∀ {log : List (Int × Tup Int)} {rs : List (Int × Str)}, Plays w rs log →
    sumK (rng 0 (rs.length : Int)) (fun k => if p (rowA rs k).2 = true then heirs log k else 0) = (((played rs log).filter fun r => p r.2).length : Int)
  | [], rs, _ => by
    show sumK (rng 0 (rs.length : Int)) (fun k => if p (rowA rs k).2 = true then 1 else 0) = ((rs.filter fun r => p r.2).length : Int)
    rw [sumK_count (rng 0 (rs.length : Int)) (fun k => p (rowA rs k).2)]
    have : (rs.filter fun r => p r.2).length = (((rng 0 (rs.length : Int)).map (rowA rs)).filter fun r => p r.2).length := by rw [rng_rowA]
    rw [this, List.filter_map, List.length_map]
    rfl
  | d :: log, rs, hp => by
    have F := hp.1
    have ih := heirs_sum p (log := log) (rs := play1 rs d) hp.2
    rw [play1_len] at ih
    show _ = (((played (play1 rs d) log).filter fun r => p r.2).length : Int)
    rw [← ih]
    obtain ⟨R, q, hR⟩ := perm_out (rng_nd 0 (rs.length : Int)) (fit_nd F) fun k hk => mem_rng.mpr (F.idx k hk)
    rw [sumK_perm q, sumK_perm q, sumK_app, sumK_app]
    congr 1
    · show sumK (d.1 :: d.2.items) _ = _
      rw [sumK_cons, sumK_zero (L := d.2.items) (fun k hk => by rw [heirs_tgt F.out hk]; split <;> rfl), heirs_src, Int.add_zero]
      rw [sumK_congr (L := idx d) (f := fun k => if p (rowA (play1 rs d) k).2 = true then heirs log k else 0) (g := fun k => if p (rowA rs d.1).2 = true then heirs log k else 0) fun k hk => by rw [play1_hit F hk]]
      cases p (rowA rs d.1).2
      · rw [if_neg (by decide), sumK_zero fun k _ => if_neg (by decide)]
      · rw [if_pos rfl, sumK_congr fun k _ => if_pos rfl]
    · refine sumK_congr fun k hk => ?_
      obtain ⟨h1, h2⟩ := hR k hk
      rw [heirs_out h2, play1_miss F (mem_rng.mp h1).1 h2]
/-! ### sheets without heirs -/
def deadN (rs : List (Int × Str)) (log : List (Int × Tup Int)) (h : Int) : Int := sumK (rng 0 (rs.length : Int)) fun k => if lv0 rs k ≤ h ∧ heirs log k = 0 then 1 else 0
theorem dead_ok {w e : Int} : ∀ {log : List (Int × Tup Int)} {rs : List (Int × Str)}, Plays w rs log → (∀ r ∈ played rs log, r.1 = e) → ∀ h : Int, e ≤ h → (∃ k : Int, (0 ≤ k ∧ k < rs.length) ∧ h < lv0 rs k) → h + 1 - e ≤ deadN rs log h
  | [], rs, _, hl, h, h1, ⟨k, ⟨k0, k1⟩, h2⟩ => by
    have : lv0 rs k = e := by rw [lv0_row]; exact hl _ (rowA_mem k0 k1)
    omega
  | d :: log, rs, hp, hl, h, h1, ⟨k, ⟨k0, k1⟩, h2⟩ => by
    have F := hp.1
    have hlen := play1_len rs d
    have ih := dead_ok (log := log) (rs := play1 rs d) hp.2 hl
    obtain ⟨R, q, hR⟩ := perm_out (rng_nd 0 (rs.length : Int)) (fit_nd F) fun k hk => mem_rng.mpr (F.idx k hk)
    have hs := F.idx d.1 List.mem_cons_self
    -- the dead of S and of the state behind the deed, in two parts
    have e1 : ∀ h : Int, deadN rs (d :: log) h = ((if lv0 rs d.1 ≤ h ∧ heirs (d :: log) d.1 = 0 then 1 else 0) + sumK d.2.items fun k => if lv0 rs k ≤ h ∧ heirs (d :: log) k = 0 then 1 else 0) + sumK R fun k => if lv0 rs k ≤ h ∧ heirs log k = 0 then 1 else 0 := fun h => by
      unfold deadN
      rw [sumK_perm q, sumK_app]
      show sumK (d.1 :: d.2.items) _ + _ = _
      rw [sumK_cons]
      congr 1
      refine sumK_congr fun k hk => ?_
      rw [heirs_out (hR k hk).2]
    have e2 : ∀ h : Int, deadN (play1 rs d) log h = (sumK (idx d) fun k => if lv0 rs d.1 - 1 ≤ h ∧ heirs log k = 0 then 1 else 0) + sumK R fun k => if lv0 rs k ≤ h ∧ heirs log k = 0 then 1 else 0 := fun h => by
      unfold deadN
      rw [hlen, sumK_perm q, sumK_app]
      congr 1
      · refine sumK_congr fun k hk => ?_
        rw [lv0_row, play1_hit F hk, ← lv0_row]
      · refine sumK_congr fun k hk => ?_
        obtain ⟨m1, m2⟩ := hR k hk
        rw [lv0_row, play1_miss F (mem_rng.mp m1).1 m2, ← lv0_row]
    have hrn : ∀ h : Int, 0 ≤ sumK R fun k => if lv0 rs k ≤ h ∧ heirs log k = 0 then 1 else 0 := fun h => sumK_nn fun k _ => by split <;> decide
    have low : ∀ t ∈ d.2.items, lv0 rs t < lv0 rs d.1 := fun t ht => F.low t ht
    have hT : ∀ h : Int, lv0 rs d.1 - 1 ≤ h → (sumK d.2.items fun k => if lv0 rs k ≤ h ∧ heirs (d :: log) k = 0 then 1 else 0) = d.2.items.length := fun h hh => by
      rw [sumK_congr (g := fun _ => 1) fun k hk => if_pos ⟨by have := low k hk; omega, heirs_tgt F.out hk⟩, sumK_const]
      omega
    have t1 := F.t1
    by_cases c1 : lv0 rs d.1 ≤ h
    · -- no sheet comes to the height or below
      have hk : k ∉ idx d := fun z => by
        rcases List.mem_cons.mp z with e | e
        · rw [e] at h2; omega
        · have := low k e; omega
      have := ih h h1 ⟨k, ⟨k0, by omega⟩, by rw [lv0_row, play1_miss F k0 hk, ← lv0_row]; exact h2⟩
      rw [e2] at this
      rw [e1, hT h (by omega)]
      have key : (sumK (idx d) fun k => if lv0 rs d.1 - 1 ≤ h ∧ heirs log k = 0 then 1 else 0) ≤ (if lv0 rs d.1 ≤ h ∧ heirs (d :: log) d.1 = 0 then 1 else 0) + (d.2.items.length : Int) := by
        by_cases z : heirs (d :: log) d.1 = 0
        · rw [if_pos ⟨c1, z⟩]
          refine Int.le_trans (sumK_le (g := fun _ => 1) fun k _ => by split <;> decide) ?_
          rw [sumK_const]
          show 1 * ((d.2.items.length + 1 : Nat) : Int) ≤ _
          omega
        · rw [if_neg fun y => z y.2]
          rw [heirs_src] at z
          obtain ⟨j, hj, hz⟩ : ∃ j ∈ idx d, heirs log j ≠ 0 := by
            apply Classical.byContradiction
            intro n
            exact z (sumK_zero fun k hk => Classical.byContradiction fun y => n ⟨k, hk, y⟩)
          have h3 : (sumK (idx d) fun k => if lv0 rs d.1 - 1 ≤ h ∧ heirs log k = 0 then 1 else 0) + (sumK (idx d) fun k => if heirs log k = 0 then 0 else 1) ≤ sumK (idx d) fun _ => 1 := by
            rw [← sumK_add]
            exact sumK_le fun k _ => by by_cases y : heirs log k = 0 <;> simp [y]; split <;> decide
          rw [sumK_const] at h3
          have h4 := sumK_mem (L := idx d) (f := fun k => if heirs log k = 0 then (0 : Int) else 1) (fun k _ => by split <;> decide) hj
          rw [if_neg hz] at h4
          have h5 : ((idx d).length : Int) = (d.2.items.length : Int) + 1 := by show ((d.2.items.length + 1 : Nat) : Int) = _; omega
          omega
      omega
    · by_cases c2 : h < lv0 rs d.1 - 1
      · have := ih h h1 ⟨d.1, ⟨hs.1, by omega⟩, by rw [lv0_row, play1_hit F List.mem_cons_self, ← lv0_row]; exact c2⟩
        rw [e2, sumK_zero fun k _ => if_neg fun y => by omega] at this
        rw [e1]
        have n1 : 0 ≤ sumK d.2.items fun k => if lv0 rs k ≤ h ∧ heirs (d :: log) k = 0 then 1 else 0 := sumK_nn fun k _ => by split <;> decide
        have n2 : (0 : Int) ≤ if lv0 rs d.1 ≤ h ∧ heirs (d :: log) d.1 = 0 then 1 else 0 := by split <;> decide
        omega
      · have hh : h = lv0 rs d.1 - 1 := by omega
        rw [e1, hT h (by omega)]
        have n2 : (0 : Int) ≤ if lv0 rs d.1 ≤ h ∧ heirs (d :: log) d.1 = 0 then 1 else 0 := by split <;> decide
        by_cases c3 : h = e
        · have := hrn h
          omega
        · have := ih (h - 1) (by omega) ⟨d.1, ⟨hs.1, by omega⟩, by rw [lv0_row, play1_hit F List.mem_cons_self, ← lv0_row]; show h - 1 < lv0 rs d.1 - 1; omega⟩
          rw [e2, sumK_zero fun k _ => if_neg fun y => by omega] at this
          have mono : (sumK R fun k => if lv0 rs k ≤ h - 1 ∧ heirs log k = 0 then 1 else 0) ≤ sumK R fun k => if lv0 rs k ≤ h ∧ heirs log k = 0 then 1 else 0 := sumK_le fun k _ => by
            by_cases y : lv0 rs k ≤ h - 1 ∧ heirs log k = 0
            · rw [if_pos y, if_pos ⟨by omega, y.2⟩]
              exact Int.le_refl _
            · rw [if_neg y]
              split <;> decide
          omega
theorem capE_mono {w : Int} (hw : 0 ≤ w) {x y e : Int} (h : x ≤ y) : capE w x e ≤ capE w y e := by
  unfold capE
  by_cases h1 : x < e
  · rw [if_pos h1]
    split
    · exact Int.le_refl _
    · exact Int.pow_nonneg (by omega)
  · rw [if_neg h1, if_neg (by omega)]
    exact pow_mono (by omega) (by omega)
/-! ### the sheets that are set aside are not more than those with heirs -/
theorem take_full' {w e dem : Int} {rs : List (Int × Str)} : ∀ (ks : List Int) (t : Int), dem ≤ t → takeI w e dem rs ks t = []
  | [], _, _ => rfl
  | k :: ks, t, h => by
    unfold takeI
    rw [if_neg (by omega)]
    exact take_full' ks t h
theorem take_first {w e dem : Int} {rs : List (Int × Str)} : ∀ (ks : List Int) (q : Nat) (t : Int), dem ≤ t + sumK (ks.take q) (fun k => capE w (lv0 rs k) e) → (takeI w e dem rs ks t).length ≤ q
  | [], _, _, _ => Nat.zero_le _
  | k :: ks, 0, t, h => by
    rw [take_full' _ _ (by simpa [sumK] using h)]
    exact Nat.le_refl _
  | k :: ks, q + 1, t, h => by
    rw [List.take_succ_cons, sumK_cons] at h
    unfold takeI
    split
    · rw [List.length_cons]
      have := take_first (w := w) (e := e) (dem := dem) (rs := rs) ks q (t + capE w (lv0 rs k) e) (by omega)
      omega
    · rw [take_full' _ _ (by omega)]
      exact Nat.zero_le _
theorem take_shift {f : Int → Int} (f0 : ∀ k, 0 ≤ f k) : ∀ {ks : List Int} {k : Int} (m : Nat), (k :: ks).Pairwise (fun a b => f b ≤ f a) → sumK (ks.take m) f ≤ sumK ((k :: ks).take m) f
  | _, _, 0, _ => Int.le_refl _
  | [], k, m + 1, h => by
    rw [List.take_nil, List.take_succ_cons, sumK_nil, List.take_nil, sumK_cons, sumK_nil]
    have := f0 k
    omega
  | a :: ks, k, m + 1, h => by
    have h2 := List.pairwise_cons.mp h
    have := take_shift f0 (ks := ks) (k := a) m h2.2
    have := h2.1 a List.mem_cons_self
    rw [List.take_succ_cons, List.take_succ_cons, sumK_cons, sumK_cons]
    omega
/-- the sum of some is at most that of as many of the first -/
theorem some_first {f g : Int → Int} (f0 : ∀ k, 0 ≤ f k) : ∀ {ks : List Int}, (∀ k ∈ ks, 0 ≤ g k ∧ g k ≤ f k) → ks.Pairwise (fun a b => f b ≤ f a) → sumK ks g ≤ sumK (ks.take (ks.filter fun k => decide (0 < g k)).length) f
  | [], _, _ => Int.le_refl _
  | k :: ks, h, hp => by
    have h2 := List.pairwise_cons.mp hp
    have ih := some_first f0 (ks := ks) (fun j hj => h j (List.mem_cons_of_mem _ hj)) h2.2
    obtain ⟨a1, a2⟩ := h k List.mem_cons_self
    rw [List.filter_cons, sumK_cons]
    by_cases c : 0 < g k
    · rw [if_pos (decide_eq_true c), List.length_cons, List.take_succ_cons, sumK_cons]
      omega
    · rw [if_neg (by rw [decide_eq_false c]; decide)]
      have := take_shift f0 (ks := ks) (k := k) (ks.filter fun k => decide (0 < g k)).length hp
      omega
theorem takeI_low {w e dem h : Int} {rs : List (Int × Str)} {g : Int → Int} (w0 : 0 ≤ w) : ∀ (ks : List Int) (t : Int), (∀ k ∈ ks, 0 ≤ g k ∧ g k ≤ capE w (lv0 rs k) e) → ks.Pairwise (fun a b => lv0 rs b ≤ lv0 rs a) → dem ≤ t + sumK ks g →
    ((takeI w e dem rs ks t).filter fun k => decide (lv0 rs k ≤ h)).length ≤ (ks.filter fun k => decide (lv0 rs k ≤ h) && decide (0 < g k)).length
  | [], _, _, _, _ => Nat.le_refl _
  | k :: ks, t, hg, hp, hd => by
    have h2 := List.pairwise_cons.mp hp
    by_cases c : lv0 rs k ≤ h
    · -- from here on all are low
      have all : ∀ j ∈ k :: ks, lv0 rs j ≤ h := fun j hj => by
        rcases List.mem_cons.mp hj with e | e
        · rw [e]; exact c
        · have := h2.1 j e; omega
      have e1 : ((k :: ks).filter fun j => decide (lv0 rs j ≤ h) && decide (0 < g j)) = (k :: ks).filter fun j => decide (0 < g j) := List.filter_congr fun j hj => by rw [decide_eq_true (all j hj), Bool.true_and]
      rw [e1]
      refine Nat.le_trans (List.length_filter_le _ _) (take_first _ _ _ ?_)
      have := some_first (f := fun k => capE w (lv0 rs k) e) (g := g) (fun k => capE_nn w0 _ _) (ks := k :: ks) hg (hp.imp fun {a b} hab => by
        show capE w (lv0 rs b) e ≤ capE w (lv0 rs a) e
        exact capE_mono w0 hab)
      omega
    · rw [List.filter_cons, if_neg (show ¬ (decide (lv0 rs k ≤ h) && decide (0 < g k)) = true by rw [decide_eq_false c, Bool.false_and]; decide)]
      rw [sumK_cons] at hd
      obtain ⟨a1, a2⟩ := hg k List.mem_cons_self
      unfold takeI
      split
      · rw [List.filter_cons, if_neg (by rw [decide_eq_false c]; decide)]
        exact takeI_low w0 ks _ (fun j hj => hg j (List.mem_cons_of_mem _ hj)) h2.2 (by omega)
      · rw [take_full' _ _ (by omega)]
        exact Nat.zero_le _
/-! ### what a complete log leaves can be met from each state on its way -/
theorem sumK_filter (L : List Int) (p : Int → Bool) (f : Int → Int) : sumK (L.filter p) f = sumK L fun k => if p k = true then f k else 0 := by
  induction L with
  | nil => rfl
  | cons a L ih =>
    rw [sumK_cons, ← ih, List.filter_cons]
    cases p a
    · rw [if_neg (by decide), if_neg (by decide)]; omega
    · rw [if_pos rfl, if_pos rfl, sumK_cons]
theorem rows_sum (rs : List (Int × Str)) (f : Int × Str → Int) : (rs.map f).sum = sumK (rng 0 (rs.length : Int)) fun k => f (rowA rs k) := by
  have : rs.map f = ((rng 0 (rs.length : Int)).map (rowA rs)).map f := by rw [rng_rowA]
  rw [this, List.map_map]
  rfl
theorem filter_sum (rs : List (Int × Str)) (p : Int × Str → Bool) (f : Int × Str → Int) : ((rs.filter p).map f).sum = (rs.map fun r => if p r = true then f r else 0).sum := by
  induction rs with
  | nil => rfl
  | cons a L ih =>
    rw [List.map_cons, List.sum_cons, ← ih, List.filter_cons]
    cases p a
    · rw [if_neg (by decide), if_neg (by decide)]; omega
    · rw [if_pos rfl, if_pos rfl, List.map_cons, List.sum_cons]
theorem cnt_cons (r : Int × Str) (q : List (Int × Str)) (nm : Str) : cnt (r :: q) nm = (if r.2 = nm then 1 else 0) + cnt q nm := by
  unfold cnt
  rw [List.filter_cons]
  by_cases h : r.2 = nm
  · rw [if_pos h, if_pos (decide_eq_true h), List.length_cons]; omega
  · rw [if_neg h, if_neg (by rw [decide_eq_false h]; decide)]; omega
theorem ones_le (x : Str) : ∀ {nms : List Str}, nms.Nodup → (nms.map fun nm => if x = nm then (1 : Int) else 0).sum = if x ∈ nms then 1 else 0
  | [], _ => rfl
  | nm :: nms, h => by
    have h := List.nodup_cons.mp h
    rw [List.map_cons, List.sum_cons, ones_le x h.2]
    by_cases c : x = nm
    · subst c
      rw [if_pos rfl, if_neg h.1, if_pos List.mem_cons_self]
      rfl
    · rw [if_neg c]
      by_cases c2 : x ∈ nms
      · rw [if_pos c2, if_pos (List.mem_cons_of_mem _ c2)]; rfl
      · rw [if_neg c2, if_neg fun z => (List.mem_cons.mp z).elim c c2]; rfl
theorem cnt_all {nms : List Str} (h : nms.Nodup) : ∀ q : List (Int × Str), (nms.map (cnt q)).sum ≤ q.length
  | [] => by
    have e : ∀ l : List Str, (l.map (cnt [])).sum = 0 := fun l => by
      induction l with
      | nil => rfl
      | cons a l ih => rw [List.map_cons, List.sum_cons, ih]; rfl
    rw [e]
    exact Int.le_refl _
  | r :: q => by
    have ih := cnt_all h q
    have : (nms.map (cnt (r :: q))).sum = (nms.map fun nm => if r.2 = nm then (1 : Int) else 0).sum + (nms.map (cnt q)).sum := by
      clear ih h
      induction nms with
      | nil => rfl
      | cons a l ih => rw [List.map_cons, List.sum_cons, ih, List.map_cons, List.sum_cons, List.map_cons, List.sum_cons, cnt_cons]; omega
    rw [this, ones_le _ h, List.length_cons]
    split <;> omega
theorem names_le {d : Str → Int} {q : List (Int × Str)} {nms : List Str} (h : ∀ nm ∈ nms, d nm ≤ cnt q nm) : (nms.map d).sum ≤ (nms.map (cnt q)).sum := by
  induction nms with
  | nil => exact Int.le_refl _
  | cons a l ih =>
    rw [List.map_cons, List.sum_cons, List.map_cons, List.sum_cons]
    have := h a List.mem_cons_self
    have := ih fun nm hn => h nm (List.mem_cons_of_mem _ hn)
    omega
theorem ownP_is {rs : List (Int × Str)} {nm : Str} {e k : Int} (k0 : 0 ≤ k) (k1 : k < rs.length) : ownP rs nm e k = (decide ((rowA rs k).2 = nm) && decide (e ≤ lv0 rs k)) := by
  unfold ownP rowA
  have hk : k.toNat < rs.length := by omega
  rw [List.getElem?_eq_getElem hk, Option.map_some]
  congr 1
  rw [decide_eq_decide]
  exact ⟨fun h => Option.some.inj h, fun h => congrArg some h⟩
theorem meets {rs : List (Int × Str)} {log : List (Int × Tup Int)} {w e t : Int} {d : Dct Str Int} (w0 : 0 ≤ w) (hp : Plays w rs log) (hl : ∀ r ∈ played rs log, r.1 = e) (ht : maxI (lvR rs) = .ok t) (nd : (keysD d).Nodup) (hd : ∀ nm ∈ keysD d, demD d nm ≤ cnt (played rs log) nm) : troubleOf rs e w t d = none := by
  have hcap := heirs_cap w0 hp hl
  have hnn := heirs_nn log
  have hplen := played_len log rs
  unfold troubleOf
  have t1 : ¬ (rs.length : Int) < sumD d := by
    have h1 := names_le (d := demD d) hd
    have h2 := cnt_all nd (played rs log)
    unfold sumD
    rw [hplen] at h2
    omega
  have t2 : ¬ reachE w (lvR rs) e < rs.length := by
    have h1 := heirs_sum (fun _ => true) hp
    rw [List.filter_eq_self.mpr (fun _ _ => rfl), hplen] at h1
    have h2 : reachE w (lvR rs) e = sumK (rng 0 (rs.length : Int)) fun k => capE w (lv0 rs k) e := by
      unfold reachE lvR
      rw [List.map_map]
      refine (rows_sum rs _).trans (sumK_congr fun k _ => ?_)
      rw [lv0_row]
      rfl
    rw [h2]
    have := sumK_le (L := rng 0 (rs.length : Int)) (f := fun k => if (true : Bool) = true then heirs log k else 0) (g := fun k => capE w (lv0 rs k) e) fun k hk => by
      rw [if_pos rfl]
      exact hcap k (mem_rng.mp hk).1 (mem_rng.mp hk).2
    omega
  -- the heirs of a record, in terms of its sheets from the end on
  have hown : ∀ nm, cnt (played rs log) nm = sumK (ownI rs nm e) (heirs log) := fun nm => by
    have h1 := heirs_sum (fun x => decide (x = nm)) hp
    unfold ownI
    rw [sumK_filter]
    refine h1.symm.trans (sumK_congr fun k hk => ?_)
    have hk := mem_rng.mp hk
    rw [ownP_is hk.1 hk.2]
    by_cases c : e ≤ lv0 rs k
    · rw [decide_eq_true c, Bool.and_true]
    · rw [decide_eq_false c, Bool.and_false, if_neg (show ¬ (false = true) by decide)]
      have h2 := hcap k hk.1 hk.2
      unfold capE at h2
      rw [if_pos (by omega)] at h2
      have := hnn k
      rw [show heirs log k = 0 by omega]
      split <;> rfl
  have t3 : lowRec rs e w d = none := by
    unfold lowRec
    refine List.find?_eq_none.mpr fun nm hn z => ?_
    have z := of_decide_eq_true z
    have h1 := hd nm (sortStr_mem.mp hn)
    rw [hown nm] at h1
    have h2 : sumK (ownI rs nm e) (heirs log) ≤ ownR rs nm e w := by
      unfold ownR ownI
      rw [filter_sum, rows_sum, sumK_filter]
      refine sumK_le fun k hk => ?_
      have hk := mem_rng.mp hk
      rw [ownP_is hk.1 hk.2]
      by_cases c : (rowA rs k).2 = nm
      · rw [decide_eq_true c, Bool.true_and, if_pos rfl, ← lv0_row]
        have := hcap k hk.1 hk.2
        have := capE_nn w0 (lv0 rs k) e
        split <;> omega
      · rw [decide_eq_false c, Bool.false_and, if_neg (by decide), if_neg (by decide)]
        exact Int.le_refl _
    omega
  rw [if_neg t1, if_neg t2, t3]
  have t4 : lackOf rs (asideOf rs e w d) e t = none := by
    unfold lackOf
    refine List.find?_eq_none.mpr fun g hg z => ?_
    have z := of_decide_eq_true z
    have hg := mem_rng.mp hg
    obtain ⟨r, hr, er⟩ := List.mem_map.mp (maxI_spec.mp ht).1
    obtain ⟨i, hi⟩ := List.mem_iff_getElem?.mp hr
    have hi2 := (List.getElem?_eq_some_iff.mp hi).1
    have hdead := dead_ok hp hl g hg.1 ⟨(i : Int), ⟨by omega, by omega⟩, by
      unfold lv0
      rw [Int.toNat_natCast, hi]
      show g < r.1
      omega⟩
    -- the sheets that are set aside, at most the height
    have key : ∀ nms : List Str, nms.Nodup → (∀ nm ∈ nms, nm ∈ keysD d) →
        (sumK (rng 0 (rs.length : Int)) fun k => if lv0 rs k ≤ g ∧ k ∈ asideL rs e w d nms then 1 else 0) ≤ sumK (rng 0 (rs.length : Int)) fun k => if (lv0 rs k ≤ g ∧ 0 < heirs log k) ∧ (rowA rs k).2 ∈ nms then 1 else 0 := by
      intro nms
      induction nms with
      | nil =>
        intro _ _
        refine sumK_le fun k _ => ?_
        rw [if_neg fun z => absurd z.2 (by unfold asideL; exact List.not_mem_nil)]
        split <;> decide
      | cons nm nms ih =>
        intro hnd hin
        have hnd := List.nodup_cons.mp hnd
        have ih := ih hnd.2 fun x hx => hin x (List.mem_cons_of_mem _ hx)
        have s1 : (sumK (rng 0 (rs.length : Int)) fun k => if lv0 rs k ≤ g ∧ k ∈ asideL rs e w d (nm :: nms) then 1 else 0) ≤ (sumK (rng 0 (rs.length : Int)) fun k => if lv0 rs k ≤ g ∧ k ∈ takeI w e (demD d nm) rs (ownS rs nm e) 0 then 1 else 0) + sumK (rng 0 (rs.length : Int)) fun k => if lv0 rs k ≤ g ∧ k ∈ asideL rs e w d nms then 1 else 0 := by
          rw [← sumK_add]
          refine sumK_le fun k _ => ?_
          by_cases c : lv0 rs k ≤ g ∧ k ∈ asideL rs e w d (nm :: nms)
          · rw [if_pos c]
            have c2 := c.2
            unfold asideL at c2
            rw [List.flatMap_cons] at c2
            rcases List.mem_append.mp c2 with y | y
            · rw [if_pos ⟨c.1, y⟩]
              split <;> decide
            · rw [if_pos (show lv0 rs k ≤ g ∧ k ∈ asideL rs e w d nms from ⟨c.1, y⟩)]
              split <;> decide
          · rw [if_neg c]
            split <;> split <;> decide
        have s2 : ((sumK (rng 0 (rs.length : Int)) fun k => if (lv0 rs k ≤ g ∧ 0 < heirs log k) ∧ (rowA rs k).2 = nm then 1 else 0) + sumK (rng 0 (rs.length : Int)) fun k => if (lv0 rs k ≤ g ∧ 0 < heirs log k) ∧ (rowA rs k).2 ∈ nms then 1 else 0) ≤ sumK (rng 0 (rs.length : Int)) fun k => if (lv0 rs k ≤ g ∧ 0 < heirs log k) ∧ (rowA rs k).2 ∈ nm :: nms then 1 else 0 := by
          rw [← sumK_add]
          refine sumK_le fun k _ => ?_
          by_cases c : lv0 rs k ≤ g ∧ 0 < heirs log k
          · by_cases c2 : (rowA rs k).2 = nm
            · rw [if_pos ⟨c, c2⟩, if_neg fun z => hnd.1 (c2 ▸ z.2), if_pos ⟨c, by rw [c2]; exact List.mem_cons_self⟩]
              decide
            · rw [if_neg fun z => c2 z.2]
              by_cases c3 : (rowA rs k).2 ∈ nms
              · rw [if_pos ⟨c, c3⟩, if_pos ⟨c, List.mem_cons_of_mem _ c3⟩]; decide
              · rw [if_neg fun z => c3 z.2]
                split <;> decide
          · rw [if_neg fun z => c z.1, if_neg fun z => c z.1, if_neg fun z => c z.1]; decide
        have s3 : (sumK (rng 0 (rs.length : Int)) fun k => if lv0 rs k ≤ g ∧ k ∈ takeI w e (demD d nm) rs (ownS rs nm e) 0 then 1 else 0) ≤ sumK (rng 0 (rs.length : Int)) fun k => if (lv0 rs k ≤ g ∧ 0 < heirs log k) ∧ (rowA rs k).2 = nm then 1 else 0 := by
          have a1 : (sumK (rng 0 (rs.length : Int)) fun k => if lv0 rs k ≤ g ∧ k ∈ takeI w e (demD d nm) rs (ownS rs nm e) 0 then 1 else 0) = (((rng 0 (rs.length : Int)).filter fun k => decide (lv0 rs k ≤ g ∧ k ∈ takeI w e (demD d nm) rs (ownS rs nm e) 0)).length : Int) := by
            rw [← sumK_count]
            exact sumK_congr fun k _ => by
              by_cases c : lv0 rs k ≤ g ∧ k ∈ takeI w e (demD d nm) rs (ownS rs nm e) 0
              · rw [if_pos c, if_pos (decide_eq_true c)]
              · rw [if_neg c, if_neg (by rw [decide_eq_false c]; decide)]
          have a2 := nd_le (xs := (rng 0 (rs.length : Int)).filter fun k => decide (lv0 rs k ≤ g ∧ k ∈ takeI w e (demD d nm) rs (ownS rs nm e) 0)) (ys := (takeI w e (demD d nm) rs (ownS rs nm e) 0).filter fun k => decide (lv0 rs k ≤ g)) ((rng_nd _ _).filter _) fun k hk => by
            have c := of_decide_eq_true (List.mem_filter.mp hk).2
            exact List.mem_filter.mpr ⟨c.2, decide_eq_true c.1⟩
          have hpw : (ownS rs nm e).Pairwise fun a b => lv0 rs b ≤ lv0 rs a := by
            have hp : (ownS rs nm e).Pairwise fun a b => keyLe rs a b = true := by
              unfold ownS
              refine List.pairwise_mergeSort (fun a b c h1 h2 => ?_) (fun a b => ?_) _
              · unfold keyLe leP at h1 h2 ⊢
                have h1 := of_decide_eq_true h1
                have h2 := of_decide_eq_true h2
                exact decide_eq_true (by dsimp only at *; omega)
              · unfold keyLe leP
                rw [Bool.or_eq_true, decide_eq_true_eq, decide_eq_true_eq]
                dsimp only
                omega
            exact hp.imp fun {a b} hab => by
              unfold keyLe leP at hab
              have := of_decide_eq_true hab
              dsimp only at this
              omega
          have hperm : (ownS rs nm e).Perm (ownI rs nm e) := List.mergeSort_perm _ _
          have a3 := takeI_low (w := w) (e := e) (dem := demD d nm) (h := g) (rs := rs) (g := heirs log) w0 (ownS rs nm e) 0 (fun k hk => by
            have := ownI_mem (ownS_mem.mp hk)
            exact ⟨hnn k, hcap k this.1.1 this.1.2⟩) hpw (by
            rw [sumK_perm hperm, ← hown nm, Int.zero_add]
            exact hd nm (hin nm List.mem_cons_self))
          have a4 : (((ownS rs nm e).filter fun k => decide (lv0 rs k ≤ g) && decide (0 < heirs log k)).length : Int) = sumK (rng 0 (rs.length : Int)) fun k => if ownP rs nm e k = true then (if (decide (lv0 rs k ≤ g) && decide (0 < heirs log k)) = true then 1 else 0) else 0 := by
            rw [← sumK_count, sumK_perm hperm]
            unfold ownI
            rw [sumK_filter]
          have a5 : (sumK (rng 0 (rs.length : Int)) fun k => if ownP rs nm e k = true then (if (decide (lv0 rs k ≤ g) && decide (0 < heirs log k)) = true then 1 else 0) else 0) ≤ sumK (rng 0 (rs.length : Int)) fun k => if (lv0 rs k ≤ g ∧ 0 < heirs log k) ∧ (rowA rs k).2 = nm then 1 else 0 := sumK_le fun k hk => by
            have hk := mem_rng.mp hk
            rw [ownP_is hk.1 hk.2]
            by_cases c : (lv0 rs k ≤ g ∧ 0 < heirs log k) ∧ (rowA rs k).2 = nm
            · rw [if_pos c]
              split
              · split <;> decide
              · decide
            · rw [if_neg c]
              split
              · rename_i y
                rw [Bool.and_eq_true] at y
                rw [if_neg (by
                  rw [Bool.and_eq_true, decide_eq_true_eq, decide_eq_true_eq]
                  exact fun x => c ⟨x, of_decide_eq_true y.1⟩)]
                exact Int.le_refl _
              · exact Int.le_refl _
          omega
        omega
    have hkey := key (sortStr (keysD d)) ((sortStr_perm _).nodup_iff.mpr nd) fun nm hn => sortStr_mem.mp hn
    -- the sheets at most the height: spare or set aside, dead or not
    have b1 : spareN rs (asideOf rs e w d) g = sumK (rng 0 (rs.length : Int)) fun k => if lv0 rs k ≤ g ∧ k ∉ asideL rs e w d (sortStr (keysD d)) then 1 else 0 := by
      unfold spareN
      rw [← sumK_count]
      refine sumK_congr fun k _ => ?_
      have hm : k ∈ asideOf rs e w d ↔ k ∈ asideL rs e w d (sortStr (keysD d)) := by
        unfold asideOf
        exact (sortI_perm _).mem_iff
      by_cases c : k ∈ asideL rs e w d (sortStr (keysD d))
      · rw [decide_eq_true (hm.mpr c), if_neg (by simp), if_neg fun y => y.2 c]
      · rw [decide_eq_false (fun y => c (hm.mp y))]
        by_cases c2 : lv0 rs k ≤ g
        · rw [decide_eq_true c2, if_pos (show (!false && true) = true from rfl), if_pos ⟨c2, c⟩]
        · rw [decide_eq_false c2, if_neg (show ¬ (!false && false) = true by decide), if_neg fun y => c2 y.1]
    have b2 : deadN rs log g + (sumK (rng 0 (rs.length : Int)) fun k => if (lv0 rs k ≤ g ∧ 0 < heirs log k) ∧ (rowA rs k).2 ∈ sortStr (keysD d) then 1 else 0) ≤ spareN rs (asideOf rs e w d) g + sumK (rng 0 (rs.length : Int)) fun k => if lv0 rs k ≤ g ∧ k ∈ asideL rs e w d (sortStr (keysD d)) then 1 else 0 := by
      rw [b1, ← sumK_add]
      unfold deadN
      rw [← sumK_add]
      refine sumK_le fun k _ => ?_
      have := hnn k
      by_cases c : lv0 rs k ≤ g
      · have l1 : (if lv0 rs k ≤ g ∧ heirs log k = 0 then (1 : Int) else 0) + (if (lv0 rs k ≤ g ∧ 0 < heirs log k) ∧ (rowA rs k).2 ∈ sortStr (keysD d) then 1 else 0) ≤ 1 := by
          by_cases y : heirs log k = 0
          · rw [if_pos ⟨c, y⟩, if_neg fun x => by omega]; decide
          · rw [if_neg fun x => y x.2]
            split <;> decide
        have l2 : (if lv0 rs k ≤ g ∧ k ∉ asideL rs e w d (sortStr (keysD d)) then (1 : Int) else 0) + (if lv0 rs k ≤ g ∧ k ∈ asideL rs e w d (sortStr (keysD d)) then 1 else 0) = 1 := by
          by_cases y : k ∈ asideL rs e w d (sortStr (keysD d))
          · rw [if_neg fun x => x.2 y, if_pos ⟨c, y⟩]; decide
          · rw [if_pos ⟨c, y⟩, if_neg fun x => y x.2]; decide
        omega
      · rw [if_neg fun x => c x.1, if_neg fun x => c x.1.1, if_neg fun x => c x.1, if_neg fun x => c x.1]; decide
    omega
  rw [t4]

/-- two places of a list are set -/
theorem set_perm {L : List Int} {i : Nat} {a : Int} (h : L[i]? = some a) (b : Int) : ∃ R, L.Perm (a :: R) ∧ (L.set i b).Perm (b :: R) := by
  induction L generalizing i with
  | nil => simp at h
  | cons x L ih =>
    cases i with
    | zero =>
      have : x = a := by simpa using h
      subst this
      exact ⟨L, .refl _, .refl _⟩
    | succ i =>
      obtain ⟨R, p, q⟩ := ih (i := i) (by simpa using h)
      exact ⟨x :: R, (p.cons x).trans (.swap _ _ _), (q.cons x).trans (.swap _ _ _)⟩
theorem set2_perm {L : List Int} {i j : Nat} {s t : Int} (hi : L[i]? = some s) (hj : L[j]? = some t) (hij : i ≠ j) (b : Int) : ∃ R, L.Perm (s :: t :: R) ∧ ((L.set i b).set j b).Perm (b :: b :: R) := by
  induction L generalizing i j with
  | nil => simp at hi
  | cons x L ih =>
    cases i with
    | zero =>
      have : x = s := by simpa using hi
      subst this
      cases j with
      | zero => exact absurd rfl hij
      | succ j =>
        obtain ⟨R, p, q⟩ := set_perm (L := L) (i := j) (by simpa using hj) b
        exact ⟨R, p.cons x, q.cons b⟩
    | succ i =>
      cases j with
      | zero =>
        have : x = t := by simpa using hj
        subst this
        obtain ⟨R, p, q⟩ := set_perm (L := L) (i := i) (by simpa using hi) b
        exact ⟨R, (p.cons x).trans (.swap _ _ _), (q.cons b).trans (.swap _ _ _)⟩
      | succ j =>
        obtain ⟨R, p, q⟩ := ih (i := i) (j := j) (by simpa using hi) (by simpa using hj) (by omega)
        exact ⟨x :: R, (p.cons x).trans ((List.Perm.swap _ _ _).trans ((List.Perm.swap _ _ _).cons _)), (q.cons x).trans ((List.Perm.swap _ _ _).trans ((List.Perm.swap _ _ _).cons _))⟩

theorem width_ok {drawn : List Int} {d0 d1 : Int} (g0 : getI drawn 0 = .ok d0) (g1 : getI drawn 1 = .ok d1) (l1 : 0 ≤ d1) (u1 : d1 < 6) : ∃ w, m_law_width (drawn, ()) = .ok w ∧ 1 ≤ w ∧ w ≤ 6 ∧ (d0 = 0 → w = 1) := by
  unfold m_law_width
  simp only [Rs.bo, g0, g1]
  by_cases c : 1 < d0
  · rw [dtrue c]
    exact ⟨_, rfl, by omega, by omega, by omega⟩
  · rw [decide_eq_false c]
    exact ⟨_, rfl, by omega, by omega, fun _ => rfl⟩
/-! ### the log played on until all sheets are level -/
theorem fin_step {rs0 : List (Int × Str)} {log : List (Int × Tup Int)} {k pick w : Int} {i : Nat} (h1 : 1 ≤ rs0.length) (h2 : rs0.length ≤ 60) (hw : 1 ≤ w) (hk : 0 ≤ k ∧ k ≤ 2000) (hp : Plays w rs0 log) (hl : log.length ≤ 100 + i) (hi : i ≤ 2000) :
    ∃ z, m_law_finished_l6 (k, log, played rs0 log, pick, ()) = .ok z ∧ EiN (fun γ : List (Int × Tup Int) × List (Int × Str) × Int × Unit => ∃ (log : List (Int × Tup Int)), γ = (log, played rs0 log, pick, ()) ∧ Plays w rs0 log ∧ log.length ≤ 100 + (i + 1)) (fun log : List (Int × Tup Int) => Plays w rs0 log ∧ log.length ≤ 2100) z := by
  have hn : (played rs0 log).length = rs0.length := played_len log rs0
  have hps : ∀ d, played rs0 (log ++ [d]) = play1 (played rs0 log) d := fun d => played_snoc rs0 log d
  have hpl : ∀ d, Fit (played rs0 log) d.1 d.2.items w → Plays w rs0 (log ++ [d]) := fun d h => hp.snoc h
  revert hn hps hpl
  generalize played rs0 log = rs
  intro hn hps hpl
  unfold m_law_finished_l6
  simp only [Rs.bo, Rs.okl]
  rw [if_pos (show rs.length ≤ 16777216 by omega), show Rs.comp (fun _ => Rs.ok true) (fun x => m_law_finished_e1 (x, ())) rs = .ok (lvs rs) from Wm.comp_map (fun _ _ => rfl) fun _ _ => rfl]
  have hL : lvs rs ≠ [] := by intro h; have := congrArg List.length h; rw [lvs_len] at this; change rs.length = 0 at this; omega
  obtain ⟨top, ht, ht1, ht2⟩ := maxI_ok hL
  simp only [Rs.bo, ht]
  rw [Rng_nat (by omega)]
  simp only [Rs.bo]
  rw [if_pos (show (rng 0 (rs.length : Int)).length ≤ 16777216 by rw [rng0_len]; omega)]
  have hu : Rs.comp (fun x => m_law_finished_t2 (x, top, rs, ())) (fun x => m_law_finished_e3 (x, top, rs, ())) (rng 0 (rs.length : Int)) = .ok (((rng 0 (rs.length : Int)).filter fun x => decide (lvl rs x < top)).map fun x => x) := by
    refine comp_filter (fun x hx => ?_) fun _ _ _ => rfl
    have hx := mem_rng.mp hx
    obtain ⟨r1, e1, -, k1, -⟩ := row_at (rs := rs) (k := x) hx.1 hx.2
    unfold m_law_finished_t2
    simp only [Rs.bo]
    rw [e1]
    simp only [Rs.bo]
    rw [k1]
  rw [show Rs.comp (fun x => m_law_finished_t2 (x, top, rs, ())) (fun x => m_law_finished_e3 (x, top, rs, ())) (rng 0 (rs.length : Int)) = _ from hu, List.map_id']
  have hun : ∀ x ∈ (rng 0 (rs.length : Int)).filter fun x => decide (lvl rs x < top), (0 ≤ x ∧ x < rs.length) ∧ lvl rs x < top := fun x hx => ⟨mem_rng.mp (List.mem_filter.mp hx).1, of_decide_eq_true (List.mem_filter.mp hx).2⟩
  revert hun
  generalize ((rng 0 (rs.length : Int)).filter fun x => decide (lvl rs x < top)) = un
  intro hun
  simp only [Rs.bo]
  refine Rs.exi (fun _ => ⟨_, rfl, hp, by omega⟩) fun hz => ?_
  have hu0 := of_decide_eq_false hz
  have hs : Rs.comp (fun x => m_law_finished_t4 (x, top, rs, ())) (fun x => m_law_finished_e5 (x, top, rs, ())) (rng 0 (rs.length : Int)) = .ok (((rng 0 (rs.length : Int)).filter fun x => decide (lvl rs x = top)).map fun x => x) := by
    refine comp_filter (fun x hx => ?_) fun _ _ _ => rfl
    have hx := mem_rng.mp hx
    obtain ⟨r1, e1, -, k1, -⟩ := row_at (rs := rs) (k := x) hx.1 hx.2
    unfold m_law_finished_t4
    simp only [Rs.bo]
    rw [e1]
    simp only [Rs.bo]
    rw [k1]
  rw [Rng_nat (by omega)]
  simp only [Rs.bo]
  rw [if_pos (show (rng 0 (rs.length : Int)).length ≤ 16777216 by rw [rng0_len]; omega)]
  rw [show Rs.comp (fun x => m_law_finished_t4 (x, top, rs, ())) (fun x => m_law_finished_e5 (x, top, rs, ())) (rng 0 (rs.length : Int)) = _ from hs, List.map_id']
  have hsn : ∀ x ∈ (rng 0 (rs.length : Int)).filter fun x => decide (lvl rs x = top), (0 ≤ x ∧ x < rs.length) ∧ lvl rs x = top := fun x hx => ⟨mem_rng.mp (List.mem_filter.mp hx).1, of_decide_eq_true (List.mem_filter.mp hx).2⟩
  have hs1 : 1 ≤ ((rng 0 (rs.length : Int)).filter fun x => decide (lvl rs x = top)).length := by
    obtain ⟨j, j0, j1, ej⟩ := lvs_mem.mp ht1
    exact List.length_pos_of_mem (a := j) (List.mem_filter.mpr ⟨mem_rng.mpr ⟨j0, j1⟩, decide_eq_true ej⟩)
  revert hsn hs1
  generalize ((rng 0 (rs.length : Int)).filter fun x => decide (lvl rs x = top)) = so
  intro hsn hs1
  obtain ⟨s, es, hsm, -⟩ := getI_mem (xs := so) (k := 0) (by decide) (by omega)
  simp only [Rs.bo]
  rw [es]
  simp only [Rs.bo]
  obtain ⟨s01, slv⟩ := hsn s hsm
  rw [if_pos (CMul_l (show -1000000000000 ≤ (7 : Int) by omega) (by omega))]
  simp only [Rs.bo]
  rw [if_pos (show (0 : Int) < (un.length : Int) by omega)]
  have q3 := Int.emod_nonneg (pick + 7 * k) (show (un.length : Int) ≠ 0 by omega)
  have q4 := Int.emod_lt_of_pos (pick + 7 * k) (show (0 : Int) < un.length by omega)
  obtain ⟨v, ev, hv, -⟩ := getI_mem (xs := un) (k := (pick + 7 * k) % (un.length : Int)) (by omega) (by omega)
  obtain ⟨v01, vlv⟩ := hun v hv
  simp only [Rs.bo]
  rw [ev]
  simp only [Rs.bo, Rs.okl]
  rw [appI_ok (by omega)]
  simp only [Rs.bo]
  have hfit : Fit rs s [v] w := ⟨s01.1, s01.2, by simp, by simp; omega, (fun t ht => by rw [List.mem_singleton.mp ht]; exact v01), (fun i hi => by simp at hi), fun t ht => by rw [List.mem_singleton.mp ht]; omega⟩
  rw [show m_law_moved (rs, s, [v], ()) = .ok (play1 rs (s, ⟨[v]⟩)) from law_moved_ok ⟨hfit.s0, hfit.s1⟩ (rowA_get hfit.s0 hfit.s1) hfit.tin (by simp)]
  simp only [Rs.bo]
  exact ⟨_, rfl, log ++ [(s, ⟨[v]⟩)], by rw [hps], hpl _ hfit, by rw [List.length_append, List.length_singleton]; omega⟩
theorem finished_ok {rs0 : List (Int × Str)} {log : List (Int × Tup Int)} {pick w : Int} (h1 : 1 ≤ rs0.length) (h2 : rs0.length ≤ 60) (hw : 1 ≤ w) (hg : WG w rs0 log) : ∃ l2, m_law_finished (played rs0 log, log, pick, ()) = .ok l2 ∧ Plays w rs0 l2 ∧ l2.length ≤ 2100 := by
  unfold m_law_finished
  simp only [Rs.bo]
  rw [Rng_ok (by decide) (by decide) (by decide) (by decide)]
  simp only [Rs.bo]
  obtain ⟨z, e, hz⟩ := foldR_postN (f := fun (γ : Ctx.T [.ow 3 (List (Int × (Tup Int))), .fz 0 (List (Int × Str)), .fz 2 Int]) x => m_law_finished_l6 (x, γ)) (fun i γ => ∃ (log : List (Int × Tup Int)), γ = (log, played rs0 log, pick, ()) ∧ Plays w rs0 log ∧ log.length ≤ 100 + i) (fun log => Plays w rs0 log ∧ log.length ≤ 2100) (xs := rng 0 1600) 0 (g := (log, played rs0 log, pick, ()))
    ⟨log, rfl, hg.1, by have := hg.2; omega⟩ (by
    rintro j (x : Int) _ hx ⟨log, rfl, a, b⟩
    have hj := (List.getElem?_eq_some_iff.mp hx).1
    rw [rng_len] at hj
    have hm := mem_rng.mp (List.mem_of_getElem? hx)
    have hj2 : j < 1600 := hj
    rw [Nat.zero_add] at b ⊢
    exact fin_step h1 h2 hw ⟨hm.1, by omega⟩ a b (by omega))
  rw [e]
  cases z with
  | inl γ =>
    obtain ⟨log, rfl, b, c⟩ := hz
    have c2 : log.length ≤ 100 + (0 + (rng 0 1600).length) := c
    rw [rng_len] at c2
    have c3 : log.length ≤ 100 + (0 + 1600) := c2
    exact ⟨log, rfl, b, by omega⟩
  | inr log => exact ⟨log, rfl, hz⟩
/-! ### the demands that are drawn -/

/-! ### a log that is finished leaves a level sheaf -/
theorem play1_range {rs : List (Int × Str)} {d : Int × Tup Int} {w lo hi : Int} (h : Fit rs d.1 d.2.items w) (hr : ∀ r ∈ rs, lo ≤ r.1 ∧ r.1 ≤ hi) : ∀ r ∈ play1 rs d, lo ≤ r.1 ∧ r.1 ≤ hi := fun z hz => by
  rcases play1_mem h hz with e | ⟨r, hr2, e, rfl⟩
  · exact hr z e
  · have h1 := hr r hr2
    obtain ⟨t, ht⟩ := List.exists_mem_of_length_pos (show 0 < d.2.items.length by have := h.t1; omega)
    have h2 := h.low t ht
    have h3 := hr _ (rowA_mem (h.tin t ht).1 (h.tin t ht).2)
    rw [rowA_lvl (h.tin t ht).1 (h.tin t ht).2] at h3
    exact ⟨by show lo ≤ r.1 - 1; omega, by show r.1 - 1 ≤ hi; omega⟩
theorem played_range {w lo hi : Int} : ∀ {log : List (Int × Tup Int)} {rs : List (Int × Str)}, Plays w rs log → (∀ r ∈ rs, lo ≤ r.1 ∧ r.1 ≤ hi) → ∀ r ∈ played rs log, lo ≤ r.1 ∧ r.1 ≤ hi
  | [], _, _, hr => hr
  | d :: log, rs, hp, hr => played_range (log := log) (rs := play1 rs d) hp.2 (play1_range hp.1 hr)
/-- a measure of what is left to play: at most m -/
def MuI (lo : Int) (L : List Int) (m : Int) : Prop := ∃ T, (∀ x ∈ L, x ≤ T) ∧ lo ≤ T ∧ (L.length : Int) * (T - lo) + ((L.filter fun x => decide (x = T)).length : Int) ≤ m
theorem MuI.nn {lo : Int} {L : List Int} {m : Int} (h : MuI lo L m) : 0 ≤ m := by
  obtain ⟨T, -, h1, h2⟩ := h
  have := Int.mul_nonneg (show (0 : Int) ≤ (L.length : Int) by omega) (show 0 ≤ T - lo by omega)
  omega
theorem MuI.step {lo top x : Int} {L L' R : List Int} {m : Int} (h : MuI lo L m) (p : L.Perm (top :: x :: R)) (p' : L'.Perm ((top - 1) :: (top - 1) :: R)) (ht : ∀ y ∈ L, y ≤ top) (hx : x < top) (hl : lo ≤ top) : MuI lo L' (m - 1) := by
  obtain ⟨T, h1, h2, h3⟩ := h
  have hT : top ≤ T := h1 top (p.mem_iff.mpr List.mem_cons_self)
  have len : L'.length = L.length := by rw [p.length_eq, p'.length_eq]; simp
  have norm : (L.length : Int) * (top - lo) + ((L.filter fun x => decide (x = top)).length : Int) ≤ m := by
    by_cases c : top = T
    · subst c; exact h3
    · have a1 : ((L.filter fun x => decide (x = top)).length : Int) ≤ L.length := by have := List.length_filter_le (fun x => decide (x = top)) L; omega
      have a2 : (L.length : Int) * (top - lo) + (L.length : Int) ≤ (L.length : Int) * (T - lo) := by
        rw [show (L.length : Int) * (top - lo) + (L.length : Int) = (L.length : Int) * (top - lo + 1) by rw [Int.mul_add, Int.mul_one]]
        exact Int.mul_le_mul_of_nonneg_left (by omega) (by omega)
      omega
  refine ⟨top, fun y hy => ?_, hl, ?_⟩
  · have hy := p'.mem_iff.mp hy
    simp only [List.mem_cons] at hy
    rcases hy with e | e | e
    · omega
    · omega
    · exact ht y (p.mem_iff.mpr (List.mem_cons_of_mem _ (List.mem_cons_of_mem _ e)))
  · have c1 : (L.filter fun x => decide (x = top)).length = (R.filter fun x => decide (x = top)).length + 1 := by
      rw [(p.filter _).length_eq, List.filter_cons, if_pos (decide_eq_true rfl), List.filter_cons, if_neg (by rw [decide_eq_false (show ¬ x = top by omega)]; decide), List.length_cons]
    have c2 : (L'.filter fun x => decide (x = top)).length = (R.filter fun x => decide (x = top)).length := by
      rw [(p'.filter _).length_eq, List.filter_cons, if_neg (by rw [decide_eq_false (show ¬ top - 1 = top by omega)]; decide), List.filter_cons, if_neg (by rw [decide_eq_false (show ¬ top - 1 = top by omega)]; decide)]
    rw [len]
    omega
theorem fin_level {rs0 : List (Int × Str)} {log : List (Int × Tup Int)} {k pick w lo m : Int} {i : Nat} (h1 : 1 ≤ rs0.length) (h2 : rs0.length ≤ 60) (hw : 1 ≤ w) (hk : 0 ≤ k ∧ k ≤ 2000) (hp : Plays w rs0 log) (hl : log.length ≤ 100 + i) (hi : i ≤ 2000) (hlo : ∀ r ∈ played rs0 log, lo ≤ r.1) (hm : MuI lo (lvs (played rs0 log)) m) :
    ∃ z, m_law_finished_l6 (k, log, played rs0 log, pick, ()) = .ok z ∧ EiN (fun γ : List (Int × Tup Int) × List (Int × Str) × Int × Unit => ∃ (log : List (Int × Tup Int)), γ = (log, played rs0 log, pick, ()) ∧ Plays w rs0 log ∧ log.length ≤ 100 + (i + 1) ∧ MuI lo (lvs (played rs0 log)) (m - 1)) (fun log : List (Int × Tup Int) => Plays w rs0 log ∧ log.length ≤ 2100 ∧ ∀ a ∈ played rs0 log, ∀ b ∈ played rs0 log, a.1 = b.1) z := by
  have hn : (played rs0 log).length = rs0.length := played_len log rs0
  have hps : ∀ d, played rs0 (log ++ [d]) = play1 (played rs0 log) d := fun d => played_snoc rs0 log d
  have hpl : ∀ d, Fit (played rs0 log) d.1 d.2.items w → Plays w rs0 (log ++ [d]) := fun d h => hp.snoc h
  revert hn hps hpl hm hlo
  generalize hrs : played rs0 log = rs
  intro hlo hm hn hps hpl
  unfold m_law_finished_l6
  simp only [Rs.bo, Rs.okl]
  rw [if_pos (show rs.length ≤ 16777216 by omega), show Rs.comp (fun _ => Rs.ok true) (fun x => m_law_finished_e1 (x, ())) rs = .ok (lvs rs) from Wm.comp_map (fun _ _ => rfl) fun _ _ => rfl]
  have hL : lvs rs ≠ [] := by intro h; have := congrArg List.length h; rw [lvs_len] at this; change rs.length = 0 at this; omega
  obtain ⟨top, ht, ht1, ht2⟩ := maxI_ok hL
  simp only [Rs.bo, ht]
  rw [Rng_nat (by omega)]
  simp only [Rs.bo]
  rw [if_pos (show (rng 0 (rs.length : Int)).length ≤ 16777216 by rw [rng0_len]; omega)]
  have hu : Rs.comp (fun x => m_law_finished_t2 (x, top, rs, ())) (fun x => m_law_finished_e3 (x, top, rs, ())) (rng 0 (rs.length : Int)) = .ok (((rng 0 (rs.length : Int)).filter fun x => decide (lvl rs x < top)).map fun x => x) := by
    refine comp_filter (fun x hx => ?_) fun _ _ _ => rfl
    have hx := mem_rng.mp hx
    obtain ⟨r1, e1, -, k1, -⟩ := row_at (rs := rs) (k := x) hx.1 hx.2
    unfold m_law_finished_t2
    simp only [Rs.bo]
    rw [e1]
    simp only [Rs.bo]
    rw [k1]
  rw [show Rs.comp (fun x => m_law_finished_t2 (x, top, rs, ())) (fun x => m_law_finished_e3 (x, top, rs, ())) (rng 0 (rs.length : Int)) = _ from hu, List.map_id']
  have hun : ∀ x ∈ (rng 0 (rs.length : Int)).filter fun x => decide (lvl rs x < top), (0 ≤ x ∧ x < rs.length) ∧ lvl rs x < top := fun x hx => ⟨mem_rng.mp (List.mem_filter.mp hx).1, of_decide_eq_true (List.mem_filter.mp hx).2⟩
  have hnone : ((rng 0 (rs.length : Int)).filter fun x => decide (lvl rs x < top)).length = 0 → ∀ a ∈ rs, a.1 = top := fun z a ha => by
    obtain ⟨j, hj⟩ := List.mem_iff_getElem?.mp ha
    have hj2 := (List.getElem?_eq_some_iff.mp hj).1
    have e1 : lvl rs (j : Int) = a.1 := by unfold lvl; rw [Int.toNat_natCast, hj]; rfl
    have := List.filter_eq_nil_iff.mp (List.length_eq_zero_iff.mp z) (j : Int) (mem_rng.mpr ⟨by omega, by omega⟩)
    have n1 : ¬ lvl rs (j : Int) < top := fun y => this (decide_eq_true y)
    have := ht2 a.1 (List.mem_map.mpr ⟨a, ha, rfl⟩)
    omega
  revert hun hnone
  generalize ((rng 0 (rs.length : Int)).filter fun x => decide (lvl rs x < top)) = un
  intro hun hnone
  simp only [Rs.bo]
  refine Rs.exi (fun hz => ⟨_, rfl, hp, by omega, fun a ha b hb => by
    rw [hrs] at ha hb
    have hz := of_decide_eq_true hz
    rw [hnone (by omega) a ha, hnone (by omega) b hb]⟩) fun hz => ?_
  have hu0 := of_decide_eq_false hz
  have hs : Rs.comp (fun x => m_law_finished_t4 (x, top, rs, ())) (fun x => m_law_finished_e5 (x, top, rs, ())) (rng 0 (rs.length : Int)) = .ok (((rng 0 (rs.length : Int)).filter fun x => decide (lvl rs x = top)).map fun x => x) := by
    refine comp_filter (fun x hx => ?_) fun _ _ _ => rfl
    have hx := mem_rng.mp hx
    obtain ⟨r1, e1, -, k1, -⟩ := row_at (rs := rs) (k := x) hx.1 hx.2
    unfold m_law_finished_t4
    simp only [Rs.bo]
    rw [e1]
    simp only [Rs.bo]
    rw [k1]
  rw [Rng_nat (by omega)]
  simp only [Rs.bo]
  rw [if_pos (show (rng 0 (rs.length : Int)).length ≤ 16777216 by rw [rng0_len]; omega)]
  rw [show Rs.comp (fun x => m_law_finished_t4 (x, top, rs, ())) (fun x => m_law_finished_e5 (x, top, rs, ())) (rng 0 (rs.length : Int)) = _ from hs, List.map_id']
  have hsn : ∀ x ∈ (rng 0 (rs.length : Int)).filter fun x => decide (lvl rs x = top), (0 ≤ x ∧ x < rs.length) ∧ lvl rs x = top := fun x hx => ⟨mem_rng.mp (List.mem_filter.mp hx).1, of_decide_eq_true (List.mem_filter.mp hx).2⟩
  have hs1 : 1 ≤ ((rng 0 (rs.length : Int)).filter fun x => decide (lvl rs x = top)).length := by
    obtain ⟨j, j0, j1, ej⟩ := lvs_mem.mp ht1
    exact List.length_pos_of_mem (a := j) (List.mem_filter.mpr ⟨mem_rng.mpr ⟨j0, j1⟩, decide_eq_true ej⟩)
  revert hsn hs1
  generalize ((rng 0 (rs.length : Int)).filter fun x => decide (lvl rs x = top)) = so
  intro hsn hs1
  obtain ⟨s, es, hsm, -⟩ := getI_mem (xs := so) (k := 0) (by decide) (by omega)
  simp only [Rs.bo]
  rw [es]
  simp only [Rs.bo]
  obtain ⟨s01, slv⟩ := hsn s hsm
  rw [if_pos (CMul_l (show -1000000000000 ≤ (7 : Int) by omega) (by omega))]
  simp only [Rs.bo]
  rw [if_pos (show (0 : Int) < (un.length : Int) by omega)]
  have q3 := Int.emod_nonneg (pick + 7 * k) (show (un.length : Int) ≠ 0 by omega)
  have q4 := Int.emod_lt_of_pos (pick + 7 * k) (show (0 : Int) < un.length by omega)
  obtain ⟨v, ev, hv, -⟩ := getI_mem (xs := un) (k := (pick + 7 * k) % (un.length : Int)) (by omega) (by omega)
  obtain ⟨v01, vlv⟩ := hun v hv
  simp only [Rs.bo]
  rw [ev]
  simp only [Rs.bo, Rs.okl]
  rw [appI_ok (by omega)]
  simp only [Rs.bo]
  have hfit : Fit rs s [v] w := ⟨s01.1, s01.2, by simp, by simp; omega, (fun t ht => by rw [List.mem_singleton.mp ht]; exact v01), (fun i hi => by simp at hi), fun t ht => by rw [List.mem_singleton.mp ht]; omega⟩
  rw [show m_law_moved (rs, s, [v], ()) = .ok (play1 rs (s, ⟨[v]⟩)) from law_moved_ok ⟨hfit.s0, hfit.s1⟩ (rowA_get hfit.s0 hfit.s1) hfit.tin (by simp)]
  simp only [Rs.bo]
  refine ⟨_, rfl, log ++ [(s, ⟨[v]⟩)], by rw [hps], hpl _ hfit, by rw [List.length_append, List.length_singleton]; omega, ?_⟩
  rw [hps, lvs_play ⟨hfit.s0, hfit.s1, by simp, by simp, hfit.tin, hfit.asc, hfit.low⟩]
  have hne : s ≠ v := fun e => by rw [e] at slv; omega
  obtain ⟨R, p, p'⟩ := set2_perm (L := lvs rs) (lvs_at s01.1 s01.2) (lvs_at v01.1 v01.2) (fun e => hne (by omega)) (lvl rs s - 1)
  rw [slv] at p p' ⊢
  exact hm.step p p' (fun y hy => ht2 y hy) vlv (by
    obtain ⟨r, hr, e⟩ := List.mem_map.mp ht1
    have := hlo r hr
    omega)
theorem finished_level {rs0 : List (Int × Str)} {log : List (Int × Tup Int)} {pick w lo : Int} (h1 : 1 ≤ rs0.length) (h2 : rs0.length ≤ 16) (hw : 1 ≤ w) (hg : WG w rs0 log) (hlo : ∀ r ∈ rs0, lo ≤ r.1 ∧ r.1 ≤ lo + 40) : ∃ l2, m_law_finished (played rs0 log, log, pick, ()) = .ok l2 ∧ Plays w rs0 l2 ∧ l2.length ≤ 2100 ∧ ∀ a ∈ played rs0 l2, ∀ b ∈ played rs0 l2, a.1 = b.1 := by
  have hr := played_range hg.1 hlo
  have hmu : MuI lo (lvs (played rs0 log)) 700 := by
    have hn : (lvs (played rs0 log)).length = rs0.length := by rw [lvs_len, played_len]
    refine ⟨lo + 40, fun x hx => ?_, by omega, ?_⟩
    · obtain ⟨r, hr2, rfl⟩ := List.mem_map.mp hx
      exact (hr r hr2).2
    · have := List.length_filter_le (fun x => decide (x = lo + 40)) (lvs (played rs0 log))
      rw [hn, show lo + 40 - lo = 40 by omega]
      omega
  unfold m_law_finished
  simp only [Rs.bo]
  rw [Rng_ok (by decide) (by decide) (by decide) (by decide)]
  simp only [Rs.bo]
  obtain ⟨z, e, hz⟩ := foldR_postN (f := fun (γ : Ctx.T [.ow 3 (List (Int × (Tup Int))), .fz 0 (List (Int × Str)), .fz 2 Int]) x => m_law_finished_l6 (x, γ)) (fun i γ => ∃ (log : List (Int × Tup Int)), γ = (log, played rs0 log, pick, ()) ∧ Plays w rs0 log ∧ log.length ≤ 100 + i ∧ MuI lo (lvs (played rs0 log)) (700 - i)) (fun log => Plays w rs0 log ∧ log.length ≤ 2100 ∧ ∀ a ∈ played rs0 log, ∀ b ∈ played rs0 log, a.1 = b.1) (xs := rng 0 1600) 0 (g := (log, played rs0 log, pick, ()))
    ⟨log, rfl, hg.1, by have := hg.2; omega, by rw [show (700 : Int) - ((0 : Nat) : Int) = 700 from rfl]; exact hmu⟩ (by
    rintro j (x : Int) _ hx ⟨log, rfl, a, b, c⟩
    have hj := (List.getElem?_eq_some_iff.mp hx).1
    rw [rng_len] at hj
    have hm := mem_rng.mp (List.mem_of_getElem? hx)
    have hj2 : j < 1600 := hj
    rw [Nat.zero_add] at b c ⊢
    have := fin_level (k := x) (pick := pick) h1 (by omega) hw ⟨hm.1, by omega⟩ a b (by omega) (fun r hr => (played_range a hlo r hr).1) c
    rw [show (700 : Int) - ((j + 1 : Nat) : Int) = 700 - (j : Int) - 1 by omega]
    exact this)
  rw [e]
  cases z with
  | inl γ =>
    obtain ⟨log, rfl, b, c, d⟩ := hz
    have d := MuI.nn d
    rw [rng_len] at d
    have d2 : (0 : Int) ≤ 700 - ((0 + 1600 : Nat) : Int) := d
    omega
  | inr log => exact ⟨log, rfl, hz⟩

/-! ### the sheaf and its names -/
theorem given_ex (ns : List Int) (k : Int) (h : 0 ≤ k ∧ k ≤ 100) : ∃ c, m_law_given (⟨ns⟩, k, ()) = .ok c := by
  unfold m_law_given
  simp only [Rs.bo, Rs.okl]
  obtain ⟨c0, hc0⟩ := cell_ex ⟨ns⟩ 0 (by decide)
  rw [hc0]
  simp only [Rs.bo]
  refine (show ∀ {x : Rs Int}, (∃ c, x = .ok c ∧ True) → ∃ c, x = .ok c from fun ⟨c, e, _⟩ => ⟨c, e⟩) (Rs.exi (fun c => ?_) fun _ => ?_)
  · have c := of_decide_eq_true c
    obtain ⟨a, e, -, -⟩ := getI_mem (xs := ns) h.1 c
    rw [e]
    exact ⟨a, rfl, trivial⟩
  · rw [if_pos (CMul_l (by decide) (by decide))]
    simp only [Rs.bo]
    rw [if_pos (CMul_l (by decide) (by decide))]
    exact ⟨_, rfl, trivial⟩
structure W56 (rows : List (Int × Str)) (nm : List Str) : Prop where
  ne : 1 ≤ rows.length
  le : rows.length ≤ 16
  rec' : ∀ r ∈ rows, IsRec r.2
  lv : ∃ b : Int, (-900 ≤ b ∧ b ≤ 900) ∧ ∀ r ∈ rows, b ≤ r.1 ∧ r.1 ≤ b + 40
  str : ∃ s, nm[rows.length]? = some s ∧ IsRec s ∧ s ∉ rows.map (·.2)
  nl : nm.length = rows.length + 1
theorem cells_at {n : Nat} {sp : Int} {ds : List Int} (hD : Drawn (List.replicate n [sp, 2, 840]).flatten ds) {k j : Nat} (hk : k < n) (hj : j < 3) {s : Int} (hs : ([sp, 2, 840] : List Int)[j]? = some s) : ∃ d : Int, getI ds (3 * (k : Int) + (j : Int)) = .ok d ∧ 0 ≤ d ∧ d < s := by
  have h : ((List.replicate n [sp, 2, 840]).flatten)[3 * k + j]? = some s := by
    rw [rep_get n (3 * k + j) (by show 3 * k + j < n * 3; omega)]
    show ([sp, 2, 840] : List Int)[(3 * k + j) % 3]? = some s
    rw [show (3 * k + j) % 3 = j by omega]
    exact hs
  obtain ⟨d, e, -, l, u⟩ := hD.get h
  exact ⟨d, by rw [← e, show ((3 * k + j : Nat) : Int) = 3 * (k : Int) + (j : Int) by omega], l, u⟩
theorem sheets_ok (ns : List Int) : ∃ rows nm, m_law_sheets (⟨ns⟩, 6, 5, 7, 10, 5, 8, 1, ()) = .ok (rows, nm) ∧ W56 rows nm := by
  unfold m_law_sheets
  obtain ⟨c0, hc0⟩ := given_ex ns 0 (by decide)
  obtain ⟨c1, hc1⟩ := given_ex ns 1 (by decide)
  obtain ⟨c2, hc2⟩ := given_ex ns 2 (by decide)
  obtain ⟨ds, hds, hdD⟩ := draws_ok c0 [8, 8, 16, 13, 6, 4, 10, 5, 4, 40, 2, 840, 8] (by intro s hs; simp only [List.mem_cons, List.not_mem_nil, or_false] at hs; omega) (by simp)
  obtain ⟨d0, gd0, ld0, ud0⟩ := Drawn.g hdD 0 (by decide) rfl
  obtain ⟨d1, gd1, ld1, ud1⟩ := Drawn.g hdD 1 (by decide) rfl
  obtain ⟨d2, gd2, ld2, ud2⟩ := Drawn.g hdD 2 (by decide) rfl
  obtain ⟨d3, gd3, ld3, ud3⟩ := Drawn.g hdD 3 (by decide) rfl
  obtain ⟨d4, gd4, ld4, ud4⟩ := Drawn.g hdD 4 (by decide) rfl
  obtain ⟨d5, gd5, ld5, ud5⟩ := Drawn.g hdD 5 (by decide) rfl
  obtain ⟨d6, gd6, ld6, ud6⟩ := Drawn.g hdD 6 (by decide) rfl
  obtain ⟨d7, gd7, ld7, ud7⟩ := Drawn.g hdD 7 (by decide) rfl
  obtain ⟨d8, gd8, ld8, ud8⟩ := Drawn.g hdD 8 (by decide) rfl
  obtain ⟨d9, gd9, ld9, ud9⟩ := Drawn.g hdD 9 (by decide) rfl
  obtain ⟨d10, gd10, ld10, ud10⟩ := Drawn.g hdD 10 (by decide) rfl
  obtain ⟨d11, gd11, ld11, ud11⟩ := Drawn.g hdD 11 (by decide) rfl
  obtain ⟨d12, gd12, ld12, ud12⟩ := Drawn.g hdD 12 (by decide) rfl
  simp only [Rs.bo, Rs.okl, hc0, show (5 : Int) - 1 = 4 from rfl, hds, gd4, gd5, gd1, gd6, gd7, gd8, gd0, gd12]
  suffices z : ∃ p, _ = Rs.ok p ∧ ∃ rows nm, p = ((rows, nm) : List (Int × Str) × List Str) ∧ W56 rows nm by
    obtain ⟨p, e, rows, nm, rfl, h⟩ := z
    exact ⟨rows, nm, e, h⟩
  refine Rs.exb (fun γ => ∃ sp c : Int, γ = (sp, c, ds, ⟨ns⟩, 1, ()) ∧ 1 ≤ sp ∧ sp ≤ 5 ∧ 1 ≤ c ∧ c ≤ 16) ?_ ?_
  · exact Rs.exi (fun _ => ⟨_, rfl, _, _, rfl, by omega, by omega, by omega, by omega⟩) fun _ => ⟨_, rfl, _, _, rfl, by omega, by omega, by omega, by omega⟩
  rintro _ ⟨sp, c, rfl, s0, s1, k0, k1⟩
  simp only [Rs.bo, gd0, gd8, gd12]
  refine Rs.exb (fun γ => ∃ sh c : Int, γ = (sh, sp, c, ds, ⟨ns⟩, 1, ()) ∧ 1 ≤ c ∧ c ≤ 16) ?_ ?_
  · exact Rs.exi (fun _ => ⟨_, rfl, _, _, rfl, by omega, by omega⟩) fun _ => ⟨_, rfl, _, _, rfl, by omega, by omega⟩
  clear k0 k1 c
  rintro _ ⟨sh, c, rfl, k0, k1⟩
  simp only [Rs.bo]
  refine Rs.exb (fun γ => ∃ c : Int, γ = (sh, sp, c, ds, ⟨ns⟩, 1, ()) ∧ 1 ≤ c ∧ c ≤ 16) ?_ ?_
  · exact Rs.exi (fun _ => ⟨_, rfl, _, rfl, by omega, by omega⟩) fun _ => ⟨_, rfl, _, rfl, by omega, by omega⟩
  clear k0 k1 c
  rintro _ ⟨c, rfl, k0, k1⟩
  obtain ⟨n, rfl⟩ := Int.eq_ofNat_of_zero_le (show 0 ≤ c by omega)
  simp only [Rs.bo, hc1, Rs.okl]
  rw [repI_ok (by omega) (by omega) (by simp; omega), show ((n : Int)).toNat = n from Int.toNat_natCast n]
  simp only [Rs.bo]
  obtain ⟨cs, hcs, hcD⟩ := draws_ok c1 (List.replicate n [sp, 2, 840]).flatten (fun s hs => by
    have := rep_mem hs
    simp only [List.mem_cons, List.not_mem_nil, or_false] at this
    omega) (by rw [rep_flen]; show n * 3 ≤ _; omega)
  rw [hcs]
  simp only [Rs.bo]
  rw [Rng_nat (by omega)]
  simp only [Rs.bo]
  rw [if_pos (by rw [rng0_len]; omega)]
  obtain ⟨lv, e1, l1, h1⟩ := comp_ex (t := fun (_ : Int) => Rs.ok true) (f := fun x => m_law_sheets_e1 (x, cs, ())) (fun _ (l : Int) => 0 ≤ l ∧ l ≤ 40) (xs := rng 0 n) (fun _ _ => rfl) (by
    intro i x hx
    obtain ⟨hi, rfl⟩ := rng_get hx
    obtain ⟨d, gd, ld, ud⟩ := cells_at hcD (k := i) (j := 0) (by omega) (by decide) rfl
    show ∃ y, m_law_sheets_e1 ((0 : Int) + (i : Int), cs, ()) = .ok y ∧ _
    unfold m_law_sheets_e1
    simp only [Rs.bo]
    rw [if_pos (CMul_l (by decide) (by decide))]
    simp only [Rs.bo]
    rw [show 3 * (0 + (i : Int)) = 3 * (i : Int) + ((0 : Nat) : Int) by omega, gd]
    exact ⟨_, rfl, ld, by omega⟩)
  rw [e1]
  rw [rng0_len] at l1
  have h1 : ∀ l ∈ lv, 0 ≤ l ∧ l ≤ 40 := fun l hl => by obtain ⟨i, hi⟩ := List.mem_iff_getElem?.mp hl; exact h1 i l hi
  simp only [Rs.bo]
  refine Rs.exb (fun γ => ∃ lv : List Int, γ = (lv, cs, sh, (n : Int), ds, ⟨ns⟩, 1, ()) ∧ lv.length = n ∧ ∀ l ∈ lv, 0 ≤ l ∧ l ≤ 40) ?_ ?_
  · refine Rs.exi (fun _ => ?_) fun _ => ⟨_, rfl, lv, rfl, l1, h1⟩
    rw [repI_one (by omega) (by omega)]
    exact ⟨_, rfl, _, rfl, by rw [List.length_replicate, Int.toNat_natCast], fun l hl => by rw [(List.mem_replicate.mp hl).2]; exact ⟨by decide, by decide⟩⟩
  clear l1 h1 e1
  rintro _ ⟨lv, rfl, l1, h1⟩
  simp only [Rs.bo]
  refine Rs.exb (fun γ => ∃ lv : List Int, γ = (lv, cs, sh, (n : Int), ds, ⟨ns⟩, 1, ()) ∧ lv.length = n ∧ ∀ l ∈ lv, 0 ≤ l ∧ l ≤ 40) ?_ ?_
  · refine Rs.exi (fun _ => ?_) fun _ => ⟨_, rfl, lv, rfl, l1, h1⟩
    rw [Rng_nat (by omega)]
    simp only [Rs.bo]
    rw [if_pos (by rw [rng0_len]; omega)]
    obtain ⟨lv', e1', l1', h1'⟩ := comp_ex (t := fun (_ : Int) => Rs.ok true) (f := fun x => m_law_sheets_e2 (x, cs, ds, ())) (fun _ (l : Int) => 0 ≤ l ∧ l ≤ 40) (xs := rng 0 n) (fun _ _ => rfl) (by
      intro i x hx
      obtain ⟨hi, rfl⟩ := rng_get hx
      obtain ⟨d, gd, ld, ud⟩ := cells_at hcD (k := i) (j := 1) (by omega) (by decide) rfl
      show ∃ y, m_law_sheets_e2 ((0 : Int) + (i : Int), cs, ds, ()) = .ok y ∧ _
      unfold m_law_sheets_e2
      simp only [Rs.bo, gd9]
      rw [if_pos (CMul_l (by decide) (by decide))]
      simp only [Rs.bo]
      rw [show 3 * (0 + (i : Int)) + 1 = 3 * (i : Int) + ((1 : Nat) : Int) by omega, gd]
      simp only [Rs.bo]
      rw [if_pos (CMul_l (by omega) (by omega))]
      have hd : d = 0 ∨ d = 1 := by omega
      exact ⟨_, rfl, by rcases hd with rfl | rfl <;> omega, by rcases hd with rfl | rfl <;> omega⟩)
    rw [e1']
    rw [rng0_len] at l1'
    exact ⟨_, rfl, lv', rfl, l1', fun l hl => by obtain ⟨i, hi⟩ := List.mem_iff_getElem?.mp hl; exact h1' i l hi⟩
  clear l1 h1
  rintro _ ⟨lv, rfl, l1, h1⟩
  simp only [Rs.bo]
  refine Rs.exb (fun γ => ∃ lv : List Int, γ = (lv, cs, (n : Int), ds, ⟨ns⟩, 1, ()) ∧ lv.length = n ∧ ∀ l ∈ lv, 0 ≤ l ∧ l ≤ 40) ?_ ?_
  · refine Rs.exi (fun _ => ?_) fun _ => ⟨_, rfl, lv, rfl, l1, h1⟩
    rw [Rng_nat (by omega)]
    simp only [Rs.bo]
    rw [if_pos (by rw [rng0_len]; omega)]
    obtain ⟨lv', e1', l1', h1'⟩ := comp_ex (t := fun (_ : Int) => Rs.ok true) (f := fun x => m_law_sheets_e3 (x, (n : Int), ds, ())) (fun _ (l : Int) => 0 ≤ l ∧ l ≤ 40) (xs := rng 0 n) (fun _ _ => rfl) (by
      intro i x hx
      obtain ⟨hi, rfl⟩ := rng_get hx
      show ∃ y, m_law_sheets_e3 ((0 : Int) + (i : Int), (n : Int), ds, ()) = .ok y ∧ _
      unfold m_law_sheets_e3
      simp only [Rs.bo, gd9]
      rw [if_pos (show (0 : Int) < (n : Int) by omega)]
      have q1 := Int.emod_nonneg (0 + (i : Int) + d9) (show (n : Int) ≠ 0 by omega)
      have q2 := Int.emod_lt_of_pos (0 + (i : Int) + d9) (show (0 : Int) < n by omega)
      exact ⟨_, rfl, q1, by omega⟩)
    rw [e1']
    rw [rng0_len] at l1'
    exact ⟨_, rfl, lv', rfl, l1', fun l hl => by obtain ⟨i, hi⟩ := List.mem_iff_getElem?.mp hl; exact h1' i l hi⟩
  clear l1 h1
  rintro _ ⟨lv, rfl, l1, h1⟩
  simp only [Rs.bo, gd2, gd3]
  refine Rs.exb (fun γ => ∃ b : Int, γ = (b, lv, cs, (n : Int), ds, ⟨ns⟩, 1, ()) ∧ -900 ≤ b ∧ b ≤ 900) ?_ ?_
  · refine Rs.exi (fun _ => ?_) fun _ => ⟨_, rfl, _, rfl, by omega, by omega⟩
    rw [if_pos (CDiv_of (by decide) (by decide))]
    simp only [Rs.bo]
    rw [if_pos (CMul_l (by decide) (by decide))]
    exact ⟨_, rfl, _, rfl, by omega, by omega⟩
  rintro _ ⟨b, rfl, b0, b1⟩
  simp only [Rs.bo, hc2]
  obtain ⟨nm, en, ln, rn, nn⟩ := names_nd c2 (n + 1) (by omega)
  rw [show (n : Int) + 1 = ((n + 1 : Nat) : Int) by omega, en]
  simp only [Rs.bo]
  rw [RngL_ok (by omega) (by omega) (by omega) (by omega) (by omega)]
  simp only [Rs.bo, decide_true, if_true, gd11]
  have q1 := Int.emod_nonneg d11 (show (n : Int) ≠ 0 by omega)
  have q2 := Int.emod_lt_of_pos d11 (show (0 : Int) < n by omega)
  rw [if_pos (show (0 : Int) < (n : Int) by omega)]
  simp only [Rs.bo]
  generalize d11 % (n : Int) = q at q1 q2
  rw [Rng_nat (by omega)]
  simp only [Rs.bo]
  rw [if_pos (by rw [rng0_len]; omega)]
  obtain ⟨pk, e1', l1', h1'⟩ := comp_ex (t := fun (_ : Int) => Rs.ok true) (f := fun x => m_law_sheets_e4 (x, 1 + q, cs, ())) (fun _ (l : Int) => 0 ≤ l ∧ l < n) (xs := rng 0 n) (fun _ _ => rfl) (by
    intro i x hx
    obtain ⟨hi, rfl⟩ := rng_get hx
    obtain ⟨d, gd, ld, ud⟩ := cells_at hcD (k := i) (j := 2) (by omega) (by decide) rfl
    show ∃ y, m_law_sheets_e4 ((0 : Int) + (i : Int), 1 + q, cs, ()) = .ok y ∧ _
    unfold m_law_sheets_e4
    simp only [Rs.bo]
    rw [if_pos (CMul_l (by decide) (by decide))]
    simp only [Rs.bo]
    rw [show 3 * (0 + (i : Int)) + 2 = 3 * (i : Int) + ((2 : Nat) : Int) by omega, gd]
    simp only [Rs.bo]
    rw [if_pos (show 0 < 1 + q by omega)]
    have r1 := Int.emod_nonneg d (show 1 + q ≠ 0 by omega)
    have r2 := Int.emod_lt_of_pos d (show 0 < 1 + q by omega)
    exact ⟨_, rfl, r1, by omega⟩)
  rw [e1']
  rw [rng0_len] at l1'
  have hp : ∀ p ∈ pk, 0 ≤ p ∧ p < n := fun l hl => by obtain ⟨i, hi⟩ := List.mem_iff_getElem?.mp hl; exact h1' i l hi
  have lp := l1'
  simp only [Rs.bo, show decide ((1 : Int) = 3) = false from rfl, Bool.false_eq_true, if_false]
  unfold m_law_sheets_b8
  simp only [Rs.bo]
  rw [Rng_nat (by omega)]
  simp only [Rs.bo]
  rw [if_pos (by rw [rng0_len]; omega)]
  obtain ⟨rows, e2, l2, h2⟩ := comp_ex (t := fun (_ : Int) => Rs.ok true) (f := fun x => m_law_sheets_e7 (x, pk, nm, b, lv, ())) (fun _ (r : Int × Str) => b ≤ r.1 ∧ r.1 ≤ b + 40 ∧ ∃ p : Nat, p < n ∧ nm[p]? = some r.2) (xs := rng 0 n) (fun _ _ => rfl) (by
    intro i x hx
    obtain ⟨hi, rfl⟩ := rng_get hx
    obtain ⟨l, gl, ml, -⟩ := getI_mem (xs := lv) (k := (0 : Int) + (i : Int)) (by omega) (by omega)
    obtain ⟨p, gp, mp, -⟩ := getI_mem (xs := pk) (k := (0 : Int) + (i : Int)) (by omega) (by omega)
    have hpb := hp p mp
    have hlb := h1 l ml
    obtain ⟨t, gt, -, et⟩ := getI_mem (xs := nm) (k := p) (by omega) (by omega)
    show ∃ y, m_law_sheets_e7 ((0 : Int) + (i : Int), pk, nm, b, lv, ()) = .ok y ∧ _
    unfold m_law_sheets_e7
    simp only [Rs.bo, gl, gp, gt]
    exact ⟨_, rfl, by show b ≤ b + l; omega, by show b + l ≤ _; omega, p.toNat, by omega, et⟩)
  rw [e2]
  rw [rng0_len] at l2
  have h2 : ∀ r ∈ rows, b ≤ r.1 ∧ r.1 ≤ b + 40 ∧ ∃ p : Nat, p < n ∧ nm[p]? = some r.2 := fun r hr => by obtain ⟨i, hi⟩ := List.mem_iff_getElem?.mp hr; exact h2 i r hi
  simp only [Rs.bo]
  obtain ⟨s, hs⟩ : ∃ s, nm[rows.length]? = some s := ⟨_, List.getElem?_eq_getElem (by omega)⟩
  refine ⟨_, rfl, rows, nm, rfl, by omega, by omega, fun r hr => ?_, ⟨b, ⟨b0, b1⟩, fun r hr => ⟨(h2 r hr).1, (h2 r hr).2.1⟩⟩, ⟨s, hs, rn s (List.mem_of_getElem? hs), fun z => ?_⟩, by omega⟩
  · obtain ⟨-, -, p, -, e⟩ := h2 r hr
    exact rn _ (List.mem_of_getElem? e)
  · obtain ⟨r, hr, rfl⟩ := List.mem_map.mp z
    obtain ⟨-, -, p, hpn, e⟩ := h2 r hr
    have := (List.getElem?_inj (by omega) nn).mp (e.trans hs.symm)
    omega
/-! ### the states on the way -/
def trail : List (Int × Str) → List (Int × Tup Int) → List (List (Int × Str))
  | _, [] => []
  | rs, d :: log => play1 rs d :: trail (play1 rs d) log
theorem trail_len : ∀ (log : List (Int × Tup Int)) (rs : List (Int × Str)), (trail rs log).length = log.length
  | [], _ => rfl
  | d :: log, rs => by rw [trail, List.length_cons, trail_len log, List.length_cons]
theorem trail_at : ∀ (log : List (Int × Tup Int)) (rs : List (Int × Str)) (k : Nat), k ≤ log.length → (rs :: trail rs log)[k]? = some (played rs (log.take k))
  | _, _, 0, _ => rfl
  | [], _, k + 1, h => by simp at h
  | d :: log, rs, k + 1, h => by
    rw [trail, List.getElem?_cons_succ, trail_at log (play1 rs d) k (by simpa using h)]
    rfl
theorem Plays.cut {w : Int} : ∀ {log : List (Int × Tup Int)} {rs : List (Int × Str)} (k : Nat), Plays w rs log → Plays w (played rs (log.take k)) (log.drop k) ∧ Plays w rs (log.take k)
  | _, _, 0, h => ⟨h, trivial⟩
  | [], _, _ + 1, _ => ⟨trivial, trivial⟩
  | _ :: _, _, k + 1, h => ⟨(Plays.cut k h.2).1, h.1, (Plays.cut k h.2).2⟩
theorem played_cut (log : List (Int × Tup Int)) (rs : List (Int × Str)) (k : Nat) : played (played rs (log.take k)) (log.drop k) = played rs log := by
  unfold played
  rw [← List.foldl_append, List.take_append_drop]
theorem Plays.wide {w v : Int} (h : w ≤ v) : ∀ {log : List (Int × Tup Int)} {rs : List (Int × Str)}, Plays w rs log → Plays v rs log
  | [], _, _ => trivial
  | _ :: _, _, p => ⟨⟨p.1.s0, p.1.s1, p.1.t1, Int.le_trans p.1.tw h, p.1.tin, p.1.asc, p.1.low⟩, Plays.wide h p.2⟩
theorem walk_fold {w : Int} (hw : w ≤ 1000) {all : List (Int × Tup Int)} : ∀ (log : List (Int × Tup Int)) (rs : List (Int × Str)) (acc : List (List (Int × Str))), Plays w rs log → acc.length + log.length ≤ 100000 →
    Rs.fold (fun (γ : Ctx.T [.ow 2 (List (List (Int × Str))), .fz 0 (List (Int × Str)), .bo 1 (List (Int × (Tup Int)))]) x => m_law_walk_l1 (x, γ)) (acc, rs, all, ()) log = .ok (acc ++ trail rs log, played rs log, all, ())
  | [], rs, acc, _, _ => by rw [trail, List.append_nil]; rfl
  | d :: log, rs, acc, hp, hl => by
    rw [List.length_cons] at hl
    have F := hp.1
    have e : m_law_walk_l1 (d, acc, rs, all, ()) = .ok (acc ++ [play1 rs d], play1 rs d, all, ()) := by
      unfold m_law_walk_l1
      simp only [Rs.bo]
      rw [show m_law_moved_v2 (rs, d.1, d.2, ()) = .ok (play1 rs d) from law_moved2_ok ⟨F.s0, F.s1⟩ (rowA_get F.s0 F.s1) F.tin (F.len' hw)]
      simp only [Rs.bo]
      rw [appI_ok (by omega)]
      rfl
    show (m_law_walk_l1 (d, acc, rs, all, ())).bind _ = _
    rw [e]
    simp only [Rs.bo]
    rw [walk_fold hw log (play1 rs d) (acc ++ [play1 rs d]) hp.2 (by rw [List.length_append, List.length_singleton]; omega)]
    rw [trail, List.append_assoc]
    rfl
theorem walk_ok {w : Int} (hw : w ≤ 1000) {rs : List (Int × Str)} {log : List (Int × Tup Int)} (hp : Plays w rs log) (hl : log.length ≤ 10000) : m_law_walk (rs, log, ()) = .ok (rs :: trail rs log) := by
  unfold m_law_walk
  simp only [Rs.bo, Rs.okl]
  rw [walk_fold hw log rs [rs] hp (by rw [List.length_singleton]; omega)]
  rfl
/-! ### the shares at the end, and lessened ones -/
theorem lshares_ok {rows : List (Int × Str)} (h : rows.length ≤ 1000000) : ∃ d, m_law_shares (rows, ()) = .ok d ∧ SharesD rows d ∧ d.es.length ≤ rows.length := by
  unfold m_law_shares
  simp only [Rs.bo]
  obtain ⟨g, eg, d, rfl, dl, dg, dn⟩ := fold_inv (f := fun (γ : Ctx.T [.ow 1 (Dct Str Int), .bo 0 (List (Int × Str))]) x => m_law_shares_l1 (x, γ)) (xs := rows) (g := (⟨[]⟩, rows, ()))
    (fun i γ => ∃ d : Dct Str Int, γ = (d, rows, ()) ∧ d.es.length ≤ i ∧ (∀ nm, d.get? nm = if nm ∈ (rows.take i).map (·.2) then some (cnt (rows.take i) nm) else none) ∧ (d.es.map (·.1)).Nodup) ⟨⟨[]⟩, rfl, Nat.zero_le _, (fun nm => rfl), List.nodup_nil⟩ (by
    rintro i r _ hr ⟨d, rfl, dl, dg, dn⟩
    have hi := (List.getElem?_eq_some_iff.mp hr).1
    have ht : rows.take (i + 1) = rows.take i ++ [r] := by rw [List.take_succ, hr]; rfl
    show ∃ g', m_law_shares_l1 (r, d, rows, ()) = .ok g' ∧ _
    unfold m_law_shares_l1
    simp only [Rs.bo]
    rw [dput_ok (by omega)]
    refine ⟨_, rfl, _, rfl, ?_, fun nm => ?_, put_nd dn⟩
    · have := dct_len d r.2 ((d.get? r.2).getD 0 + 1)
      show (d.put r.2 ((d.get? r.2).getD 0 + 1)).es.length ≤ i + 1
      omega
    · rw [dct_put, ht, List.map_append, cnt_snoc]
      by_cases c : r.2 = nm
      · subst c
        have hin : r.2 ∈ (rows.take i).map (·.2) ++ [r].map (·.2) := by simp
        rw [if_pos rfl, if_pos hin, if_pos rfl, dg]
        congr 2
        by_cases c2 : r.2 ∈ (rows.take i).map (·.2)
        · rw [if_pos c2]; rfl
        · rw [if_neg c2, cnt_zero c2]; rfl
      · rw [if_neg (show ¬ nm = r.2 from fun z => c z.symm), if_neg (show ¬ r.2 = nm from c), Int.add_zero, dg]
        by_cases c2 : nm ∈ (rows.take i).map (·.2)
        · rw [if_pos c2, if_pos (List.mem_append_left _ c2)]
        · have hout : ¬ nm ∈ (rows.take i).map (·.2) ++ [r].map (·.2) := fun z => (List.mem_append.mp z).elim c2 fun q => c (List.mem_singleton.mp (show nm ∈ [r.2] from q)).symm
          rw [if_neg c2, if_neg hout])
  rw [List.take_length] at dg
  rw [eg]
  exact ⟨d, rfl, ⟨dg, dn⟩, dl⟩
theorem key_get {d : Dct Str Int} {nm : Str} : nm ∈ keysD d ↔ (d.get? nm).isSome = true := dct_mem d.es nm
theorem put_mem {d : Dct Str Int} {k nm : Str} {a : Int} : nm ∈ keysD (d.put k a) ↔ nm = k ∨ nm ∈ keysD d := by
  rw [key_get, key_get, dct_put]
  by_cases c : nm = k
  · rw [if_pos c]; simp [c]
  · rw [if_neg c]; simp [c]
theorem put_dem (d : Dct Str Int) (k nm : Str) (a : Int) : demD (d.put k a) nm = if nm = k then a else demD d nm := by
  unfold demD
  rw [dct_put]
  split <;> rfl
theorem SharesD.key {rows : List (Int × Str)} {d : Dct Str Int} (h : SharesD rows d) {nm : Str} : nm ∈ keysD d ↔ nm ∈ rows.map (·.2) := by
  rw [key_get, h.1]
  by_cases c : nm ∈ rows.map (·.2)
  · rw [if_pos c]; simp [c]
  · rw [if_neg c]; simp [c]
theorem SharesD.dem {rows : List (Int × Str)} {d : Dct Str Int} (h : SharesD rows d) (nm : Str) : demD d nm = cnt rows nm := by
  unfold demD
  rw [h.1]
  by_cases c : nm ∈ rows.map (·.2)
  · rw [if_pos c]; rfl
  · rw [if_neg c, cnt_zero c]; rfl
structure DemK (d : Dct Str Int) : Prop where
  nd : (keysD d).Nodup
  rc : ∀ nm ∈ keysD d, IsRec nm
  nn : ∀ nm ∈ keysD d, 0 ≤ demD d nm
  le : d.es.length ≤ 40
theorem DemK.kl {d : Dct Str Int} (h : DemK d) : (keysD d).length < 64 := by
  unfold keysD
  rw [List.length_map]
  have := h.le
  omega
/-- at most what is left -/
structure Less (q : List (Int × Str)) (d : Dct Str Int) : Prop where
  dem : DemK d
  low : ∀ nm ∈ keysD d, demD d nm ≤ cnt q nm
theorem lessened_ok {q : List (Int × Str)} {d : Dct Str Int} (h : Less q d) (c : Int) : ∃ d', m_law_lessened (⟨d⟩, c, ()) = .ok d' ∧ Less q d' := by
  have hkl : (d.es.map (·.1)).length = d.es.length := List.length_map _
  have hle := h.dem.le
  unfold m_law_lessened
  simp only [Rs.bo, Rs.okl]
  rw [show sortS (d.es.map (·.1)) = .ok (sortStr (keysD d)) from if_pos (by omega)]
  simp only [Rs.bo]
  have hsl : (sortStr (keysD d)).length = d.es.length := by rw [sortStr_len]; exact hkl
  generalize hN : sortStr (keysD d) = names at hsl
  have hin : ∀ nm ∈ names, nm ∈ keysD d := fun nm hn => sortStr_mem.mp (by rw [hN]; exact hn)
  rw [repI_ok (by omega) (by omega) (by simp; omega), Int.toNat_natCast]
  simp only [Rs.bo]
  rw [catI_ok (by rw [rep_flen]; simp; omega)]
  simp only [Rs.bo]
  obtain ⟨ds, hds, hD⟩ := draws_ok c ([3] ++ (List.replicate names.length [4, 840]).flatten) (fun s hs => by
    rcases List.mem_append.mp hs with q | q
    · have := List.mem_singleton.mp q; omega
    · have := rep_mem q
      simp only [List.mem_cons, List.not_mem_nil, or_false] at this
      omega) (by rw [List.length_append, rep_flen]; simp; omega)
  rw [hds]
  obtain ⟨d0, g0, l0, u0⟩ := Drawn.g hD 0 (by decide) rfl
  have gk : ∀ k : Nat, k < names.length → ∀ j : Nat, j < 2 → ∃ d : Int, getI ds (1 + 2 * (k : Int) + (j : Int)) = .ok d ∧ 0 ≤ d := fun k hk j hj => by
    have h : ([3] ++ (List.replicate names.length ([4, 840] : List Int)).flatten)[1 + 2 * k + j]? = ([4, 840] : List Int)[j]? := by
      rw [List.getElem?_append_right (by simp; omega), show 1 + 2 * k + j - ([3] : List Int).length = 2 * k + j by simp; omega, rep_get _ _ (by show 2 * k + j < _ * 2; omega)]
      show ([4, 840] : List Int)[(2 * k + j) % 2]? = _
      rw [show (2 * k + j) % 2 = j by omega]
    obtain ⟨s, hs⟩ : ∃ s, ([4, 840] : List Int)[j]? = some s := ⟨_, List.getElem?_eq_getElem (by simpa using hj)⟩
    obtain ⟨d, e, -, l, -⟩ := hD.get (h.trans hs)
    exact ⟨d, by rw [← e, show ((1 + 2 * k + j : Nat) : Int) = 1 + 2 * (k : Int) + (j : Int) by omega], l⟩
  simp only [Rs.bo]
  rw [Rng_nat (by omega)]
  simp only [Rs.bo]
  obtain ⟨g, eg, d', rfl, dl, dn, dk⟩ := fold_inv (f := fun (γ : Ctx.T [.ow 4 (Dct Str Int), .ow 3 (List Int), .ow 2 (List Str), .bo 0 (DV Str Int)]) x => m_law_lessened_l1 (x, γ)) (xs := rng 0 (names.length : Int)) (g := (⟨[]⟩, ds, names, ⟨d⟩, ()))
    (fun i γ => ∃ d' : Dct Str Int, γ = (d', ds, names, ⟨d⟩, ()) ∧ d'.es.length ≤ i ∧ (keysD d').Nodup ∧ ∀ nm ∈ keysD d', nm ∈ keysD d ∧ 0 ≤ demD d' nm ∧ demD d' nm ≤ demD d nm) ⟨⟨[]⟩, rfl, Nat.zero_le _, List.nodup_nil, fun _ z => by cases z⟩ (by
    rintro i (x : Int) _ hx ⟨d', rfl, dl, dn, dk⟩
    obtain ⟨hi, rfl⟩ := rng_get hx
    have hi : i < names.length := by omega
    obtain ⟨a0, ga0, la0⟩ := gk i hi 0 (by decide)
    obtain ⟨a1, ga1, la1⟩ := gk i hi 1 (by decide)
    obtain ⟨nm, gn, mn, -⟩ := getI_mem (xs := names) (k := (0 : Int) + (i : Int)) (by omega) (by omega)
    have hnk := hin nm mn
    have hnn := h.dem.nn nm hnk
    have good : ∀ v : Int, 0 ≤ v → v ≤ demD d nm → ∃ g', dputR d' nm v = .ok g' ∧ g'.es.length ≤ i + 1 ∧ (keysD g').Nodup ∧ ∀ n2 ∈ keysD g', n2 ∈ keysD d ∧ 0 ≤ demD g' n2 ∧ demD g' n2 ≤ demD d n2 := fun v v0 v1 => by
      refine ⟨d'.put nm v, dput_ok (by omega), by have := dct_len d' nm v; omega, put_nd dn, fun n2 hn2 => ?_⟩
      rw [put_dem]
      by_cases c2 : n2 = nm
      · rw [if_pos c2, c2]; exact ⟨hnk, v0, v1⟩
      · rw [if_neg c2]; exact dk n2 ((put_mem.mp hn2).resolve_left c2)
    show ∃ g', m_law_lessened_l1 ((0 : Int) + (i : Int), d', ds, names, ⟨d⟩, ()) = .ok g' ∧ _
    unfold m_law_lessened_l1
    simp only [Rs.bo]
    rw [if_pos (CMul_l (by decide) (by decide))]
    simp only [Rs.bo]
    rw [show 1 + 2 * ((0 : Int) + (i : Int)) = 1 + 2 * (i : Int) + ((0 : Nat) : Int) by omega, ga0]
    simp only [Rs.bo]
    refine Rs.exb (fun γ => ∃ d2 : Dct Str Int, γ = (d2, ds, names, ⟨d⟩, ()) ∧ d2.es.length ≤ i + 1 ∧ (keysD d2).Nodup ∧ ∀ n2 ∈ keysD d2, n2 ∈ keysD d ∧ 0 ≤ demD d2 n2 ∧ demD d2 n2 ≤ demD d n2) ?_ (by
      rintro _ ⟨d2, rfl, z⟩
      exact ⟨_, rfl, d2, rfl, z⟩)
    refine Rs.exi (fun _ => ?_) fun _ => ?_
    · rw [gn]
      simp only [Rs.bo]
      rw [dem_at hnk]
      simp only [Rs.bo]
      obtain ⟨g', e', z⟩ := good _ hnn (Int.le_refl _)
      rw [e']
      exact ⟨_, rfl, g', rfl, z⟩
    · refine Rs.exb (fun γ => ∃ d2 : Dct Str Int, γ = (d2, ds, names, ⟨d⟩, ()) ∧ d2.es.length ≤ i + 1 ∧ (keysD d2).Nodup ∧ ∀ n2 ∈ keysD d2, n2 ∈ keysD d ∧ 0 ≤ demD d2 n2 ∧ demD d2 n2 ≤ demD d n2) ?_ (by
        rintro _ ⟨d2, rfl, z⟩
        exact ⟨_, rfl, d2, rfl, z⟩)
      refine Rs.exb (fun _ : Bool => True) ?_ ?_
      · simp only [Rs.bo, g0]
        exact Rs.exi (fun _ => ⟨_, rfl, trivial⟩) fun _ => ⟨_, rfl, trivial⟩
      · rintro b -
        refine Rs.exi (fun _ => ?_) fun _ => ⟨_, rfl, d', rfl, by omega, dn, dk⟩
        rw [show 2 + 2 * ((0 : Int) + (i : Int)) = 1 + 2 * (i : Int) + ((1 : Nat) : Int) by omega, ga1]
        simp only [Rs.bo]
        rw [gn]
        simp only [Rs.bo]
        rw [dem_at hnk]
        simp only [Rs.bo]
        rw [if_pos (show 0 < demD d nm + 1 by omega)]
        simp only [Rs.bo]
        have q1 := Int.emod_nonneg a1 (show demD d nm + 1 ≠ 0 by omega)
        have q2 := Int.emod_lt_of_pos a1 (show 0 < demD d nm + 1 by omega)
        obtain ⟨g', e', z⟩ := good (a1 % (demD d nm + 1)) q1 (by omega)
        rw [e']
        exact ⟨_, rfl, g', rfl, z⟩)
  rw [eg]
  exact ⟨d', rfl, ⟨dn, fun nm hn => h.dem.rc nm (dk nm hn).1, fun nm hn => (dk nm hn).2.1, by rw [rng0_len] at dl; omega⟩, fun nm hn => Int.le_trans (dk nm hn).2.2 (h.low nm (dk nm hn).1)⟩
/-! ### what can_meet says -/
theorem single_dem (x : Exc) : m_law_single (x, ()) = .ok true := by
  unfold m_law_single
  simp only [Rs.bo, Rs.okl]
  repeat (rw [catI_ok (by simp)]; simp only [Rs.bo])
  simp only [Bool.not_true, Bool.false_eq_true, if_false, Rs.bo]
  rfl
structure SitB (rs : List (Int × Str)) (e t : Int) : Prop where
  ne : 1 ≤ rs.length
  le : rs.length ≤ 16
  rec' : ∀ r ∈ rs, IsRec r.2
  lev : ∀ r ∈ rs, r.1 - e ≤ 10000
  top : maxI (lvR rs) = .ok t
  eb : -1000000 ≤ e ∧ e ≤ 1000000
  tb : -1000000 ≤ t ∧ t ≤ 1000000
theorem asked_is {rs : List (Int × Str)} {e w t : Int} {d : Dct Str Int} {plain : Bool} (s : SitB rs e t) (w0 : 1 ≤ w) (w1 : w ≤ 6) (hp : plain = true → w = 1) (D : DemK d) : m_law_asked (⟨⟨rs⟩⟩, e, ⟨d⟩, w, plain, ()) = .ok ("told", .inr (troubleOf rs e w t d).isNone) := by
  have hle := s.le
  have hc : ∀ v : Int, 1 ≤ v → v ≤ 6 → m_can_meet (⟨⟨rs⟩⟩, e, ⟨d⟩, v, ()) = .ok (troubleOf rs e v t d).isNone := fun v v0 v1 => can_meet_is (trouble_is v0 v1 (by omega) s.lev s.top s.eb s.tb D.kl fun nm hn => ⟨by have := (D.rc nm hn).hi; omega, D.nn nm hn⟩)
  unfold m_law_asked m_law_asked_y1
  simp only [Rs.bo, Rs.okl]
  cases plain with
  | true =>
    have q := hp rfl
    subst q
    rw [if_pos rfl, hc 1 (by decide) (by decide)]
    rfl
  | false =>
    rw [if_neg (by decide), hc w w0 w1]
    rfl
theorem met_is {rs : List (Int × Str)} {e w t : Int} {d : Dct Str Int} {plain due : Bool} (s : SitB rs e t) (w0 : 1 ≤ w) (w1 : w ≤ 6) (hp : plain = true → w = 1) (D : DemK d) (h : (troubleOf rs e w t d).isNone = due) : m_law_met (rs, e, ⟨d⟩, w, plain, due, ()) = .ok true := by
  have hle := s.le
  have hi : mi_Sheaf_init (rs, ()) = .ok ⟨⟨rs⟩⟩ := init_ok ⟨s.ne, by omega, s.rec'⟩
  unfold m_law_met
  simp only [Rs.bo, Rs.okl]
  rw [hi]
  simp only [Rs.bo]
  rw [asked_is s w0 w1 hp D, h]
  simp only [Rs.bo]
  rw [show eqDR false (⟨d⟩ : DV Str Int) ⟨d⟩ = .ok false from if_pos (eqD_self D.nd)]
  simp only [Rs.bo, Bool.false_eq_true, if_false]
  rw [hi]
  simp only [Rs.bo]
  rw [sheaf_eq_self]
  simp only [nox_ok, Rs.bo, Bool.not_true, Bool.false_eq_true, if_false, decide_true, if_true]
  rw [show theR (Sum.inr due : Str ⊕ Bool) = .ok due from rfl]
  simp only [Rs.bo, if_true, decide_true]
theorem asked_bad {rs : List (Int × Str)} {e w : Int} {d : Dct Str Int} {plain : Bool} {nm : Str} (hk : (keysD d).length < 64) (hn : ∀ nm ∈ keysD d, IsRec nm) (hf : firstNeg d = some nm) (hm : nm ∈ keysD d) : m_law_asked (⟨⟨rs⟩⟩, e, ⟨d⟩, w, plain, ()) = .ok ("negative", .inl nm) := by
  have hc : ∀ v : Int, m_can_meet (⟨⟨rs⟩⟩, e, ⟨d⟩, v, ()) = .ex (exStr "InvalidDemands" "record" nm) := fun v => can_meet_bad (trouble_bad hk (fun nm hn2 => by have := (hn nm hn2).hi; omega) hf)
  unfold m_law_asked m_law_asked_y1
  simp only [Rs.bo, Rs.okl]
  rw [hc, hc]
  have e1 : ∀ b : Bool, ((if b = true then ((Rs.ex (exStr "InvalidDemands" "record" nm) : Rs Bool).bind fun y => Rs.ok (("told" : Str), y)).bind (fun a => Rs.ok (a.1, (Sum.inr a.2 : Str ⊕ Bool))) else ((Rs.ex (exStr "InvalidDemands" "record" nm) : Rs Bool).bind fun y => Rs.ok (("told" : Str), y)).bind (fun a => Rs.ok (a.1, (Sum.inr a.2 : Str ⊕ Bool)))).bind fun x => (Rs.ok (.inr x) : Rs (Unit ⊕ (Str × (Str ⊕ Bool))))) = .ex (exStr "InvalidDemands" "record" nm) := fun b => by cases b <;> rfl
  show Rs.left (Rs.try "InvalidDemands" [] _ _) _ = _
  rw [show ∀ x : Rs (Unit ⊕ (Str × (Str ⊕ Bool))), x = .ex (exStr "InvalidDemands" "record" nm) → Rs.left (Rs.try "InvalidDemands" [] x (fun x => Rs.nox (m_law_asked_x2 (x, ())))) m_law_asked_b3 = .ok ("negative", .inl nm) from fun x hx => by
    rw [hx, try_exS]
    unfold m_law_asked_x2
    dsimp only
    rw [single_dem]
    simp only [Rs.bo, if_true]
    rw [at_str _ _ _ (IsRec.sok (hn nm hm))]
    rfl]
  exact e1 plain
/-! ### a negative demand -/
theorem eqv_neg (s : Str) : PyData.eqv (PyD.d (("negative", Sum.inl s) : Str × (Str ⊕ Bool))) (PyD.d (("negative", s) : Str × Str)) = true := by
  have e := PyEq.eqv (("negative", s) : Str × Str) ("negative", s)
  rw [decide_eq_true rfl] at e
  exact e
theorem refused_is {rs : List (Int × Str)} {e less w : Int} {d : Dct Str Int} {name strange : Str} {plain : Bool} (hr : IsRows rs) (D : DemK d) (hn : IsRec name) (hs : IsRec strange) (hl : 0 ≤ less) : m_law_refused (rs, e, ⟨d⟩, name, strange, less, w, plain, ()) = .ok true := by
  have hi : mi_Sheaf_init (rs, ()) = .ok ⟨⟨rs⟩⟩ := init_ok hr
  have hle := D.le
  unfold m_law_refused
  simp only [Rs.bo, Rs.okl]
  rw [dput_ok (by omega)]
  simp only [Rs.bo]
  suffices z : ∃ b, _ = Rs.ok b ∧ b = true by
    obtain ⟨b, e, rfl⟩ := z
    exact e
  have hlen := dct_len d name (0 - 1 - less)
  have h1 : (keysD (d.put name (0 - 1 - less))).Nodup := put_nd D.nd
  have h2 : ∀ nm ∈ keysD (d.put name (0 - 1 - less)), IsRec nm := fun nm h => by
    rcases put_mem.mp h with z | z
    · rw [z]; exact hn
    · exact D.rc nm z
  have h3 : name ∈ keysD (d.put name (0 - 1 - less)) ∧ demD (d.put name (0 - 1 - less)) name < 0 := ⟨put_mem.mpr (.inl rfl), by rw [put_dem, if_pos rfl]; omega⟩
  refine Rs.exb (fun γ => ∃ bad : Dct Str Int, γ = (bad, rs, e, w, plain, ()) ∧ ((keysD bad).Nodup ∧ (∀ nm ∈ keysD bad, IsRec nm) ∧ bad.es.length ≤ 42 ∧ ∃ nm ∈ keysD bad, demD bad nm < 0)) ?_ ?_
  · refine Rs.exi (fun c => ?_) fun _ => ⟨_, rfl, _, rfl, h1, h2, by omega, name, h3⟩
    have c := of_decide_eq_true c
    rw [dput_ok (by omega)]
    have hlen2 := dct_len (d.put name (0 - 1 - less)) strange (0 - less)
    refine ⟨_, rfl, (d.put name (0 - 1 - less)).put strange (0 - less), rfl, put_nd h1, fun nm h => ?_, by omega, strange, put_mem.mpr (.inl rfl), by rw [put_dem, if_pos rfl]; omega⟩
    rcases put_mem.mp h with z | z
    · rw [z]; exact hs
    · exact h2 nm z
  rintro _ ⟨bad, rfl, b1, b2, b3, b4⟩
  have hkl : (keysD bad).length = bad.es.length := List.length_map _
  simp only [Rs.bo]
  rw [show m_law_refused_k3 ((⟨bad⟩ : LV Str Int), ()) = .ok ((keysD bad).filter fun nm => decide (demD bad nm < 0)) from by
    unfold m_law_refused_k3
    simp only [Rs.bo]
    rw [if_pos (by show (keysD bad).length ≤ _; omega)]
    refine (comp_on (xs := keysD bad) (fun nm => decide (demD bad nm < 0)) (fun nm => nm) (t := fun x => m_law_refused_t1 (x, (⟨bad⟩ : LV Str Int), ())) (f := fun x => m_law_refused_e2 (x, (⟨bad⟩ : LV Str Int), ())) fun nm hn => ⟨by
      show m_law_refused_t1 (nm, (⟨bad⟩ : LV Str Int), ()) = _
      unfold m_law_refused_t1
      simp only [Rs.bo]
      rw [dem_at hn]
      rfl, fun _ => rfl⟩).trans ?_
    rw [List.map_id']]
  simp only [nox_ok, Rs.bo]
  obtain ⟨nm, hf, hm, rest, hrest⟩ := first_neg b4
  rw [show sortS ((keysD bad).filter fun nm => decide (demD bad nm < 0)) = .ok (nm :: rest) from (if_pos (by have := List.length_filter_le (fun nm => decide (demD bad nm < 0)) (keysD bad); omega)).trans (by rw [hrest])]
  simp only [Rs.bo, getI_0]
  rw [hi]
  simp only [Rs.bo]
  rw [asked_bad (by omega) b2 hf hm]
  simp only [Rs.bo]
  rw [eqv_neg]
  simp only [if_true, Rs.bo]
  rw [show eqDR true (⟨bad⟩ : DV Str Int) ⟨bad⟩ = .ok true from if_pos (eqD_self b1)]
  exact ⟨true, rfl, rfl⟩
/-! ### what cannot be met -/
theorem sum_put : ∀ {ks : List Str} {f : Str → Int} {k : Str} {a : Int}, ks.Nodup → (ks.map fun nm => if nm = k then a else f nm).sum = (ks.map f).sum + if k ∈ ks then a - f k else 0
  | [], _, _, _, _ => rfl
  | nm :: ks, f, k, a, h => by
    have h := List.nodup_cons.mp h
    rw [List.map_cons, List.sum_cons, List.map_cons, List.sum_cons, sum_put h.2]
    by_cases c : nm = k
    · subst c
      rw [if_pos rfl, if_neg h.1, if_pos List.mem_cons_self]
      omega
    · rw [if_neg c]
      by_cases c2 : k ∈ ks
      · rw [if_pos c2, if_pos (List.mem_cons_of_mem _ c2)]; omega
      · rw [if_neg c2, if_neg fun z => (List.mem_cons.mp z).elim (fun q => c q.symm) c2]; omega
theorem put_keys (d : Dct Str Int) (k : Str) (a : Int) : keysD (d.put k a) = if k ∈ keysD d then keysD d else keysD d ++ [k] := by
  by_cases c : k ∈ keysD d
  · rw [if_pos c]
    unfold Dct.put keysD
    have h : (d.es.any fun e => decide (e.1 = k)) = true := by
      obtain ⟨e, he, q⟩ := List.mem_map.mp c
      exact List.any_eq_true.mpr ⟨e, he, decide_eq_true q⟩
    dsimp only
    rw [if_pos h, List.map_map]
    exact List.map_congr_left fun e _ => by dsimp only [Function.comp]; split <;> rfl
  · rw [if_neg c]
    unfold Dct.put keysD
    have h : ¬ (d.es.any fun e => decide (e.1 = k)) = true := fun z => by
      obtain ⟨e, he, q⟩ := List.any_eq_true.mp z
      exact c (List.mem_map.mpr ⟨e, he, of_decide_eq_true q⟩)
    dsimp only
    rw [if_neg h, List.map_append]
    rfl
theorem sumD_put {d : Dct Str Int} (h : (keysD d).Nodup) (k : Str) (a : Int) : sumD (d.put k a) = sumD d + (a - demD d k) := by
  unfold sumD
  rw [put_keys]
  have e : (fun nm => demD (d.put k a) nm) = fun nm => if nm = k then a else demD d nm := funext fun nm => put_dem d k nm a
  rw [show demD (d.put k a) = fun nm => if nm = k then a else demD d nm from e]
  by_cases c : k ∈ keysD d
  · rw [if_pos c, sum_put h, if_pos c]
  · rw [if_neg c, List.map_append, List.sum_append, sum_put h, if_neg c]
    have z : demD d k = 0 := by
      unfold demD
      cases q : d.get? k with
      | none => rfl
      | some v => exact absurd (key_get.mpr (by rw [q]; rfl)) c
    rw [z, List.map_cons, List.map_nil, if_pos rfl]
    simp
theorem cnt_full {nms : List Str} (h : nms.Nodup) : ∀ q : List (Int × Str), (∀ r ∈ q, r.2 ∈ nms) → (nms.map (cnt q)).sum = q.length
  | [], _ => by
    have e : ∀ l : List Str, (l.map (cnt [])).sum = 0 := fun l => by
      induction l with
      | nil => rfl
      | cons a l ih => rw [List.map_cons, List.sum_cons, ih]; rfl
    rw [e]
    rfl
  | r :: q, hq => by
    have ih := cnt_full h q fun z hz => hq z (List.mem_cons_of_mem _ hz)
    have : (nms.map (cnt (r :: q))).sum = (nms.map fun nm => if r.2 = nm then (1 : Int) else 0).sum + (nms.map (cnt q)).sum := by
      clear ih h hq
      induction nms with
      | nil => rfl
      | cons a l ih => rw [List.map_cons, List.sum_cons, ih, List.map_cons, List.sum_cons, List.map_cons, List.sum_cons, cnt_cons]; omega
    rw [this, ones_le _ h, if_pos (hq r List.mem_cons_self), List.length_cons]
    omega
theorem sumD_shares {q : List (Int × Str)} {d : Dct Str Int} (h : SharesD q d) : sumD d = q.length := by
  unfold sumD
  rw [show demD d = cnt q from funext h.dem]
  exact cnt_full h.2 q fun r hr => h.key.mpr (List.mem_map.mpr ⟨r, hr, rfl⟩)
theorem some_total {rs : List (Int × Str)} {e w t : Int} {d : Dct Str Int} (h : (rs.length : Int) < sumD d) : (troubleOf rs e w t d).isNone = false := by
  unfold troubleOf
  rw [if_pos h]
  rfl
theorem some_above {rs : List (Int × Str)} {e w t : Int} {d : Dct Str Int} (h1 : 1 ≤ rs.length) (h : ∀ r ∈ rs, r.1 < e) : (troubleOf rs e w t d).isNone = false := by
  have hz : reachE w (lvR rs) e = 0 := by
    unfold reachE lvR
    rw [List.map_map]
    clear h1
    induction rs with
    | nil => rfl
    | cons r rs ih =>
      rw [List.map_cons, List.sum_cons, ih fun z hz => h z (List.mem_cons_of_mem _ hz)]
      show capE w r.1 e + 0 = 0
      unfold capE
      rw [if_pos (h r List.mem_cons_self)]
      rfl
  unfold troubleOf
  split
  · rfl
  · rw [if_pos (by omega)]
    rfl
theorem some_strange {rs : List (Int × Str)} {e w t : Int} {d : Dct Str Int} {s : Str} (hs : s ∉ rs.map (·.2)) (hk : s ∈ keysD d) (hd : 0 < demD d s) : (troubleOf rs e w t d).isNone = false := by
  have h0 : ownR rs s e w = 0 := by
    unfold ownR
    rw [List.filter_eq_nil_iff.mpr fun r hr z => hs (List.mem_map.mpr ⟨r, hr, of_decide_eq_true z⟩)]
    rfl
  have hl : (lowRec rs e w d).isSome = true := by
    unfold lowRec
    rw [List.find?_isSome]
    exact ⟨s, sortStr_mem.mpr hk, decide_eq_true (by omega)⟩
  obtain ⟨nm, hnm⟩ := Option.isSome_iff_exists.mp hl
  unfold troubleOf
  split
  · rfl
  · split
    · rfl
    · rw [hnm]; rfl
theorem played_rec {w : Int} {P : Str → Prop} : ∀ {log : List (Int × Tup Int)} {rs : List (Int × Str)}, (∀ r ∈ rs, P r.2) → Plays w rs log → ∀ r ∈ played rs log, P r.2
  | [], _, h, _, r, hr => h r hr
  | d :: log, rs, h, hp, r, hr => by
    refine played_rec (rs := play1 rs d) (log := log) (fun z hz => ?_) hp.2 r hr
    rcases play1_mem hp.1 hz with q | ⟨y, hy, -, rfl⟩
    · exact h z q
    · exact h y hy

/-- a state on the way of a complete log -/
theorem state_ok {rows : List (Int × Str)} {log : List (Int × Tup Int)} {w e b : Int} (h1 : 1 ≤ rows.length) (h2 : rows.length ≤ 16) (hr : ∀ r ∈ rows, IsRec r.2) (hb : -900 ≤ b ∧ b ≤ 900) (hlv : ∀ r ∈ rows, b ≤ r.1 ∧ r.1 ≤ b + 40) (w0 : 1 ≤ w) (hp : Plays w rows log) (he : ∀ r ∈ played rows log, r.1 = e) (k : Nat) :
    ∃ t, SitB (played rows (log.take k)) e t ∧ ∀ v d, w ≤ v → Less (played rows log) d → (troubleOf (played rows (log.take k)) e v t d).isNone = true := by
  have hc := hp.cut k
  have hlen : (played rows (log.take k)).length = rows.length := played_len _ _
  have rng := played_range hc.2 hlv
  have hel : ∃ r ∈ played rows log, r.1 = e := by
    obtain ⟨r, hm⟩ := List.exists_mem_of_length_pos (show 0 < (played rows log).length by rw [played_len]; omega)
    exact ⟨r, hm, he r hm⟩
  obtain ⟨r1, hm1, he1⟩ := hel
  have hb1 := played_range hp hlv r1 hm1
  have hlne : lvR (played rows (log.take k)) ≠ [] := List.ne_nil_of_length_pos (by unfold lvR; rw [List.length_map]; omega)
  obtain ⟨t, et, -, -⟩ := maxI_ok hlne
  have tsp := maxI_spec.mp et
  obtain ⟨r2, hm2, he2⟩ := List.mem_map.mp tsp.1
  have hb2 := rng r2 hm2
  refine ⟨t, ⟨by omega, by omega, played_rec hr hc.2, fun r hm => by have := rng r hm; omega, et, by omega, by omega⟩, fun v d hv hd => ?_⟩
  rw [meets (by omega) (hc.1.wide hv) (by rw [played_cut]; exact he) et hd.dem.nd (by rw [played_cut]; exact hd.low)]
  rfl
theorem law_true (ns : List Int) (hn : ns.length ≤ 63) : m_law (⟨ns⟩, ()) = .ok true := by
  obtain ⟨rows, nm, hsh, W⟩ := sheets_ok ns
  obtain ⟨b, hb, hlv⟩ := W.lv
  obtain ⟨strange, gstr, rstr, ostr⟩ := W.str
  have n1 := W.ne
  have n2 := W.le
  obtain ⟨n, hcn⟩ : ∃ n : Nat, n = rows.length := ⟨_, rfl⟩
  unfold m_law
  obtain ⟨c3, hc3⟩ := given_ex ns 3 (by decide)
  simp only [Rs.bo, Rs.okl, hsh]
  rw [show getI nm (rows.length : Int) = .ok strange from getI_at (i := rows.length) (by omega) gstr]
  simp only [Rs.bo, hc3]
  obtain ⟨ds, hds, hdD⟩ := draws_ok c3 [4, 6, 13, 840, (rows.length : Int), 8, 8, 840, 3] (by intro s hs; simp only [List.mem_cons, List.not_mem_nil, or_false] at hs; omega) (by simp)
  obtain ⟨d0, gd0, ld0, ud0⟩ := Drawn.g hdD 0 (by decide) rfl
  obtain ⟨d1, gd1, ld1, ud1⟩ := Drawn.g hdD 1 (by decide) rfl
  obtain ⟨d2, gd2, ld2, ud2⟩ := Drawn.g hdD 2 (by decide) rfl
  obtain ⟨d3, gd3, ld3, ud3⟩ := Drawn.g hdD 3 (by decide) rfl
  obtain ⟨d4, gd4, ld4, ud4⟩ := Drawn.g hdD 4 (by decide) rfl
  obtain ⟨d5, gd5, ld5, ud5⟩ := Drawn.g hdD 5 (by decide) rfl
  obtain ⟨d6, gd6, ld6, ud6⟩ := Drawn.g hdD 6 (by decide) rfl
  obtain ⟨d7, gd7, ld7, ud7⟩ := Drawn.g hdD 7 (by decide) rfl
  obtain ⟨d8, gd8, ld8, ud8⟩ := Drawn.g hdD 8 (by decide) rfl
  simp only [hds, Rs.bo, gd0]
  obtain ⟨w, ew, w0, w1, hp⟩ := width_ok gd0 gd1 ld1 ud1
  rw [ew]
  simp only [Rs.bo, gd2]
  have hp : decide (d0 = 0) = true → w = 1 := fun z => hp (of_decide_eq_true z)
  generalize decide (d0 = 0) = plain at hp ⊢
  rw [Rng_ok (by omega) (by omega) (by omega) (by omega)]
  simp only [Rs.bo]
  rw [if_pos (by rw [rng_len]; omega)]
  obtain ⟨cells, ecells, -, -⟩ := comp_ex (t := fun (_ : Int) => Rs.ok true) (f := fun x => m_law_e1 (x, ⟨ns⟩, ())) (fun _ (_ : Int) => True) (xs := rng 0 d2) (fun _ _ => rfl) (by
    intro i x hx
    obtain ⟨hi, rfl⟩ := rng_get hx
    obtain ⟨c, hc⟩ := given_ex ns (6 + (0 + (i : Int))) (by omega)
    show ∃ y, m_law_e1 (0 + (i : Int), ⟨ns⟩, ()) = .ok y ∧ _
    unfold m_law_e1
    simp only [Rs.bo, Rs.okl]
    rw [hc]
    exact ⟨c, rfl, trivial⟩)
  rw [ecells]
  simp only [Rs.bo]
  obtain ⟨wlog, ewl, hwl⟩ := wild_ok (rs := rows) (cells := cells) (w := w) (m := 12) (n := rows.length) (by decide) rfl n1 (by omega) ⟨w0, w1⟩
  rw [ewl]
  simp only [Rs.bo]
  rw [walk_ok (by omega) hwl.1 (by have := hwl.2; omega)]
  simp only [Rs.bo]
  rw [show getI (rows :: trail rows wlog) (wlog.length : Int) = .ok (played rows wlog) from getI_at (i := wlog.length) (by omega) (by rw [trail_at _ _ _ (Nat.le_refl _), List.take_length])]
  simp only [Rs.bo, gd3]
  obtain ⟨log, efin, hpl, hll, hlev⟩ := finished_level (rs0 := rows) (log := wlog) (pick := d3) (lo := b) n1 n2 w0 hwl hlv
  rw [efin]
  simp only [Rs.bo]
  rw [walk_ok (by omega) hpl (by omega)]
  simp only [Rs.bo]
  have hlast : (rows :: trail rows log)[log.length]? = some (played rows log) := by rw [trail_at _ _ _ (Nat.le_refl _), List.take_length]
  have gl : getI (rows :: trail rows log) (log.length : Int) = .ok (played rows log) := getI_at (i := log.length) (by omega) hlast
  have hql : (played rows log).length = rows.length := played_len _ _
  obtain ⟨q0, gq0, mq0, -⟩ := getI_mem (xs := played rows log) (k := 0) (by decide) (by omega)
  rw [gl]
  simp only [Rs.bo, gq0]
  rw [gl]
  simp only [Rs.bo]
  obtain ⟨sh, esh, SH, shl⟩ := lshares_ok (rows := played rows log) (by omega)
  rw [esh]
  simp only [Rs.bo, gd7]
  have htl : (rows :: trail rows log).length = log.length + 1 := by rw [List.length_cons, trail_len]
  rw [if_pos (by omega)]
  simp only [Rs.bo]
  have v1 := Int.emod_nonneg d7 (show ((rows :: trail rows log).length : Int) ≠ 0 by omega)
  have v2 := Int.emod_lt_of_pos d7 (show (0 : Int) < ((rows :: trail rows log).length : Int) by omega)
  obtain ⟨mid, gmid, -, emid⟩ := getI_mem (xs := rows :: trail rows log) v1 v2
  rw [trail_at _ _ _ (by omega)] at emid
  have emid := Option.some.inj emid
  rw [gmid]
  simp only [Rs.bo]
  rw [gl]
  simp only [Rs.bo]
  have he : ∀ r ∈ played rows log, r.1 = q0.1 := fun r hr => hlev r hr q0 mq0
  generalize q0.1 = e at he
  have recq := played_rec W.rec' hpl
  have LS : Less (played rows log) sh := ⟨⟨SH.2, fun x hx => by
    obtain ⟨r, hr, rfl⟩ := List.mem_map.mp (SH.key.mp hx)
    exact recq r hr, fun x _ => by rw [SH.dem]; unfold cnt; omega, by omega⟩, fun x _ => by rw [SH.dem]; exact Int.le_refl _⟩
  have good := state_ok n1 n2 W.rec' hb hlv w0 hpl he
  have step : ∀ k : Nat, m_law_l4 (played rows (log.take k), mid, sh, e, rows :: trail rows log, log, w, plain, ds, strange, rows, ⟨ns⟩, ()) = .ok (.inl (mid, sh, e, rows :: trail rows log, log, w, plain, ds, strange, rows, ⟨ns⟩, ())) := fun k => by
    obtain ⟨t, S, hno⟩ := good k
    unfold m_law_l4
    simp only [Rs.bo]
    rw [Rng_ok (by decide) (by decide) (by decide) (by decide)]
    simp only [Rs.bo]
    rw [foldR_all (f := fun (γ : Ctx.T [.fz 14 (List (Int × Str)), .fz 13 (List (Int × Str)), .ow 12 (Dct Str Int), .fz 11 Int, .ow 10 (List (List (Int × Str))), .ow 8 (List (Int × (Tup Int))), .fz 7 Int, .fz 6 Bool, .ow 5 (List Int), .fz 4 Str, .fz 2 (List (Int × Str)), .fz 0 Script]) x => m_law_l2 (x, γ)) (g := (played rows (log.take k), mid, sh, e, rows :: trail rows log, log, w, plain, ds, strange, rows, ⟨ns⟩, ())) fun (x : Int) hx => by
      have hx := mem_rng.mp hx
      show m_law_l2 (x, played rows (log.take k), mid, sh, e, rows :: trail rows log, log, w, plain, ds, strange, rows, ⟨ns⟩, ()) = _
      unfold m_law_l2
      obtain ⟨c, hc⟩ := given_ex ns (4 + x) (by omega)
      obtain ⟨d', ed, LD⟩ := lessened_ok LS c
      simp only [Rs.bo, Rs.okl]
      rw [hc]
      simp only [Rs.bo]
      rw [ed]
      simp only [Rs.bo]
      rw [met_is S w0 w1 hp LD.dem (hno w d' (Int.le_refl _) LD)]
      simp only [Rs.bo, Bool.not_true, Bool.false_eq_true, if_false]]
    rw [leftG_inl rfl]
    unfold m_law_b3
    simp only [Rs.bo, Rs.okl]
    rw [met_is S w0 w1 hp LS.dem (hno w sh (Int.le_refl _) LS)]
    simp only [Rs.bo, Bool.not_true, Bool.false_eq_true, if_false]
    by_cases c : w < 6
    · rw [decide_eq_true c, if_pos rfl, met_is S (by omega) (by omega) (fun z => by cases z) LS.dem (hno (w + 1) sh (by omega) LS)]
      simp only [Rs.bo, Bool.not_true, Bool.false_eq_true, if_false]
    · rw [decide_eq_false c, if_neg (by decide)]
      simp only [Rs.bo, Bool.false_eq_true, if_false]
  have st : ∀ x ∈ [rows, mid, played rows log], ∃ k, x = played rows (log.take k) := fun x hx => by
    simp only [List.mem_cons, List.not_mem_nil, or_false] at hx
    rcases hx with rfl | rfl | rfl
    · exact ⟨0, rfl⟩
    · exact ⟨_, emid.symm⟩
    · exact ⟨log.length, by rw [List.take_length]⟩
  rw [foldR_all (f := fun (γ : Ctx.T [.fz 13 (List (Int × Str)), .ow 12 (Dct Str Int), .fz 11 Int, .ow 10 (List (List (Int × Str))), .ow 8 (List (Int × (Tup Int))), .fz 7 Int, .fz 6 Bool, .ow 5 (List Int), .fz 4 Str, .fz 2 (List (Int × Str)), .fz 0 Script]) x => m_law_l4 (x, γ)) (g := (mid, sh, e, rows :: trail rows log, log, w, plain, ds, strange, rows, ⟨ns⟩, ())) (xs := [rows, mid, played rows log]) fun x hx => by
    obtain ⟨k, rfl⟩ := st x hx
    exact step k]
  rw [left_okl]
  obtain ⟨t, S, hno⟩ := good 0
  have S : SitB rows e t := S
  have hno : ∀ v d, w ≤ v → Less (played rows log) d → (troubleOf rows e v t d).isNone = true := hno
  unfold m_law_b6
  simp only [Rs.bo, Rs.okl]
  have hle := LS.dem.le
  rw [dput_ok (by omega)]
  simp only [Rs.bo]
  have lmore := dct_len sh strange 0
  have LM : Less (played rows log) (sh.put strange 0) := ⟨⟨put_nd LS.dem.nd, fun x hx => by
    rcases put_mem.mp hx with z | z
    · rw [z]; exact rstr
    · exact LS.dem.rc x z, fun x hx => by
    rw [put_dem]
    split
    · exact Int.le_refl _
    · rw [SH.dem]; unfold cnt; omega, by omega⟩, fun x hx => by
    rw [put_dem]
    split
    · unfold cnt; omega
    · rw [SH.dem]; exact Int.le_refl _⟩
  have LE : Less (played rows log) ⟨[]⟩ := ⟨⟨List.nodup_nil, (fun _ z => nomatch z), (fun _ z => nomatch z), Nat.zero_le _⟩, (fun _ z => nomatch z)⟩
  rw [met_is S w0 w1 hp LM.dem (hno w _ (Int.le_refl _) LM)]
  simp only [Rs.bo, Bool.not_true, Bool.false_eq_true, if_false]
  rw [met_is S w0 w1 hp LE.dem (hno w _ (Int.le_refl _) LE)]
  simp only [Rs.bo, Bool.not_true, Bool.false_eq_true, if_false, gd4]
  obtain ⟨rn, grn, mrn, -⟩ := getI_mem (xs := rows) (k := d4) (by omega) (by omega)
  rw [grn]
  simp only [Rs.bo]
  rw [dput_ok (by omega)]
  simp only [Rs.bo]
  have rname := W.rec' rn mrn
  generalize hv : ((sh.put strange 0).get? rn.2).getD 0 + 1 = v
  have hv0 : demD (sh.put strange 0) rn.2 + 1 = v := hv
  have lmore2 := dct_len (sh.put strange 0) rn.2 v
  have nnm : 0 ≤ demD (sh.put strange 0) rn.2 := by
    rw [put_dem]
    split
    · exact Int.le_refl _
    · rw [SH.dem]; unfold cnt; omega
  have DM2 : DemK ((sh.put strange 0).put rn.2 v) := ⟨put_nd LM.dem.nd, fun x hx => by
    rcases put_mem.mp hx with z | z
    · rw [z]; exact rname
    · exact LM.dem.rc x z, fun x hx => by
    rw [put_dem]
    split
    · omega
    · rename_i c
      exact LM.dem.nn x ((put_mem.mp hx).resolve_left c), by omega⟩
  have tot : (rows.length : Int) < sumD ((sh.put strange 0).put rn.2 v) := by
    have s0 : strange ∉ (played rows log).map (·.2) := fun z => by
      obtain ⟨r, hr, e2⟩ := List.mem_map.mp z
      have := played_rec (P := fun s => s ∈ rows.map (·.2)) (fun r hr => List.mem_map.mpr ⟨r, hr, rfl⟩) hpl r hr
      rw [e2] at this
      exact ostr this
    rw [sumD_put LM.dem.nd, sumD_put LS.dem.nd, sumD_shares SH, SH.dem, cnt_zero s0, hql]
    omega
  rw [met_is S w0 w1 hp DM2 (some_total tot)]
  simp only [Rs.bo, Bool.not_true, Bool.false_eq_true, if_false]
  have DS : DemK ⟨[(strange, 1)]⟩ := ⟨by simp [keysD], fun x hx => by rw [List.mem_singleton.mp hx]; exact rstr, fun x hx => by
    rw [List.mem_singleton.mp hx]
    unfold demD
    simp [Dct.get?], (by show 1 ≤ 40; decide)⟩
  rw [met_is S w0 w1 hp DS (some_strange ostr (by simp [keysD]) (by unfold demD; simp [Dct.get?]))]
  simp only [Rs.bo, Bool.not_true, Bool.false_eq_true, if_false]
  rw [if_pos (show rows.length ≤ 16777216 by omega), show Rs.comp (fun _ => Rs.ok true) (fun x => m_law_e5 (x, ())) rows = .ok (lvR rows) from Wm.comp_map (fun _ _ => rfl) fun _ _ => rfl]
  simp only [Rs.bo, S.top, gd8, gd5]
  have tsp := maxI_spec.mp S.top
  have tb : -900 ≤ t ∧ t ≤ 940 := by
    obtain ⟨r, hr, e2⟩ := List.mem_map.mp tsp.1
    have := hlv r hr
    omega
  have S2 : SitB rows (t + 1 + d8) t := ⟨n1, n2, W.rec', fun r hr => by have := hlv r hr; omega, S.top, by omega, by omega⟩
  rw [met_is S2 w0 w1 hp LE.dem (some_above n1 fun r hr => by have := tsp.2 r.1 (List.mem_map.mpr ⟨r, hr, rfl⟩); omega)]
  simp only [Rs.bo, Bool.not_true, Bool.false_eq_true, if_false]
  by_cases c : 0 < d5
  · rw [decide_eq_true c, if_pos rfl]
  · rw [decide_eq_false c, if_neg (by decide)]
    simp only [gd6, Rs.bo]
    exact refused_is ⟨n1, by omega, W.rec'⟩ LS.dem rname rstr ld6
end Wk
set_option Elab.async false
set_option linter.all false
set_option maxRecDepth 100000
set_option maxHeartbeats 4000000
namespace Wk
open PySem PySem.Spec PyProof.Rows L2 Wm
/-! ### the end -/
def spLaw [TabT] (K : PySem.W.Frag) : Sp := fun vs H Q _ => ∃ (a : Addr) (ns : List Int), vs = [.ref a] ∧ SqL K H a (ns.map V.int) ∧ ns.length ≤ 63 ∧ LamX.Tabs TabT.T H ∧ ∀ H', Q (.bl true) H'
theorem law_sp [TabT] {K : PySem.W.Frag} {mg : Str → Option Value} (T : Txt K mg) (vs : List V) (H : Hp) (Q : VK) (E : XK) (h : spLaw K vs H Q E) : spF (wdOf T) (kF : Kd (wdOf T) Bool) [.fz 0 Script] m_law vs H Q E := by
  obtain ⟨a, ns, e, hS, hl, tb, q⟩ := h
  subst e
  refine ⟨rfl, H, (⟨ns⟩, ()), SameL.refl H, tb, ⟨_, [], rfl, rfl, ⟨a, rfl, hS⟩, rfl⟩, ?_⟩
  rw [law_true ns hl]
  exact fun H' G' v f r => by rw [show v = V.bl true from r]; exact q H'
theorem all_mk {l : PySem.W.OpenLaw} {w : World} {K : PySem.W.Frag} {h : Heap} {mg : Str → Option Value} {fa : Addr} (X : K.In h) (G : h.Ns mainGlobals mg) (hfa : mg "law" = some (.ref fa))
    {od0 an0 : Option Addr} {sl0 : Array (Option Value)} {oc0 kV0 dc0 pm0 cd0 ct0 : Value} {f0 : Addr}
    {od1 an1 : Option Addr} {sl1 : Array (Option Value)} {oc1 kV1 dc1 pm1 cd1 ct1 : Value} {f1 : Addr}
    {od2 an2 : Option Addr} {sl2 : Array (Option Value)} {oc2 kV2 dc2 pm2 cd2 ct2 : Value} {f2 : Addr}
    {od3 an3 : Option Addr} {sl3 : Array (Option Value)} {oc3 kV3 dc3 pm3 cd3 ct3 : Value} {f3 : Addr}
    {od4 an4 : Option Addr} {sl4 : Array (Option Value)} {oc4 kV4 dc4 pm4 cd4 ct4 : Value} {f4 : Addr}
    {od5 an5 : Option Addr} {sl5 : Array (Option Value)} {oc5 kV5 dc5 pm5 cd5 ct5 : Value} {f5 : Addr}
    {od6 an6 : Option Addr} {sl6 : Array (Option Value)} {oc6 kV6 dc6 pm6 cd6 ct6 : Value} {f6 : Addr}
    {od7 an7 : Option Addr} {sl7 : Array (Option Value)} {oc7 kV7 dc7 pm7 cd7 ct7 : Value} {f7 : Addr}
    {od8 an8 : Option Addr} {sl8 : Array (Option Value)} {oc8 kV8 dc8 pm8 cd8 ct8 : Value} {f8 : Addr}
    {od9 an9 : Option Addr} {sl9 : Array (Option Value)} {oc9 kV9 dc9 pm9 cd9 ct9 : Value} {f9 : Addr}
    {od10 an10 : Option Addr} {sl10 : Array (Option Value)} {oc10 kV10 dc10 pm10 cd10 ct10 : Value} {f10 : Addr}
    {od11 an11 : Option Addr} {sl11 : Array (Option Value)} {oc11 kV11 dc11 pm11 cd11 ct11 : Value} {f11 : Addr}
    {od12 an12 : Option Addr} {sl12 : Array (Option Value)} {oc12 kV12 dc12 pm12 cd12 ct12 : Value} {f12 : Addr}
    {od13 an13 : Option Addr} {sl13 : Array (Option Value)} {oc13 kV13 dc13 pm13 cd13 ct13 : Value} {f13 : Addr}
    {od14 an14 : Option Addr} {sl14 : Array (Option Value)} {oc14 kV14 dc14 pm14 cd14 ct14 : Value} {f14 : Addr}
    {od15 an15 : Option Addr} {sl15 : Array (Option Value)} {oc15 kV15 dc15 pm15 cd15 ct15 : Value} {f15 : Addr}
    {od16 an16 : Option Addr} {sl16 : Array (Option Value)} {oc16 kV16 dc16 pm16 cd16 ct16 : Value} {f16 : Addr}
    {od17 an17 : Option Addr} {sl17 : Array (Option Value)} {oc17 kV17 dc17 pm17 cd17 ct17 : Value} {f17 : Addr}
    {od18 an18 : Option Addr} {sl18 : Array (Option Value)} {oc18 kV18 dc18 pm18 cd18 ct18 : Value} {f18 : Addr}
    {od19 an19 : Option Addr} {sl19 : Array (Option Value)} {oc19 kV19 dc19 pm19 cd19 ct19 : Value} {f19 : Addr}
    {od20 an20 : Option Addr} {sl20 : Array (Option Value)} {oc20 kV20 dc20 pm20 cd20 ct20 : Value} {f20 : Addr}
    {od21 an21 : Option Addr} {sl21 : Array (Option Value)} {oc21  dc21 pm21 cd21 ct21 : Value} {f21 : Addr}
    {od22 an22 : Option Addr} {sl22 : Array (Option Value)} {oc22  dc22 pm22 cd22 ct22 : Value} {f22 : Addr}
    {od23 an23 : Option Addr} {sl23 : Array (Option Value)} {oc23  dc23 pm23 cd23 ct23 : Value} {f23 : Addr}
    {od24 an24 : Option Addr} {sl24 : Array (Option Value)} {oc24 kV24 dc24 pm24  ct24 : Value} {f24 : Addr}
    {cc24 P24 : Addr}
    {od25 an25 : Option Addr} {sl25 : Array (Option Value)} {oc25 kV25 dc25 pm25 cd25 ct25 : Value} {f25 : Addr}
    {od26 an26 : Option Addr} {sl26 : Array (Option Value)} {oc26  dc26 pm26 cd26 ct26 : Value} {f26 : Addr}
    {od27 an27 : Option Addr} {sl27 : Array (Option Value)} {oc27 kV27 dc27 pm27 cd27 ct27 : Value} {f27 : Addr}
    {od28 an28 : Option Addr} {sl28 : Array (Option Value)} {oc28 kV28 dc28 pm28 cd28 ct28 : Value} {f28 : Addr}
    {od29 an29 : Option Addr} {sl29 : Array (Option Value)} {oc29 kV29 dc29 pm29 cd29 ct29 : Value} {f29 : Addr}
    {od30 an30 : Option Addr} {sl30 : Array (Option Value)} {oc30  dc30 pm30 cd30 ct30 : Value} {f30 : Addr}
    {od31 an31 : Option Addr} {sl31 : Array (Option Value)} {oc31  dc31 pm31 cd31 ct31 : Value} {f31 : Addr}
    {od32 an32 : Option Addr} {sl32 : Array (Option Value)} {oc32 kV32 dc32 pm32 cd32 ct32 : Value} {f32 : Addr}
    {od33 an33 : Option Addr} {sl33 : Array (Option Value)} {oc33 kV33 dc33 pm33 cd33 ct33 : Value} {f33 : Addr}
    {od34 an34 : Option Addr} {sl34 : Array (Option Value)} {oc34 kV34 dc34 pm34 cd34 ct34 : Value} {f34 : Addr}
    {od35 an35 : Option Addr} {sl35 : Array (Option Value)} {oc35 kV35 dc35 pm35 cd35 ct35 : Value} {f35 : Addr}
    {od36 an36 : Option Addr} {sl36 : Array (Option Value)} {oc36 kV36 dc36 pm36 cd36 ct36 : Value} {f36 : Addr}
    {c_Sheaf : Addr}
    {c_WornError : Addr}
    {c_InvalidSheaf : Addr}
    {nm_InvalidSheaf q_InvalidSheaf : Str} {N_InvalidSheaf : Addr} {bs_InvalidSheaf : List Value} {sn_InvalidSheaf : List Str} {sub_InvalidSheaf : List Value} {ab_InvalidSheaf : Bool} {col_InvalidSheaf : Option Bool} {dd_InvalidSheaf : Option Addr} {k0_InvalidSheaf k1_InvalidSheaf k2_InvalidSheaf k3_InvalidSheaf k5_InvalidSheaf : Option Value} {o_InvalidSheaf : Obj}
    {c_InvalidDemands : Addr}
    {nm_InvalidDemands q_InvalidDemands : Str} {N_InvalidDemands : Addr} {bs_InvalidDemands : List Value} {sn_InvalidDemands : List Str} {sub_InvalidDemands : List Value} {ab_InvalidDemands : Bool} {col_InvalidDemands : Option Bool} {dd_InvalidDemands : Option Addr} {k0_InvalidDemands k1_InvalidDemands k2_InvalidDemands k3_InvalidDemands k5_InvalidDemands : Option Value} {o_InvalidDemands : Obj}
    {c_InvalidDeed : Addr}
    {c_InvalidEntry : Addr}
    {c_InvalidText : Addr}
    {c_InvalidBox : Addr}
    {c_NoOutcome : Addr}
    {c_UnknownRecord : Addr}
    {c_Spoiled : Addr}
    {c_Impossible : Addr}
    {c_RepeatedRecord : Addr}
    {c_WrongMove : Addr}
    {c_ContradictoryLog : Addr}
    {c_InvalidRound : Addr}
    {c_UsedName : Addr}
    {c_InvalidName : Addr}
    {c_UnknownName : Addr}
    {c_InvalidPage : Addr}
    {c_NothingToUndo : Addr}
    {c_NothingToRedo : Addr}
    {D21 : Addr} {tk21 : Tok}
    {D22 : Addr} {tk22 : Tok}
    {D23 : Addr} {tk23 : Tok}
    {D26 : Addr} {tk26 : Tok}
    {D30 : Addr} {tk30 : Tok}
    {D31 : Addr} {tk31 : Tok}
    {t_LONGEST : Tok}
    {t_SIGNS : Tok}
    (aC_Sheaf : PySem.W.nsIn K mainGlobals "Sheaf" = some (some (.ref c_Sheaf))) (pg_Sheaf : PySem.W.plainGet K c_Sheaf Str.empty = true) (hd_Sheaf : PySem.W.hasDictIn K c_Sheaf = true) (po_Sheaf : PySem.W.plainOver K c_Sheaf = true) (sa_Sheaf : PySem.W.findIn K (.ref c_Sheaf) "__setattr__" = some (some (.builtin "object.__setattr__"))) (mk_Sheaf : PySem.W.makesIn K c_Sheaf = true) (kc_Sheaf : PySem.W.keepIn K (.ref c_Sheaf) = true)
    (na_Sheaf__rows : PySem.W.findIn K (.ref c_Sheaf) "_rows" = some none)
    (ia_Sheaf : PySem.W.findIn K (.ref c_Sheaf) "__class__" = some (some (.builtin "object.__class__"))) (ib_Sheaf : PySem.W.specialIn K (.builtin "object.__class__") "__get__" = some (some (.builtin "getset_descriptor.__get__"))) (ic_Sheaf : PySem.W.takesIn K (.builtin "object.__class__") = some true) (id_Sheaf : PySem.W.mroIn K c_Sheaf (.type "object") = some true)
    (aC_WornError : PySem.W.nsIn K mainGlobals "WornError" = some (some (.ref c_WornError)))
    (xr_WornError : PySem.W.readsIn K c_WornError (.type "type") = true)
    (xg_WornError : PySem.W.specialIn K (.ref c_WornError) "__getattribute__" = some (some (.builtin "type.__getattribute__")))
    (xv_WornError : PySem.W.findCls K (.ref c_WornError) (.type "type") "__init__" = some (.val (.builtin "ValueError.__init__")))
    (xe_WornError : PySem.W.subIn K (.ref c_WornError) (.type "BaseException") = some true)
    (xt_WornError : PySem.W.typeIn K (.ref c_WornError) = some (.type "type"))
    (yh_WornError : PySem.W.hasDictIn K c_WornError = true)
    (ys_WornError : PySem.W.subIn K (.ref c_WornError) (.ref c_WornError) = some true)
    (aC_InvalidSheaf : PySem.W.nsIn K mainGlobals "InvalidSheaf" = some (some (.ref c_InvalidSheaf)))
    (xl_InvalidSheaf : K.lookup c_InvalidSheaf = some o_InvalidSheaf)
    (xo_InvalidSheaf : o_InvalidSheaf = excClassObj nm_InvalidSheaf q_InvalidSheaf c_InvalidSheaf N_InvalidSheaf bs_InvalidSheaf [.ref c_WornError, .type "ValueError", .type "Exception", .type "BaseException", .type "object"] true sn_InvalidSheaf sub_InvalidSheaf ab_InvalidSheaf col_InvalidSheaf dd_InvalidSheaf k0_InvalidSheaf k1_InvalidSheaf k2_InvalidSheaf k3_InvalidSheaf k5_InvalidSheaf "ValueError.__new__")
    (xs_InvalidSheaf : PySem.W.findIn K (.ref c_InvalidSheaf) "__setattr__" = some (some (.builtin "object.__setattr__")))
    (xk_InvalidSheaf : PySem.W.keepIn K (.ref c_InvalidSheaf) = true)
    (xe_InvalidSheaf : PySem.W.subIn K (.ref c_InvalidSheaf) (.type "BaseException") = some true)
    (xt_InvalidSheaf : PySem.W.typeIn K (.ref c_InvalidSheaf) = some (.type "type"))
    (nf_InvalidSheaf : PySem.W.findIn K (.ref c_InvalidSheaf) "index" = some none)
    (yh_InvalidSheaf : PySem.W.hasDictIn K c_InvalidSheaf = true)
    (ys_InvalidSheaf : PySem.W.subIn K (.ref c_InvalidSheaf) (.ref c_InvalidSheaf) = some true)
    (aC_InvalidDemands : PySem.W.nsIn K mainGlobals "InvalidDemands" = some (some (.ref c_InvalidDemands)))
    (xl_InvalidDemands : K.lookup c_InvalidDemands = some o_InvalidDemands)
    (xo_InvalidDemands : o_InvalidDemands = excClassObj nm_InvalidDemands q_InvalidDemands c_InvalidDemands N_InvalidDemands bs_InvalidDemands [.ref c_WornError, .type "ValueError", .type "Exception", .type "BaseException", .type "object"] true sn_InvalidDemands sub_InvalidDemands ab_InvalidDemands col_InvalidDemands dd_InvalidDemands k0_InvalidDemands k1_InvalidDemands k2_InvalidDemands k3_InvalidDemands k5_InvalidDemands "ValueError.__new__")
    (xs_InvalidDemands : PySem.W.findIn K (.ref c_InvalidDemands) "__setattr__" = some (some (.builtin "object.__setattr__")))
    (xk_InvalidDemands : PySem.W.keepIn K (.ref c_InvalidDemands) = true)
    (xe_InvalidDemands : PySem.W.subIn K (.ref c_InvalidDemands) (.type "BaseException") = some true)
    (xt_InvalidDemands : PySem.W.typeIn K (.ref c_InvalidDemands) = some (.type "type"))
    (nf_InvalidDemands : PySem.W.findIn K (.ref c_InvalidDemands) "record" = some none)
    (ya_InvalidDemands : PySem.W.findIn K (.ref c_InvalidDemands) "__getattribute__" = some (some (.builtin "BaseException.__getattribute__")))
    (yb_InvalidDemands : PySem.W.findIn K (.ref c_InvalidDemands) "__getattr__" = some none)
    (yc_InvalidDemands : PySem.W.findIn K (.ref c_InvalidDemands) "__class__" = some (some (.builtin "object.__class__")))
    (yd_InvalidDemands : PySem.W.specialIn K (.builtin "object.__class__") "__get__" = some (some (.builtin "getset_descriptor.__get__")))
    (ye_InvalidDemands : PySem.W.takesIn K (.builtin "object.__class__") = some true)
    (yf_InvalidDemands : PySem.W.mroIn K c_InvalidDemands (.type "object") = some true)
    (yh_InvalidDemands : PySem.W.hasDictIn K c_InvalidDemands = true)
    (ys_InvalidDemands : PySem.W.subIn K (.ref c_InvalidDemands) (.ref c_InvalidDemands) = some true)
    (aC_InvalidDeed : PySem.W.nsIn K mainGlobals "InvalidDeed" = some (some (.ref c_InvalidDeed)))
    (xe_InvalidDeed : PySem.W.subIn K (.ref c_InvalidDeed) (.type "BaseException") = some true)
    (xt_InvalidDeed : PySem.W.typeIn K (.ref c_InvalidDeed) = some (.type "type"))
    (yh_InvalidDeed : PySem.W.hasDictIn K c_InvalidDeed = true)
    (ys_InvalidDeed : PySem.W.subIn K (.ref c_InvalidDeed) (.ref c_InvalidDeed) = some true)
    (aC_InvalidEntry : PySem.W.nsIn K mainGlobals "InvalidEntry" = some (some (.ref c_InvalidEntry)))
    (xe_InvalidEntry : PySem.W.subIn K (.ref c_InvalidEntry) (.type "BaseException") = some true)
    (xt_InvalidEntry : PySem.W.typeIn K (.ref c_InvalidEntry) = some (.type "type"))
    (yh_InvalidEntry : PySem.W.hasDictIn K c_InvalidEntry = true)
    (ys_InvalidEntry : PySem.W.subIn K (.ref c_InvalidEntry) (.ref c_InvalidEntry) = some true)
    (aC_InvalidText : PySem.W.nsIn K mainGlobals "InvalidText" = some (some (.ref c_InvalidText)))
    (xe_InvalidText : PySem.W.subIn K (.ref c_InvalidText) (.type "BaseException") = some true)
    (xt_InvalidText : PySem.W.typeIn K (.ref c_InvalidText) = some (.type "type"))
    (yh_InvalidText : PySem.W.hasDictIn K c_InvalidText = true)
    (ys_InvalidText : PySem.W.subIn K (.ref c_InvalidText) (.ref c_InvalidText) = some true)
    (aC_InvalidBox : PySem.W.nsIn K mainGlobals "InvalidBox" = some (some (.ref c_InvalidBox)))
    (xe_InvalidBox : PySem.W.subIn K (.ref c_InvalidBox) (.type "BaseException") = some true)
    (xt_InvalidBox : PySem.W.typeIn K (.ref c_InvalidBox) = some (.type "type"))
    (yh_InvalidBox : PySem.W.hasDictIn K c_InvalidBox = true)
    (ys_InvalidBox : PySem.W.subIn K (.ref c_InvalidBox) (.ref c_InvalidBox) = some true)
    (aC_NoOutcome : PySem.W.nsIn K mainGlobals "NoOutcome" = some (some (.ref c_NoOutcome)))
    (xe_NoOutcome : PySem.W.subIn K (.ref c_NoOutcome) (.type "BaseException") = some true)
    (xt_NoOutcome : PySem.W.typeIn K (.ref c_NoOutcome) = some (.type "type"))
    (yh_NoOutcome : PySem.W.hasDictIn K c_NoOutcome = true)
    (ys_NoOutcome : PySem.W.subIn K (.ref c_NoOutcome) (.ref c_NoOutcome) = some true)
    (aC_UnknownRecord : PySem.W.nsIn K mainGlobals "UnknownRecord" = some (some (.ref c_UnknownRecord)))
    (xe_UnknownRecord : PySem.W.subIn K (.ref c_UnknownRecord) (.type "BaseException") = some true)
    (xt_UnknownRecord : PySem.W.typeIn K (.ref c_UnknownRecord) = some (.type "type"))
    (yh_UnknownRecord : PySem.W.hasDictIn K c_UnknownRecord = true)
    (ys_UnknownRecord : PySem.W.subIn K (.ref c_UnknownRecord) (.ref c_UnknownRecord) = some true)
    (aC_Spoiled : PySem.W.nsIn K mainGlobals "Spoiled" = some (some (.ref c_Spoiled)))
    (xe_Spoiled : PySem.W.subIn K (.ref c_Spoiled) (.type "BaseException") = some true)
    (xt_Spoiled : PySem.W.typeIn K (.ref c_Spoiled) = some (.type "type"))
    (yh_Spoiled : PySem.W.hasDictIn K c_Spoiled = true)
    (ys_Spoiled : PySem.W.subIn K (.ref c_Spoiled) (.ref c_Spoiled) = some true)
    (aC_Impossible : PySem.W.nsIn K mainGlobals "Impossible" = some (some (.ref c_Impossible)))
    (xe_Impossible : PySem.W.subIn K (.ref c_Impossible) (.type "BaseException") = some true)
    (xt_Impossible : PySem.W.typeIn K (.ref c_Impossible) = some (.type "type"))
    (yh_Impossible : PySem.W.hasDictIn K c_Impossible = true)
    (ys_Impossible : PySem.W.subIn K (.ref c_Impossible) (.ref c_Impossible) = some true)
    (aC_RepeatedRecord : PySem.W.nsIn K mainGlobals "RepeatedRecord" = some (some (.ref c_RepeatedRecord)))
    (xe_RepeatedRecord : PySem.W.subIn K (.ref c_RepeatedRecord) (.type "BaseException") = some true)
    (xt_RepeatedRecord : PySem.W.typeIn K (.ref c_RepeatedRecord) = some (.type "type"))
    (yh_RepeatedRecord : PySem.W.hasDictIn K c_RepeatedRecord = true)
    (ys_RepeatedRecord : PySem.W.subIn K (.ref c_RepeatedRecord) (.ref c_RepeatedRecord) = some true)
    (aC_WrongMove : PySem.W.nsIn K mainGlobals "WrongMove" = some (some (.ref c_WrongMove)))
    (xe_WrongMove : PySem.W.subIn K (.ref c_WrongMove) (.type "BaseException") = some true)
    (xt_WrongMove : PySem.W.typeIn K (.ref c_WrongMove) = some (.type "type"))
    (yh_WrongMove : PySem.W.hasDictIn K c_WrongMove = true)
    (ys_WrongMove : PySem.W.subIn K (.ref c_WrongMove) (.ref c_WrongMove) = some true)
    (aC_ContradictoryLog : PySem.W.nsIn K mainGlobals "ContradictoryLog" = some (some (.ref c_ContradictoryLog)))
    (xe_ContradictoryLog : PySem.W.subIn K (.ref c_ContradictoryLog) (.type "BaseException") = some true)
    (xt_ContradictoryLog : PySem.W.typeIn K (.ref c_ContradictoryLog) = some (.type "type"))
    (yh_ContradictoryLog : PySem.W.hasDictIn K c_ContradictoryLog = true)
    (ys_ContradictoryLog : PySem.W.subIn K (.ref c_ContradictoryLog) (.ref c_ContradictoryLog) = some true)
    (aC_InvalidRound : PySem.W.nsIn K mainGlobals "InvalidRound" = some (some (.ref c_InvalidRound)))
    (xe_InvalidRound : PySem.W.subIn K (.ref c_InvalidRound) (.type "BaseException") = some true)
    (xt_InvalidRound : PySem.W.typeIn K (.ref c_InvalidRound) = some (.type "type"))
    (yh_InvalidRound : PySem.W.hasDictIn K c_InvalidRound = true)
    (ys_InvalidRound : PySem.W.subIn K (.ref c_InvalidRound) (.ref c_InvalidRound) = some true)
    (aC_UsedName : PySem.W.nsIn K mainGlobals "UsedName" = some (some (.ref c_UsedName)))
    (xe_UsedName : PySem.W.subIn K (.ref c_UsedName) (.type "BaseException") = some true)
    (xt_UsedName : PySem.W.typeIn K (.ref c_UsedName) = some (.type "type"))
    (yh_UsedName : PySem.W.hasDictIn K c_UsedName = true)
    (ys_UsedName : PySem.W.subIn K (.ref c_UsedName) (.ref c_UsedName) = some true)
    (aC_InvalidName : PySem.W.nsIn K mainGlobals "InvalidName" = some (some (.ref c_InvalidName)))
    (xe_InvalidName : PySem.W.subIn K (.ref c_InvalidName) (.type "BaseException") = some true)
    (xt_InvalidName : PySem.W.typeIn K (.ref c_InvalidName) = some (.type "type"))
    (yh_InvalidName : PySem.W.hasDictIn K c_InvalidName = true)
    (ys_InvalidName : PySem.W.subIn K (.ref c_InvalidName) (.ref c_InvalidName) = some true)
    (aC_UnknownName : PySem.W.nsIn K mainGlobals "UnknownName" = some (some (.ref c_UnknownName)))
    (xe_UnknownName : PySem.W.subIn K (.ref c_UnknownName) (.type "BaseException") = some true)
    (xt_UnknownName : PySem.W.typeIn K (.ref c_UnknownName) = some (.type "type"))
    (yh_UnknownName : PySem.W.hasDictIn K c_UnknownName = true)
    (ys_UnknownName : PySem.W.subIn K (.ref c_UnknownName) (.ref c_UnknownName) = some true)
    (aC_InvalidPage : PySem.W.nsIn K mainGlobals "InvalidPage" = some (some (.ref c_InvalidPage)))
    (xe_InvalidPage : PySem.W.subIn K (.ref c_InvalidPage) (.type "BaseException") = some true)
    (xt_InvalidPage : PySem.W.typeIn K (.ref c_InvalidPage) = some (.type "type"))
    (yh_InvalidPage : PySem.W.hasDictIn K c_InvalidPage = true)
    (ys_InvalidPage : PySem.W.subIn K (.ref c_InvalidPage) (.ref c_InvalidPage) = some true)
    (aC_NothingToUndo : PySem.W.nsIn K mainGlobals "NothingToUndo" = some (some (.ref c_NothingToUndo)))
    (xe_NothingToUndo : PySem.W.subIn K (.ref c_NothingToUndo) (.type "BaseException") = some true)
    (xt_NothingToUndo : PySem.W.typeIn K (.ref c_NothingToUndo) = some (.type "type"))
    (yh_NothingToUndo : PySem.W.hasDictIn K c_NothingToUndo = true)
    (ys_NothingToUndo : PySem.W.subIn K (.ref c_NothingToUndo) (.ref c_NothingToUndo) = some true)
    (aC_NothingToRedo : PySem.W.nsIn K mainGlobals "NothingToRedo" = some (some (.ref c_NothingToRedo)))
    (xe_NothingToRedo : PySem.W.subIn K (.ref c_NothingToRedo) (.type "BaseException") = some true)
    (xt_NothingToRedo : PySem.W.typeIn K (.ref c_NothingToRedo) = some (.type "type"))
    (yh_NothingToRedo : PySem.W.hasDictIn K c_NothingToRedo = true)
    (ys_NothingToRedo : PySem.W.subIn K (.ref c_NothingToRedo) (.ref c_NothingToRedo) = some true)
    (su_InvalidDemands_InvalidSheaf : PySem.W.subIn K (.ref c_InvalidDemands) (.ref c_InvalidSheaf) = some false)
    (su_InvalidDemands_InvalidDeed : PySem.W.subIn K (.ref c_InvalidDemands) (.ref c_InvalidDeed) = some false)
    (su_InvalidDemands_InvalidEntry : PySem.W.subIn K (.ref c_InvalidDemands) (.ref c_InvalidEntry) = some false)
    (su_InvalidDemands_InvalidText : PySem.W.subIn K (.ref c_InvalidDemands) (.ref c_InvalidText) = some false)
    (su_InvalidDemands_InvalidBox : PySem.W.subIn K (.ref c_InvalidDemands) (.ref c_InvalidBox) = some false)
    (su_InvalidDemands_NoOutcome : PySem.W.subIn K (.ref c_InvalidDemands) (.ref c_NoOutcome) = some false)
    (su_InvalidDemands_UnknownRecord : PySem.W.subIn K (.ref c_InvalidDemands) (.ref c_UnknownRecord) = some false)
    (su_InvalidDemands_Spoiled : PySem.W.subIn K (.ref c_InvalidDemands) (.ref c_Spoiled) = some false)
    (su_InvalidDemands_Impossible : PySem.W.subIn K (.ref c_InvalidDemands) (.ref c_Impossible) = some false)
    (su_InvalidDemands_RepeatedRecord : PySem.W.subIn K (.ref c_InvalidDemands) (.ref c_RepeatedRecord) = some false)
    (su_InvalidDemands_WrongMove : PySem.W.subIn K (.ref c_InvalidDemands) (.ref c_WrongMove) = some false)
    (su_InvalidDemands_ContradictoryLog : PySem.W.subIn K (.ref c_InvalidDemands) (.ref c_ContradictoryLog) = some false)
    (su_InvalidDemands_InvalidRound : PySem.W.subIn K (.ref c_InvalidDemands) (.ref c_InvalidRound) = some false)
    (su_InvalidDemands_UsedName : PySem.W.subIn K (.ref c_InvalidDemands) (.ref c_UsedName) = some false)
    (su_InvalidDemands_InvalidName : PySem.W.subIn K (.ref c_InvalidDemands) (.ref c_InvalidName) = some false)
    (su_InvalidDemands_UnknownName : PySem.W.subIn K (.ref c_InvalidDemands) (.ref c_UnknownName) = some false)
    (su_InvalidDemands_InvalidPage : PySem.W.subIn K (.ref c_InvalidDemands) (.ref c_InvalidPage) = some false)
    (su_InvalidDemands_NothingToUndo : PySem.W.subIn K (.ref c_InvalidDemands) (.ref c_NothingToUndo) = some false)
    (su_InvalidDemands_NothingToRedo : PySem.W.subIn K (.ref c_InvalidDemands) (.ref c_NothingToRedo) = some false)
    (su_InvalidDemands_WornError : PySem.W.subIn K (.ref c_InvalidDemands) (.ref c_WornError) = some true)
    (kv_InvalidDemands : PySem.W.subIn K (.ref c_InvalidDemands) (.type "ValueError") = some true)
    (a0 : PySem.W.nsIn K mainGlobals "_law_cell" = some (some (.ref f0)))
    (l0 : K.lookup f0 = some ⟨oc0, od0, .func (PySem.W.fnOf "_law_cell" "_law_cell" (defArgs s_law_cell) (defBody s_law_cell) (defScope s_law_cell) .none kV0 dc0 pm0 an0 cd0 ct0), sl0⟩) (c0 : PySem.W.codeIn K cd0 "_law_cell" = true) (k0 : PySem.W.keepIn K (.ref f0) = true)
    (a1 : PySem.W.nsIn K mainGlobals "_law_given" = some (some (.ref f1)))
    (l1 : K.lookup f1 = some ⟨oc1, od1, .func (PySem.W.fnOf "_law_given" "_law_given" (defArgs s_law_given) (defBody s_law_given) (defScope s_law_given) .none kV1 dc1 pm1 an1 cd1 ct1), sl1⟩) (c1 : PySem.W.codeIn K cd1 "_law_given" = true) (k1 : PySem.W.keepIn K (.ref f1) = true)
    (a2 : PySem.W.nsIn K mainGlobals "_law_draws" = some (some (.ref f2)))
    (l2 : K.lookup f2 = some ⟨oc2, od2, .func (PySem.W.fnOf "_law_draws" "_law_draws" (defArgs s_law_draws) (defBody s_law_draws) (defScope s_law_draws) .none kV2 dc2 pm2 an2 cd2 ct2), sl2⟩) (c2 : PySem.W.codeIn K cd2 "_law_draws" = true) (k2 : PySem.W.keepIn K (.ref f2) = true)
    (a3 : PySem.W.nsIn K mainGlobals "_law_names" = some (some (.ref f3)))
    (l3 : K.lookup f3 = some ⟨oc3, od3, .func (PySem.W.fnOf "_law_names" "_law_names" (defArgs s_law_names) (defBody s_law_names) (defScope s_law_names) .none kV3 dc3 pm3 an3 cd3 ct3), sl3⟩) (c3 : PySem.W.codeIn K cd3 "_law_names" = true) (k3 : PySem.W.keepIn K (.ref f3) = true)
    (a4 : PySem.W.nsIn K mainGlobals "_law_sheets" = some (some (.ref f4)))
    (l4 : K.lookup f4 = some ⟨oc4, od4, .func (PySem.W.fnOf "_law_sheets" "_law_sheets" (defArgs s_law_sheets) (defBody s_law_sheets) (defScope s_law_sheets) .none kV4 dc4 pm4 an4 cd4 ct4), sl4⟩) (c4 : PySem.W.codeIn K cd4 "_law_sheets" = true) (k4 : PySem.W.keepIn K (.ref f4) = true)
    (a5 : PySem.W.nsIn K mainGlobals "_law_width" = some (some (.ref f5)))
    (l5 : K.lookup f5 = some ⟨oc5, od5, .func (PySem.W.fnOf "_law_width" "_law_width" (defArgs s_law_width) (defBody s_law_width) (defScope s_law_width) .none kV5 dc5 pm5 an5 cd5 ct5), sl5⟩) (c5 : PySem.W.codeIn K cd5 "_law_width" = true) (k5 : PySem.W.keepIn K (.ref f5) = true)
    (a6 : PySem.W.nsIn K mainGlobals "_law_moved" = some (some (.ref f6)))
    (l6 : K.lookup f6 = some ⟨oc6, od6, .func (PySem.W.fnOf "_law_moved" "_law_moved" (defArgs s_law_moved) (defBody s_law_moved) (defScope s_law_moved) .none kV6 dc6 pm6 an6 cd6 ct6), sl6⟩) (c6 : PySem.W.codeIn K cd6 "_law_moved" = true) (k6 : PySem.W.keepIn K (.ref f6) = true)
    (a7 : PySem.W.nsIn K mainGlobals "_law_wild_log" = some (some (.ref f7)))
    (l7 : K.lookup f7 = some ⟨oc7, od7, .func (PySem.W.fnOf "_law_wild_log" "_law_wild_log" (defArgs s_law_wild_log) (defBody s_law_wild_log) (defScope s_law_wild_log) .none kV7 dc7 pm7 an7 cd7 ct7), sl7⟩) (c7 : PySem.W.codeIn K cd7 "_law_wild_log" = true) (k7 : PySem.W.keepIn K (.ref f7) = true)
    (a8 : PySem.W.nsIn K mainGlobals "_law_walk" = some (some (.ref f8)))
    (l8 : K.lookup f8 = some ⟨oc8, od8, .func (PySem.W.fnOf "_law_walk" "_law_walk" (defArgs s_law_walk) (defBody s_law_walk) (defScope s_law_walk) .none kV8 dc8 pm8 an8 cd8 ct8), sl8⟩) (c8 : PySem.W.codeIn K cd8 "_law_walk" = true) (k8 : PySem.W.keepIn K (.ref f8) = true)
    (a9 : PySem.W.nsIn K mainGlobals "_law_finished" = some (some (.ref f9)))
    (l9 : K.lookup f9 = some ⟨oc9, od9, .func (PySem.W.fnOf "_law_finished" "_law_finished" (defArgs s_law_finished) (defBody s_law_finished) (defScope s_law_finished) .none kV9 dc9 pm9 an9 cd9 ct9), sl9⟩) (c9 : PySem.W.codeIn K cd9 "_law_finished" = true) (k9 : PySem.W.keepIn K (.ref f9) = true)
    (a10 : PySem.W.nsIn K mainGlobals "_law_shares" = some (some (.ref f10)))
    (l10 : K.lookup f10 = some ⟨oc10, od10, .func (PySem.W.fnOf "_law_shares" "_law_shares" (defArgs s_law_shares) (defBody s_law_shares) (defScope s_law_shares) .none kV10 dc10 pm10 an10 cd10 ct10), sl10⟩) (c10 : PySem.W.codeIn K cd10 "_law_shares" = true) (k10 : PySem.W.keepIn K (.ref f10) = true)
    (a11 : PySem.W.nsIn K mainGlobals "_law_lessened" = some (some (.ref f11)))
    (l11 : K.lookup f11 = some ⟨oc11, od11, .func (PySem.W.fnOf "_law_lessened" "_law_lessened" (defArgs s_law_lessened) (defBody s_law_lessened) (defScope s_law_lessened) .none kV11 dc11 pm11 an11 cd11 ct11), sl11⟩) (c11 : PySem.W.codeIn K cd11 "_law_lessened" = true) (k11 : PySem.W.keepIn K (.ref f11) = true)
    (a12 : PySem.W.findIn K (.ref c_InvalidSheaf) "__init__" = some (some (.ref f12))) (i12 : PySem.W.typeIn K (.ref f12) = some (.type "function"))
    (l12 : K.lookup f12 = some ⟨oc12, od12, .func (PySem.W.fnOf "__init__" "InvalidSheaf.__init__" (defArgs s_InvalidSheaf_init) (defBody s_InvalidSheaf_init) (defScope s_InvalidSheaf_init) .none kV12 dc12 pm12 an12 cd12 ct12), sl12⟩) (c12 : PySem.W.codeIn K cd12 "InvalidSheaf.__init__" = true) (k12 : PySem.W.keepIn K (.ref f12) = true)
    (a13 : PySem.W.nsIn K mainGlobals "valid_record" = some (some (.ref f13)))
    (l13 : K.lookup f13 = some ⟨oc13, od13, .func (PySem.W.fnOf "valid_record" "valid_record" (defArgs s_valid_record) (defBody s_valid_record) (defScope s_valid_record) .none kV13 dc13 pm13 an13 cd13 ct13), sl13⟩) (c13 : PySem.W.codeIn K cd13 "valid_record" = true) (k13 : PySem.W.keepIn K (.ref f13) = true)
    (a14 : PySem.W.findIn K (.ref c_Sheaf) "__init__" = some (some (.ref f14))) (i14 : PySem.W.isFn K (.ref f14) = true)
    (l14 : K.lookup f14 = some ⟨oc14, od14, .func (PySem.W.fnOf "__init__" "Sheaf.__init__" (defArgs s_Sheaf_init) (defBody s_Sheaf_init) (defScope s_Sheaf_init) .none kV14 dc14 pm14 an14 cd14 ct14), sl14⟩) (c14 : PySem.W.codeIn K cd14 "Sheaf.__init__" = true) (k14 : PySem.W.keepIn K (.ref f14) = true)
    (a15 : PySem.W.nsIn K mainGlobals "_law_single" = some (some (.ref f15)))
    (l15 : K.lookup f15 = some ⟨oc15, od15, .func (PySem.W.fnOf "_law_single" "_law_single" (defArgs s_law_single) (defBody s_law_single) (defScope s_law_single) .none kV15 dc15 pm15 an15 cd15 ct15), sl15⟩) (c15 : PySem.W.codeIn K cd15 "_law_single" = true) (k15 : PySem.W.keepIn K (.ref f15) = true)
    (a16 : PySem.W.findIn K (.ref c_InvalidDemands) "__init__" = some (some (.ref f16))) (i16 : PySem.W.typeIn K (.ref f16) = some (.type "function"))
    (l16 : K.lookup f16 = some ⟨oc16, od16, .func (PySem.W.fnOf "__init__" "InvalidDemands.__init__" (defArgs s_InvalidDemands_init) (defBody s_InvalidDemands_init) (defScope s_InvalidDemands_init) .none kV16 dc16 pm16 an16 cd16 ct16), sl16⟩) (c16 : PySem.W.codeIn K cd16 "InvalidDemands.__init__" = true) (k16 : PySem.W.keepIn K (.ref f16) = true)
    (a17 : PySem.W.nsIn K mainGlobals "check_demands" = some (some (.ref f17)))
    (l17 : K.lookup f17 = some ⟨oc17, od17, .func (PySem.W.fnOf "check_demands" "check_demands" (defArgs s_check_demands) (defBody s_check_demands) (defScope s_check_demands) .none kV17 dc17 pm17 an17 cd17 ct17), sl17⟩) (c17 : PySem.W.codeIn K cd17 "check_demands" = true) (k17 : PySem.W.keepIn K (.ref f17) = true)
    (a18 : PySem.W.findIn K (.ref c_Sheaf) "__len__" = some (some (.ref f18))) (i18 : PySem.W.isFn K (.ref f18) = true)
    (l18 : K.lookup f18 = some ⟨oc18, od18, .func (PySem.W.fnOf "__len__" "Sheaf.__len__" (defArgs s_Sheaf_len) (defBody s_Sheaf_len) (defScope s_Sheaf_len) .none kV18 dc18 pm18 an18 cd18 ct18), sl18⟩) (c18 : PySem.W.codeIn K cd18 "Sheaf.__len__" = true) (k18 : PySem.W.keepIn K (.ref f18) = true)
    (a19 : PySem.W.findIn K (.ref c_Sheaf) "rows" = some (some (.ref f19))) (i19 : PySem.W.isFn K (.ref f19) = true)
    (l19 : K.lookup f19 = some ⟨oc19, od19, .func (PySem.W.fnOf "rows" "Sheaf.rows" (defArgs s_Sheaf_rows) (defBody s_Sheaf_rows) (defScope s_Sheaf_rows) .none kV19 dc19 pm19 an19 cd19 ct19), sl19⟩) (c19 : PySem.W.codeIn K cd19 "Sheaf.rows" = true) (k19 : PySem.W.keepIn K (.ref f19) = true)
    (a20 : PySem.W.nsIn K mainGlobals "power" = some (some (.ref f20)))
    (l20 : K.lookup f20 = some ⟨oc20, od20, .func (PySem.W.fnOf "power" "power" (defArgs s_power) (defBody s_power) (defScope s_power) .none kV20 dc20 pm20 an20 cd20 ct20), sl20⟩) (c20 : PySem.W.codeIn K cd20 "power" = true) (k20 : PySem.W.keepIn K (.ref f20) = true)
    (a21 : PySem.W.nsIn K mainGlobals "cap" = some (some (.ref f21)))
    (l21 : K.lookup f21 = some ⟨oc21, od21, .func (PySem.W.fnOf "cap" "cap" (defArgs s_cap) (defBody s_cap) (defScope s_cap) .none (.ref D21) dc21 pm21 an21 cd21 ct21), sl21⟩) (c21 : PySem.W.codeIn K cd21 "cap" = true) (k21 : PySem.W.keepIn K (.ref f21) = true)
    (kd21 : PySem.W.nsIn K D21 "breadth" = some (some (.int 1 tk21)))
    (a22 : PySem.W.nsIn K mainGlobals "reach" = some (some (.ref f22)))
    (l22 : K.lookup f22 = some ⟨oc22, od22, .func (PySem.W.fnOf "reach" "reach" (defArgs s_reach) (defBody s_reach) (defScope s_reach) .none (.ref D22) dc22 pm22 an22 cd22 ct22), sl22⟩) (c22 : PySem.W.codeIn K cd22 "reach" = true) (k22 : PySem.W.keepIn K (.ref f22) = true)
    (kd22 : PySem.W.nsIn K D22 "breadth" = some (some (.int 1 tk22)))
    (a23 : PySem.W.nsIn K mainGlobals "record_reach" = some (some (.ref f23)))
    (l23 : K.lookup f23 = some ⟨oc23, od23, .func (PySem.W.fnOf "record_reach" "record_reach" (defArgs s_record_reach) (defBody s_record_reach) (defScope s_record_reach) .none (.ref D23) dc23 pm23 an23 cd23 ct23), sl23⟩) (c23 : PySem.W.codeIn K cd23 "record_reach" = true) (k23 : PySem.W.keepIn K (.ref f23) = true)
    (kd23 : PySem.W.nsIn K D23 "breadth" = some (some (.int 1 tk23)))
    (a24 : PySem.W.nsIn K mainGlobals "own_order" = some (some (.ref f24)))
    (l24 : K.lookup f24 = some ⟨oc24, od24, .func (PySem.W.fnOf "own_order" "own_order" (defArgs s_own_order) (defBody s_own_order) (defScope s_own_order) .none kV24 dc24 pm24 an24 (.ref cc24) ct24), sl24⟩) (c24 : PySem.W.codeIn K (.ref cc24) "own_order" = true) (k24 : PySem.W.keepIn K (.ref f24) = true)
    (tz24 : h.get? P24 = some { cls := .none, data := .fields #[] }) (th24 : PySem.W.codeHdIn K cc24 P24 = true) (tn24 : K.lookup P24 = none)
    (a25 : PySem.W.nsIn K mainGlobals "capped_power" = some (some (.ref f25)))
    (l25 : K.lookup f25 = some ⟨oc25, od25, .func (PySem.W.fnOf "capped_power" "capped_power" (defArgs s_capped_power) (defBody s_capped_power) (defScope s_capped_power) .none kV25 dc25 pm25 an25 cd25 ct25), sl25⟩) (c25 : PySem.W.codeIn K cd25 "capped_power" = true) (k25 : PySem.W.keepIn K (.ref f25) = true)
    (a26 : PySem.W.nsIn K mainGlobals "set_aside" = some (some (.ref f26)))
    (l26 : K.lookup f26 = some ⟨oc26, od26, .func (PySem.W.fnOf "set_aside" "set_aside" (defArgs s_set_aside) (defBody s_set_aside) (defScope s_set_aside) .none (.ref D26) dc26 pm26 an26 cd26 ct26), sl26⟩) (c26 : PySem.W.codeIn K cd26 "set_aside" = true) (k26 : PySem.W.keepIn K (.ref f26) = true)
    (kd26 : PySem.W.nsIn K D26 "breadth" = some (some (.int 1 tk26)))
    (a27 : PySem.W.nsIn K mainGlobals "spare_values" = some (some (.ref f27)))
    (l27 : K.lookup f27 = some ⟨oc27, od27, .func (PySem.W.fnOf "spare_values" "spare_values" (defArgs s_spare_values) (defBody s_spare_values) (defScope s_spare_values) .none kV27 dc27 pm27 an27 cd27 ct27), sl27⟩) (c27 : PySem.W.codeIn K cd27 "spare_values" = true) (k27 : PySem.W.keepIn K (.ref f27) = true)
    (a28 : PySem.W.nsIn K mainGlobals "count_no_sharper" = some (some (.ref f28)))
    (l28 : K.lookup f28 = some ⟨oc28, od28, .func (PySem.W.fnOf "count_no_sharper" "count_no_sharper" (defArgs s_count_no_sharper) (defBody s_count_no_sharper) (defScope s_count_no_sharper) .none kV28 dc28 pm28 an28 cd28 ct28), sl28⟩) (c28 : PySem.W.codeIn K cd28 "count_no_sharper" = true) (k28 : PySem.W.keepIn K (.ref f28) = true)
    (a29 : PySem.W.nsIn K mainGlobals "first_lack" = some (some (.ref f29)))
    (l29 : K.lookup f29 = some ⟨oc29, od29, .func (PySem.W.fnOf "first_lack" "first_lack" (defArgs s_first_lack) (defBody s_first_lack) (defScope s_first_lack) .none kV29 dc29 pm29 an29 cd29 ct29), sl29⟩) (c29 : PySem.W.codeIn K cd29 "first_lack" = true) (k29 : PySem.W.keepIn K (.ref f29) = true)
    (a30 : PySem.W.nsIn K mainGlobals "trouble" = some (some (.ref f30)))
    (l30 : K.lookup f30 = some ⟨oc30, od30, .func (PySem.W.fnOf "trouble" "trouble" (defArgs s_trouble) (defBody s_trouble) (defScope s_trouble) .none (.ref D30) dc30 pm30 an30 cd30 ct30), sl30⟩) (c30 : PySem.W.codeIn K cd30 "trouble" = true) (k30 : PySem.W.keepIn K (.ref f30) = true)
    (kd30 : PySem.W.nsIn K D30 "breadth" = some (some (.int 1 tk30)))
    (a31 : PySem.W.nsIn K mainGlobals "can_meet" = some (some (.ref f31)))
    (l31 : K.lookup f31 = some ⟨oc31, od31, .func (PySem.W.fnOf "can_meet" "can_meet" (defArgs s_can_meet) (defBody s_can_meet) (defScope s_can_meet) .none (.ref D31) dc31 pm31 an31 cd31 ct31), sl31⟩) (c31 : PySem.W.codeIn K cd31 "can_meet" = true) (k31 : PySem.W.keepIn K (.ref f31) = true)
    (kd31 : PySem.W.nsIn K D31 "breadth" = some (some (.int 1 tk31)))
    (a32 : PySem.W.nsIn K mainGlobals "_law_asked" = some (some (.ref f32)))
    (l32 : K.lookup f32 = some ⟨oc32, od32, .func (PySem.W.fnOf "_law_asked" "_law_asked" (defArgs s_law_asked) (defBody s_law_asked) (defScope s_law_asked) .none kV32 dc32 pm32 an32 cd32 ct32), sl32⟩) (c32 : PySem.W.codeIn K cd32 "_law_asked" = true) (k32 : PySem.W.keepIn K (.ref f32) = true)
    (a33 : PySem.W.findIn K (.ref c_Sheaf) "__eq__" = some (some (.ref f33))) (i33 : PySem.W.isFn K (.ref f33) = true)
    (l33 : K.lookup f33 = some ⟨oc33, od33, .func (PySem.W.fnOf "__eq__" "Sheaf.__eq__" (defArgs s_Sheaf_eq) (defBody s_Sheaf_eq) (defScope s_Sheaf_eq) .none kV33 dc33 pm33 an33 cd33 ct33), sl33⟩) (c33 : PySem.W.codeIn K cd33 "Sheaf.__eq__" = true) (k33 : PySem.W.keepIn K (.ref f33) = true)
    (a34 : PySem.W.nsIn K mainGlobals "_law_met" = some (some (.ref f34)))
    (l34 : K.lookup f34 = some ⟨oc34, od34, .func (PySem.W.fnOf "_law_met" "_law_met" (defArgs s_law_met) (defBody s_law_met) (defScope s_law_met) .none kV34 dc34 pm34 an34 cd34 ct34), sl34⟩) (c34 : PySem.W.codeIn K cd34 "_law_met" = true) (k34 : PySem.W.keepIn K (.ref f34) = true)
    (a35 : PySem.W.nsIn K mainGlobals "_law_refused" = some (some (.ref f35)))
    (l35 : K.lookup f35 = some ⟨oc35, od35, .func (PySem.W.fnOf "_law_refused" "_law_refused" (defArgs s_law_refused) (defBody s_law_refused) (defScope s_law_refused) .none kV35 dc35 pm35 an35 cd35 ct35), sl35⟩) (c35 : PySem.W.codeIn K cd35 "_law_refused" = true) (k35 : PySem.W.keepIn K (.ref f35) = true)
    (a36 : PySem.W.nsIn K mainGlobals "law" = some (some (.ref f36)))
    (l36 : K.lookup f36 = some ⟨oc36, od36, .func (PySem.W.fnOf "law" "law" (defArgs s_law) (defBody s_law) (defScope s_law) .none kV36 dc36 pm36 an36 cd36 ct36), sl36⟩) (c36 : PySem.W.codeIn K cd36 "law" = true) (k36 : PySem.W.keepIn K (.ref f36) = true)
    (z_ValueError : PySem.W.nsIn K mainGlobals "ValueError" = some none)
    (z_bool : PySem.W.nsIn K mainGlobals "bool" = some none)
    (z_dict : PySem.W.nsIn K mainGlobals "dict" = some none)
    (z_enumerate : PySem.W.nsIn K mainGlobals "enumerate" = some none)
    (z_int : PySem.W.nsIn K mainGlobals "int" = some none)
    (z_isinstance : PySem.W.nsIn K mainGlobals "isinstance" = some none)
    (z_len : PySem.W.nsIn K mainGlobals "len" = some none)
    (z_list : PySem.W.nsIn K mainGlobals "list" = some none)
    (z_max : PySem.W.nsIn K mainGlobals "max" = some none)
    (z_min : PySem.W.nsIn K mainGlobals "min" = some none)
    (z_range : PySem.W.nsIn K mainGlobals "range" = some none)
    (z_sorted : PySem.W.nsIn K mainGlobals "sorted" = some none)
    (z_str : PySem.W.nsIn K mainGlobals "str" = some none)
    (z_sum : PySem.W.nsIn K mainGlobals "sum" = some none)
    (z_tuple : PySem.W.nsIn K mainGlobals "tuple" = some none)
    (v_LONGEST : PySem.W.nsIn K mainGlobals "LONGEST" = some (some (.int 8 t_LONGEST)))
    (v_SIGNS : PySem.W.nsIn K mainGlobals "SIGNS" = some (some (.str "abcdefghijklmnopqrstuvwxyz0123456789" t_SIGNS))) :
    LamX.LawAtS l w K (L2N.CX l.prog w) 9 63 "script" mg fa h := by
  have e := hfa.symm.trans (PySem.W.mg_of X G a36)
  cases e
  let T : Txt K mg := {
    g_law_cell := PySem.W.mg_of X G a0,
    a_law_cell := _, d_law_cell := _, F_law_cell := fun_mk (st := s_law_cell) l0 c0 k0, b_law_cell := (fun_mk (st := s_law_cell) l0 c0 k0).binds (ps := ["script", "k"]) (fun _ _ _ _ _ _ us hl => match us, hl with | [_, _], _ => rfl),
    g_law_given := PySem.W.mg_of X G a1,
    a_law_given := _, d_law_given := _, F_law_given := fun_mk (st := s_law_given) l1 c1 k1, b_law_given := (fun_mk (st := s_law_given) l1 c1 k1).binds (ps := ["script", "k"]) (fun _ _ _ _ _ _ us hl => match us, hl with | [_, _], _ => rfl),
    g_law_draws := PySem.W.mg_of X G a2,
    a_law_draws := _, d_law_draws := _, F_law_draws := fun_mk (st := s_law_draws) l2 c2 k2, b_law_draws := (fun_mk (st := s_law_draws) l2 c2 k2).binds (ps := ["cell", "sizes"]) (fun _ _ _ _ _ _ us hl => match us, hl with | [_, _], _ => rfl),
    g_law_names := PySem.W.mg_of X G a3,
    a_law_names := _, d_law_names := _, F_law_names := fun_mk (st := s_law_names) l3 c3 k3, b_law_names := (fun_mk (st := s_law_names) l3 c3 k3).binds (ps := ["cell", "count"]) (fun _ _ _ _ _ _ us hl => match us, hl with | [_, _], _ => rfl),
    g_law_sheets := PySem.W.mg_of X G a4,
    a_law_sheets := _, d_law_sheets := _, F_law_sheets := fun_mk (st := s_law_sheets) l4 c4 k4, b_law_sheets := (fun_mk (st := s_law_sheets) l4 c4 k4).binds (ps := ["script", "small", "wide", "large", "more", "tall", "hand", "kind"]) (fun _ _ _ _ _ _ us hl => match us, hl with | [_, _, _, _, _, _, _, _], _ => rfl),
    g_law_width := PySem.W.mg_of X G a5,
    a_law_width := _, d_law_width := _, F_law_width := fun_mk (st := s_law_width) l5 c5 k5, b_law_width := (fun_mk (st := s_law_width) l5 c5 k5).binds (ps := ["drawn"]) (fun _ _ _ _ _ _ us hl => match us, hl with | [_], _ => rfl),
    g_law_moved := PySem.W.mg_of X G a6,
    a_law_moved := _, d_law_moved := _, F_law_moved := fun_mk (st := s_law_moved) l6 c6 k6, b_law_moved := (fun_mk (st := s_law_moved) l6 c6 k6).binds (ps := ["rows", "source", "targets"]) (fun _ _ _ _ _ _ us hl => match us, hl with | [_, _, _], _ => rfl),
    g_law_wild_log := PySem.W.mg_of X G a7,
    a_law_wild_log := _, d_law_wild_log := _, F_law_wild_log := fun_mk (st := s_law_wild_log) l7 c7 k7, b_law_wild_log := (fun_mk (st := s_law_wild_log) l7 c7 k7).binds (ps := ["rows", "cells", "width", "most"]) (fun _ _ _ _ _ _ us hl => match us, hl with | [_, _, _, _], _ => rfl),
    g_law_walk := PySem.W.mg_of X G a8,
    a_law_walk := _, d_law_walk := _, F_law_walk := fun_mk (st := s_law_walk) l8 c8 k8, b_law_walk := (fun_mk (st := s_law_walk) l8 c8 k8).binds (ps := ["rows", "log"]) (fun _ _ _ _ _ _ us hl => match us, hl with | [_, _], _ => rfl),
    g_law_finished := PySem.W.mg_of X G a9,
    a_law_finished := _, d_law_finished := _, F_law_finished := fun_mk (st := s_law_finished) l9 c9 k9, b_law_finished := (fun_mk (st := s_law_finished) l9 c9 k9).binds (ps := ["rows", "log", "pick"]) (fun _ _ _ _ _ _ us hl => match us, hl with | [_, _, _], _ => rfl),
    g_law_shares := PySem.W.mg_of X G a10,
    a_law_shares := _, d_law_shares := _, F_law_shares := fun_mk (st := s_law_shares) l10 c10 k10, b_law_shares := (fun_mk (st := s_law_shares) l10 c10 k10).binds (ps := ["rows"]) (fun _ _ _ _ _ _ us hl => match us, hl with | [_], _ => rfl),
    g_law_lessened := PySem.W.mg_of X G a11,
    a_law_lessened := _, d_law_lessened := _, F_law_lessened := fun_mk (st := s_law_lessened) l11 c11 k11, b_law_lessened := (fun_mk (st := s_law_lessened) l11 c11 k11).binds (ps := ["shares", "cell"]) (fun _ _ _ _ _ _ us hl => match us, hl with | [_, _], _ => rfl),
    ox_InvalidSheaf := ⟨⟨⟨_, _, _, _, _, _, _, _, _, _, _, _, _, _, _, xl_InvalidSheaf.trans (congrArg some xo_InvalidSheaf), by rfl⟩, xs_InvalidSheaf, xe_InvalidSheaf, xt_InvalidSheaf, xk_InvalidSheaf⟩, a12, i12⟩,
    a_InvalidSheaf_init := _, d_InvalidSheaf_init := _, F_InvalidSheaf_init := fun_mk (st := s_InvalidSheaf_init) l12 c12 k12, b_InvalidSheaf_init := (fun_mk (st := s_InvalidSheaf_init) l12 c12 k12).binds (ps := ["self", "index"]) (fun _ _ _ _ _ _ us hl => match us, hl with | [_, _], _ => rfl),
    g_valid_record := PySem.W.mg_of X G a13,
    a_valid_record := _, d_valid_record := _, F_valid_record := fun_mk (st := s_valid_record) l13 c13 k13, b_valid_record := (fun_mk (st := s_valid_record) l13 c13 k13).binds (ps := ["text"]) (fun _ _ _ _ _ _ us hl => match us, hl with | [_], _ => rfl),
    mk_Sheaf := ⟨mk_Sheaf, a14, i14, kc_Sheaf⟩,
    a_Sheaf_init := _, d_Sheaf_init := _, F_Sheaf_init := fun_mk (st := s_Sheaf_init) l14 c14 k14, b_Sheaf_init := (fun_mk (st := s_Sheaf_init) l14 c14 k14).binds (ps := ["self", "rows"]) (fun _ _ _ _ _ _ us hl => match us, hl with | [_, _], _ => rfl),
    g_law_single := PySem.W.mg_of X G a15,
    a_law_single := _, d_law_single := _, F_law_single := fun_mk (st := s_law_single) l15 c15 k15, b_law_single := (fun_mk (st := s_law_single) l15 c15 k15).binds (ps := ["error"]) (fun _ _ _ _ _ _ us hl => match us, hl with | [_], _ => rfl),
    ox_InvalidDemands := ⟨⟨⟨_, _, _, _, _, _, _, _, _, _, _, _, _, _, _, xl_InvalidDemands.trans (congrArg some xo_InvalidDemands), by rfl⟩, xs_InvalidDemands, xe_InvalidDemands, xt_InvalidDemands, xk_InvalidDemands⟩, a16, i16⟩,
    a_InvalidDemands_init := _, d_InvalidDemands_init := _, F_InvalidDemands_init := fun_mk (st := s_InvalidDemands_init) l16 c16 k16, b_InvalidDemands_init := (fun_mk (st := s_InvalidDemands_init) l16 c16 k16).binds (ps := ["self", "record"]) (fun _ _ _ _ _ _ us hl => match us, hl with | [_, _], _ => rfl),
    g_check_demands := PySem.W.mg_of X G a17,
    a_check_demands := _, d_check_demands := _, F_check_demands := fun_mk (st := s_check_demands) l17 c17 k17, b_check_demands := (fun_mk (st := s_check_demands) l17 c17 k17).binds (ps := ["demands"]) (fun _ _ _ _ _ _ us hl => match us, hl with | [_], _ => rfl),
    me_Sheaf_len := ⟨a18, i18, k18⟩,
    a_Sheaf_len := _, d_Sheaf_len := _, F_Sheaf_len := fun_mk (st := s_Sheaf_len) l18 c18 k18, b_Sheaf_len := (fun_mk (st := s_Sheaf_len) l18 c18 k18).binds (ps := ["self"]) (fun _ _ _ _ _ _ us hl => match us, hl with | [_], _ => rfl),
    me_Sheaf_rows := ⟨a19, i19, k19⟩,
    a_Sheaf_rows := _, d_Sheaf_rows := _, F_Sheaf_rows := fun_mk (st := s_Sheaf_rows) l19 c19 k19, b_Sheaf_rows := (fun_mk (st := s_Sheaf_rows) l19 c19 k19).binds (ps := ["self"]) (fun _ _ _ _ _ _ us hl => match us, hl with | [_], _ => rfl),
    g_power := PySem.W.mg_of X G a20,
    a_power := _, d_power := _, F_power := fun_mk (st := s_power) l20 c20 k20, b_power := (fun_mk (st := s_power) l20 c20 k20).binds (ps := ["base", "exponent"]) (fun _ _ _ _ _ _ us hl => match us, hl with | [_, _], _ => rfl),
    g_cap := PySem.W.mg_of X G a21,
    a_cap := _, d_cap := _, F_cap := fun_mk (st := s_cap) l21 c21 k21, dk_cap := kw_dflt (st := s_cap) 2 kd21 ⟨_, rfl⟩ rfl (fun us u hl => match us, hl with | [_, _], _ => ⟨_, _, _, _, _, _, rfl, rfl, rfl⟩), kb_cap := kw_given (st := s_cap) 2 (fun us w hl => match us, hl with | [_, _], _ => rfl),
    g_reach := PySem.W.mg_of X G a22,
    a_reach := _, d_reach := _, F_reach := fun_mk (st := s_reach) l22 c22 k22, dk_reach := kw_dflt (st := s_reach) 2 kd22 ⟨_, rfl⟩ rfl (fun us u hl => match us, hl with | [_, _], _ => ⟨_, _, _, _, _, _, rfl, rfl, rfl⟩), kb_reach := kw_given (st := s_reach) 2 (fun us w hl => match us, hl with | [_, _], _ => rfl),
    g_record_reach := PySem.W.mg_of X G a23,
    a_record_reach := _, d_record_reach := _, F_record_reach := fun_mk (st := s_record_reach) l23 c23 k23, dk_record_reach := kw_dflt (st := s_record_reach) 3 kd23 ⟨_, rfl⟩ rfl (fun us u hl => match us, hl with | [_, _, _], _ => ⟨_, _, _, _, _, _, rfl, rfl, rfl⟩), kb_record_reach := kw_given (st := s_record_reach) 3 (fun us w hl => match us, hl with | [_, _, _], _ => rfl),
    g_own_order := PySem.W.mg_of X G a24,
    a_own_order := _, d_own_order := _, F_own_order := fun_mk (st := s_own_order) l24 c24 k24, b_own_order := (fun_mk (st := s_own_order) l24 c24 k24).binds (ps := ["rows", "record", "end"]) (fun _ _ _ _ _ _ us hl => match us, hl with | [_, _, _], _ => rfl),
    g_capped_power := PySem.W.mg_of X G a25,
    a_capped_power := _, d_capped_power := _, F_capped_power := fun_mk (st := s_capped_power) l25 c25 k25, b_capped_power := (fun_mk (st := s_capped_power) l25 c25 k25).binds (ps := ["base", "exponent", "limit"]) (fun _ _ _ _ _ _ us hl => match us, hl with | [_, _, _], _ => rfl),
    g_set_aside := PySem.W.mg_of X G a26,
    a_set_aside := _, d_set_aside := _, F_set_aside := fun_mk (st := s_set_aside) l26 c26 k26, dk_set_aside := kw_dflt (st := s_set_aside) 3 kd26 ⟨_, rfl⟩ rfl (fun us u hl => match us, hl with | [_, _, _], _ => ⟨_, _, _, _, _, _, rfl, rfl, rfl⟩), kb_set_aside := kw_given (st := s_set_aside) 3 (fun us w hl => match us, hl with | [_, _, _], _ => rfl),
    g_spare_values := PySem.W.mg_of X G a27,
    a_spare_values := _, d_spare_values := _, F_spare_values := fun_mk (st := s_spare_values) l27 c27 k27, b_spare_values := (fun_mk (st := s_spare_values) l27 c27 k27).binds (ps := ["sheaf", "aside"]) (fun _ _ _ _ _ _ us hl => match us, hl with | [_, _], _ => rfl),
    g_count_no_sharper := PySem.W.mg_of X G a28,
    a_count_no_sharper := _, d_count_no_sharper := _, F_count_no_sharper := fun_mk (st := s_count_no_sharper) l28 c28 k28, b_count_no_sharper := (fun_mk (st := s_count_no_sharper) l28 c28 k28).binds (ps := ["values", "level"]) (fun _ _ _ _ _ _ us hl => match us, hl with | [_, _], _ => rfl),
    g_first_lack := PySem.W.mg_of X G a29,
    a_first_lack := _, d_first_lack := _, F_first_lack := fun_mk (st := s_first_lack) l29 c29 k29, b_first_lack := (fun_mk (st := s_first_lack) l29 c29 k29).binds (ps := ["values", "end", "spare"]) (fun _ _ _ _ _ _ us hl => match us, hl with | [_, _, _], _ => rfl),
    g_trouble := PySem.W.mg_of X G a30,
    a_trouble := _, d_trouble := _, F_trouble := fun_mk (st := s_trouble) l30 c30 k30, dk_trouble := kw_dflt (st := s_trouble) 3 kd30 ⟨_, rfl⟩ rfl (fun us u hl => match us, hl with | [_, _, _], _ => ⟨_, _, _, _, _, _, rfl, rfl, rfl⟩), kb_trouble := kw_given (st := s_trouble) 3 (fun us w hl => match us, hl with | [_, _, _], _ => rfl),
    g_can_meet := PySem.W.mg_of X G a31,
    a_can_meet := _, d_can_meet := _, F_can_meet := fun_mk (st := s_can_meet) l31 c31 k31, dk_can_meet := kw_dflt (st := s_can_meet) 3 kd31 ⟨_, rfl⟩ rfl (fun us u hl => match us, hl with | [_, _, _], _ => ⟨_, _, _, _, _, _, rfl, rfl, rfl⟩), kb_can_meet := kw_given (st := s_can_meet) 3 (fun us w hl => match us, hl with | [_, _, _], _ => rfl),
    g_law_asked := PySem.W.mg_of X G a32,
    a_law_asked := _, d_law_asked := _, F_law_asked := fun_mk (st := s_law_asked) l32 c32 k32, b_law_asked := (fun_mk (st := s_law_asked) l32 c32 k32).binds (ps := ["sheaf", "end", "demands", "width", "plain"]) (fun _ _ _ _ _ _ us hl => match us, hl with | [_, _, _, _, _], _ => rfl),
    me_Sheaf_eq := ⟨a33, i33, k33⟩,
    a_Sheaf_eq := _, d_Sheaf_eq := _, F_Sheaf_eq := fun_mk (st := s_Sheaf_eq) l33 c33 k33, b_Sheaf_eq := (fun_mk (st := s_Sheaf_eq) l33 c33 k33).binds (ps := ["self", "other"]) (fun _ _ _ _ _ _ us hl => match us, hl with | [_, _], _ => rfl),
    g_law_met := PySem.W.mg_of X G a34,
    a_law_met := _, d_law_met := _, F_law_met := fun_mk (st := s_law_met) l34 c34 k34, b_law_met := (fun_mk (st := s_law_met) l34 c34 k34).binds (ps := ["rows", "end", "demands", "width", "plain", "due"]) (fun _ _ _ _ _ _ us hl => match us, hl with | [_, _, _, _, _, _], _ => rfl),
    g_law_refused := PySem.W.mg_of X G a35,
    a_law_refused := _, d_law_refused := _, F_law_refused := fun_mk (st := s_law_refused) l35 c35 k35, b_law_refused := (fun_mk (st := s_law_refused) l35 c35 k35).binds (ps := ["rows", "end", "demands", "name", "strange", "less", "width", "plain"]) (fun _ _ _ _ _ _ us hl => match us, hl with | [_, _, _, _, _, _, _, _], _ => rfl),
    g_law := PySem.W.mg_of X G a36,
    a_law := _, d_law := _, F_law := fun_mk (st := s_law) l36 c36 k36, b_law := (fun_mk (st := s_law) l36 c36 k36).binds (ps := ["script"]) (fun _ _ _ _ _ _ us hl => match us, hl with | [_], _ => rfl),
    c_WornError := _, g_WornError := PySem.W.mg_of X G aC_WornError,
    bx_WornError := ⟨xr_WornError, xg_WornError, xv_WornError⟩,
    xc_WornError := ⟨yh_WornError, xe_WornError, xt_WornError, ys_WornError⟩,
    c_InvalidSheaf := _, g_InvalidSheaf := PySem.W.mg_of X G aC_InvalidSheaf,
    nf_InvalidSheaf := nf_InvalidSheaf,
    xc_InvalidSheaf := ⟨yh_InvalidSheaf, xe_InvalidSheaf, xt_InvalidSheaf, ys_InvalidSheaf⟩,
    c_InvalidDemands := _, g_InvalidDemands := PySem.W.mg_of X G aC_InvalidDemands,
    nf_InvalidDemands := nf_InvalidDemands,
    cx_InvalidDemands := ⟨⟨ya_InvalidDemands, yb_InvalidDemands, xe_InvalidDemands, yh_InvalidDemands⟩, yc_InvalidDemands, yd_InvalidDemands, ye_InvalidDemands, yf_InvalidDemands⟩,
    xc_InvalidDemands := ⟨yh_InvalidDemands, xe_InvalidDemands, xt_InvalidDemands, ys_InvalidDemands⟩,
    c_InvalidDeed := _, g_InvalidDeed := PySem.W.mg_of X G aC_InvalidDeed,
    xc_InvalidDeed := ⟨yh_InvalidDeed, xe_InvalidDeed, xt_InvalidDeed, ys_InvalidDeed⟩,
    c_InvalidEntry := _, g_InvalidEntry := PySem.W.mg_of X G aC_InvalidEntry,
    xc_InvalidEntry := ⟨yh_InvalidEntry, xe_InvalidEntry, xt_InvalidEntry, ys_InvalidEntry⟩,
    c_InvalidText := _, g_InvalidText := PySem.W.mg_of X G aC_InvalidText,
    xc_InvalidText := ⟨yh_InvalidText, xe_InvalidText, xt_InvalidText, ys_InvalidText⟩,
    c_InvalidBox := _, g_InvalidBox := PySem.W.mg_of X G aC_InvalidBox,
    xc_InvalidBox := ⟨yh_InvalidBox, xe_InvalidBox, xt_InvalidBox, ys_InvalidBox⟩,
    c_NoOutcome := _, g_NoOutcome := PySem.W.mg_of X G aC_NoOutcome,
    xc_NoOutcome := ⟨yh_NoOutcome, xe_NoOutcome, xt_NoOutcome, ys_NoOutcome⟩,
    c_UnknownRecord := _, g_UnknownRecord := PySem.W.mg_of X G aC_UnknownRecord,
    xc_UnknownRecord := ⟨yh_UnknownRecord, xe_UnknownRecord, xt_UnknownRecord, ys_UnknownRecord⟩,
    c_Spoiled := _, g_Spoiled := PySem.W.mg_of X G aC_Spoiled,
    xc_Spoiled := ⟨yh_Spoiled, xe_Spoiled, xt_Spoiled, ys_Spoiled⟩,
    c_Impossible := _, g_Impossible := PySem.W.mg_of X G aC_Impossible,
    xc_Impossible := ⟨yh_Impossible, xe_Impossible, xt_Impossible, ys_Impossible⟩,
    c_RepeatedRecord := _, g_RepeatedRecord := PySem.W.mg_of X G aC_RepeatedRecord,
    xc_RepeatedRecord := ⟨yh_RepeatedRecord, xe_RepeatedRecord, xt_RepeatedRecord, ys_RepeatedRecord⟩,
    c_WrongMove := _, g_WrongMove := PySem.W.mg_of X G aC_WrongMove,
    xc_WrongMove := ⟨yh_WrongMove, xe_WrongMove, xt_WrongMove, ys_WrongMove⟩,
    c_ContradictoryLog := _, g_ContradictoryLog := PySem.W.mg_of X G aC_ContradictoryLog,
    xc_ContradictoryLog := ⟨yh_ContradictoryLog, xe_ContradictoryLog, xt_ContradictoryLog, ys_ContradictoryLog⟩,
    c_InvalidRound := _, g_InvalidRound := PySem.W.mg_of X G aC_InvalidRound,
    xc_InvalidRound := ⟨yh_InvalidRound, xe_InvalidRound, xt_InvalidRound, ys_InvalidRound⟩,
    c_UsedName := _, g_UsedName := PySem.W.mg_of X G aC_UsedName,
    xc_UsedName := ⟨yh_UsedName, xe_UsedName, xt_UsedName, ys_UsedName⟩,
    c_InvalidName := _, g_InvalidName := PySem.W.mg_of X G aC_InvalidName,
    xc_InvalidName := ⟨yh_InvalidName, xe_InvalidName, xt_InvalidName, ys_InvalidName⟩,
    c_UnknownName := _, g_UnknownName := PySem.W.mg_of X G aC_UnknownName,
    xc_UnknownName := ⟨yh_UnknownName, xe_UnknownName, xt_UnknownName, ys_UnknownName⟩,
    c_InvalidPage := _, g_InvalidPage := PySem.W.mg_of X G aC_InvalidPage,
    xc_InvalidPage := ⟨yh_InvalidPage, xe_InvalidPage, xt_InvalidPage, ys_InvalidPage⟩,
    c_NothingToUndo := _, g_NothingToUndo := PySem.W.mg_of X G aC_NothingToUndo,
    xc_NothingToUndo := ⟨yh_NothingToUndo, xe_NothingToUndo, xt_NothingToUndo, ys_NothingToUndo⟩,
    c_NothingToRedo := _, g_NothingToRedo := PySem.W.mg_of X G aC_NothingToRedo,
    xc_NothingToRedo := ⟨yh_NothingToRedo, xe_NothingToRedo, xt_NothingToRedo, ys_NothingToRedo⟩,
    su_InvalidDemands_InvalidSheaf := su_InvalidDemands_InvalidSheaf,
    su_InvalidDemands_InvalidDeed := su_InvalidDemands_InvalidDeed,
    su_InvalidDemands_InvalidEntry := su_InvalidDemands_InvalidEntry,
    su_InvalidDemands_InvalidText := su_InvalidDemands_InvalidText,
    su_InvalidDemands_InvalidBox := su_InvalidDemands_InvalidBox,
    su_InvalidDemands_NoOutcome := su_InvalidDemands_NoOutcome,
    su_InvalidDemands_InvalidDemands := ys_InvalidDemands,
    su_InvalidDemands_UnknownRecord := su_InvalidDemands_UnknownRecord,
    su_InvalidDemands_Spoiled := su_InvalidDemands_Spoiled,
    su_InvalidDemands_Impossible := su_InvalidDemands_Impossible,
    su_InvalidDemands_RepeatedRecord := su_InvalidDemands_RepeatedRecord,
    su_InvalidDemands_WrongMove := su_InvalidDemands_WrongMove,
    su_InvalidDemands_ContradictoryLog := su_InvalidDemands_ContradictoryLog,
    su_InvalidDemands_InvalidRound := su_InvalidDemands_InvalidRound,
    su_InvalidDemands_UsedName := su_InvalidDemands_UsedName,
    su_InvalidDemands_InvalidName := su_InvalidDemands_InvalidName,
    su_InvalidDemands_UnknownName := su_InvalidDemands_UnknownName,
    su_InvalidDemands_InvalidPage := su_InvalidDemands_InvalidPage,
    su_InvalidDemands_NothingToUndo := su_InvalidDemands_NothingToUndo,
    su_InvalidDemands_NothingToRedo := su_InvalidDemands_NothingToRedo,
    su_InvalidDemands_WornError := su_InvalidDemands_WornError,
    kv_InvalidDemands := kit_VE kv_InvalidDemands,
    c_Sheaf := _, g_Sheaf := PySem.W.mg_of X G aC_Sheaf, cls_Sheaf := ⟨pg_Sheaf, hd_Sheaf, po_Sheaf, sa_Sheaf⟩,
    isi_Sheaf := ⟨⟨pg_Sheaf, hd_Sheaf, po_Sheaf, sa_Sheaf⟩, ia_Sheaf, ib_Sheaf, ic_Sheaf, id_Sheaf⟩,
    na_Sheaf__rows := na_Sheaf__rows,
    cc_own_order := cc24, P_own_order := P24, co_own_order := rfl,
    n_ValueError := PySem.W.mg_none_of X G z_ValueError,
    n_bool := PySem.W.mg_none_of X G z_bool,
    n_dict := PySem.W.mg_none_of X G z_dict,
    n_enumerate := PySem.W.mg_none_of X G z_enumerate,
    n_int := PySem.W.mg_none_of X G z_int,
    n_isinstance := PySem.W.mg_none_of X G z_isinstance,
    n_len := PySem.W.mg_none_of X G z_len,
    n_list := PySem.W.mg_none_of X G z_list,
    n_max := PySem.W.mg_none_of X G z_max,
    n_min := PySem.W.mg_none_of X G z_min,
    n_range := PySem.W.mg_none_of X G z_range,
    n_sorted := PySem.W.mg_none_of X G z_sorted,
    n_str := PySem.W.mg_none_of X G z_str,
    n_sum := PySem.W.mg_none_of X G z_sum,
    n_tuple := PySem.W.mg_none_of X G z_tuple,
    t_LONGEST := _, g_LONGEST := PySem.W.mg_of X G v_LONGEST,
    t_SIGNS := _, g_SIGNS := PySem.W.mg_of X G v_SIGNS }
  letI : TabT := ⟨[(P24, (("own_order" : Str) ++ ".<locals>.") ++ "<lambda>")]⟩
  refine ⟨PySem.W.fnOf "law" "law" (defArgs s_law) (defBody s_law) (defScope s_law) .none kV36 dc36 pm36 an36 cd36 ct36, [(cc24, P24)], spLaw K, (List.forall_mem_cons.mpr ⟨tz24, (fun _ z => nomatch z)⟩), (List.forall_mem_cons.mpr ⟨tn24, (fun _ z => nomatch z)⟩), (List.forall_mem_cons.mpr ⟨PySem.W.codeHd_of_K X th24, (fun _ z => nomatch z)⟩), fun s v => .of_eq rfl, fun H a ns hl _ ht hS => ⟨a, ns, rfl, hS, hl, ?_, fun _ => rfl⟩, fun base _ _ tb => ?_⟩
  · exact (List.forall_mem_cons.mpr ⟨LamX.TabS.nil (ht (cc24, P24) (List.mem_cons_self)), (fun _ z => nomatch z)⟩)
  · have Lb : Lm T base := { tb_own_order := tb (cc24, P24) (List.mem_cons_self), in_own_order := (List.mem_cons_self), un_own_order := (List.forall_mem_cons.mpr ⟨(fun _ => rfl), (fun _ z => nomatch z)⟩) }
    exact (ok_law T Lb).imp fun vs H Q E h => law_sp T vs H Q E h
theorem cx_none {P : Program} {w : World} {H : Hp} {s : Shared} {e : Value} {s' : Shared} (h : L2N.CX P w [] H s (fun _ _ _ => False) e s') : False := by
  obtain ⟨_, _, _, _, _, _, _, _, _, _, _, _, z⟩ := h
  exact z
end Wk
open PySem PySem.W PyProof.Rows
set_option maxHeartbeats 0 in
theorem PySem.Challenge.cw_wornsheaf_k56_whole_shares_met_again_holds : PySem.Challenge.rw_wornsheaf_k56_whole_shares_met_again.Holds := by
  w_on; o_law; k_head; (case hw => w_witness2)
  k_fill
  refine LamX.walk_ofTs (l := PySem.Challenge.rw_wornsheaf_k56_whole_shares_met_again) (n := 63) (k := 9) (x := "script") (CX := fun w => L2N.CX (PySem.Challenge.rw_wornsheaf_k56_whole_shares_met_again).prog w) rfl (by decide) rfl ⟨rfl, by decide, by decide⟩ (fun w h Y => PySem.W.km_in_of Y) ?F (fun _ _ _ _ _ h => Wk.cx_none h)
  case F =>
    intro w mg fa h Y KX G hmg
    refine' Wk.all_mk KX G hmg ?aC_Sheaf ?pg_Sheaf ?hd_Sheaf ?po_Sheaf ?sa_Sheaf ?mk_Sheaf ?kc_Sheaf ?na_Sheaf__rows ?ia_Sheaf ?ib_Sheaf ?ic_Sheaf ?id_Sheaf ?aC_WornError ?xr_WornError ?xg_WornError ?xv_WornError ?xe_WornError ?xt_WornError ?yh_WornError ?ys_WornError ?aC_InvalidSheaf ?xl_InvalidSheaf ?xo_InvalidSheaf ?xs_InvalidSheaf ?xk_InvalidSheaf ?xe_InvalidSheaf ?xt_InvalidSheaf ?nf_InvalidSheaf ?yh_InvalidSheaf ?ys_InvalidSheaf ?aC_InvalidDemands ?xl_InvalidDemands ?xo_InvalidDemands ?xs_InvalidDemands ?xk_InvalidDemands ?xe_InvalidDemands ?xt_InvalidDemands ?nf_InvalidDemands ?ya_InvalidDemands ?yb_InvalidDemands ?yc_InvalidDemands ?yd_InvalidDemands ?ye_InvalidDemands ?yf_InvalidDemands ?yh_InvalidDemands ?ys_InvalidDemands ?aC_InvalidDeed ?xe_InvalidDeed ?xt_InvalidDeed ?yh_InvalidDeed ?ys_InvalidDeed ?aC_InvalidEntry ?xe_InvalidEntry ?xt_InvalidEntry ?yh_InvalidEntry ?ys_InvalidEntry ?aC_InvalidText ?xe_InvalidText ?xt_InvalidText ?yh_InvalidText ?ys_InvalidText ?aC_InvalidBox ?xe_InvalidBox ?xt_InvalidBox ?yh_InvalidBox ?ys_InvalidBox ?aC_NoOutcome ?xe_NoOutcome ?xt_NoOutcome ?yh_NoOutcome ?ys_NoOutcome ?aC_UnknownRecord ?xe_UnknownRecord ?xt_UnknownRecord ?yh_UnknownRecord ?ys_UnknownRecord ?aC_Spoiled ?xe_Spoiled ?xt_Spoiled ?yh_Spoiled ?ys_Spoiled ?aC_Impossible ?xe_Impossible ?xt_Impossible ?yh_Impossible ?ys_Impossible ?aC_RepeatedRecord ?xe_RepeatedRecord ?xt_RepeatedRecord ?yh_RepeatedRecord ?ys_RepeatedRecord ?aC_WrongMove ?xe_WrongMove ?xt_WrongMove ?yh_WrongMove ?ys_WrongMove ?aC_ContradictoryLog ?xe_ContradictoryLog ?xt_ContradictoryLog ?yh_ContradictoryLog ?ys_ContradictoryLog ?aC_InvalidRound ?xe_InvalidRound ?xt_InvalidRound ?yh_InvalidRound ?ys_InvalidRound ?aC_UsedName ?xe_UsedName ?xt_UsedName ?yh_UsedName ?ys_UsedName ?aC_InvalidName ?xe_InvalidName ?xt_InvalidName ?yh_InvalidName ?ys_InvalidName ?aC_UnknownName ?xe_UnknownName ?xt_UnknownName ?yh_UnknownName ?ys_UnknownName ?aC_InvalidPage ?xe_InvalidPage ?xt_InvalidPage ?yh_InvalidPage ?ys_InvalidPage ?aC_NothingToUndo ?xe_NothingToUndo ?xt_NothingToUndo ?yh_NothingToUndo ?ys_NothingToUndo ?aC_NothingToRedo ?xe_NothingToRedo ?xt_NothingToRedo ?yh_NothingToRedo ?ys_NothingToRedo ?su_InvalidDemands_InvalidSheaf ?su_InvalidDemands_InvalidDeed ?su_InvalidDemands_InvalidEntry ?su_InvalidDemands_InvalidText ?su_InvalidDemands_InvalidBox ?su_InvalidDemands_NoOutcome ?su_InvalidDemands_UnknownRecord ?su_InvalidDemands_Spoiled ?su_InvalidDemands_Impossible ?su_InvalidDemands_RepeatedRecord ?su_InvalidDemands_WrongMove ?su_InvalidDemands_ContradictoryLog ?su_InvalidDemands_InvalidRound ?su_InvalidDemands_UsedName ?su_InvalidDemands_InvalidName ?su_InvalidDemands_UnknownName ?su_InvalidDemands_InvalidPage ?su_InvalidDemands_NothingToUndo ?su_InvalidDemands_NothingToRedo ?su_InvalidDemands_WornError ?kv_InvalidDemands ?a0 ?l0 ?c0 ?k0 ?a1 ?l1 ?c1 ?k1 ?a2 ?l2 ?c2 ?k2 ?a3 ?l3 ?c3 ?k3 ?a4 ?l4 ?c4 ?k4 ?a5 ?l5 ?c5 ?k5 ?a6 ?l6 ?c6 ?k6 ?a7 ?l7 ?c7 ?k7 ?a8 ?l8 ?c8 ?k8 ?a9 ?l9 ?c9 ?k9 ?a10 ?l10 ?c10 ?k10 ?a11 ?l11 ?c11 ?k11 ?a12 ?i12 ?l12 ?c12 ?k12 ?a13 ?l13 ?c13 ?k13 ?a14 ?i14 ?l14 ?c14 ?k14 ?a15 ?l15 ?c15 ?k15 ?a16 ?i16 ?l16 ?c16 ?k16 ?a17 ?l17 ?c17 ?k17 ?a18 ?i18 ?l18 ?c18 ?k18 ?a19 ?i19 ?l19 ?c19 ?k19 ?a20 ?l20 ?c20 ?k20 ?a21 ?l21 ?c21 ?k21 ?kd21 ?a22 ?l22 ?c22 ?k22 ?kd22 ?a23 ?l23 ?c23 ?k23 ?kd23 ?a24 ?l24 ?c24 ?k24 ?tz24 ?th24 ?tn24 ?a25 ?l25 ?c25 ?k25 ?a26 ?l26 ?c26 ?k26 ?kd26 ?a27 ?l27 ?c27 ?k27 ?a28 ?l28 ?c28 ?k28 ?a29 ?l29 ?c29 ?k29 ?a30 ?l30 ?c30 ?k30 ?kd30 ?a31 ?l31 ?c31 ?k31 ?kd31 ?a32 ?l32 ?c32 ?k32 ?a33 ?i33 ?l33 ?c33 ?k33 ?a34 ?l34 ?c34 ?k34 ?a35 ?l35 ?c35 ?k35 ?a36 ?l36 ?c36 ?k36 ?z_ValueError ?z_bool ?z_dict ?z_enumerate ?z_int ?z_isinstance ?z_len ?z_list ?z_max ?z_min ?z_range ?z_sorted ?z_str ?z_sum ?z_tuple ?v_LONGEST ?v_SIGNS
    (case aC_Sheaf => k_is)
    (case pg_Sheaf => k_is)
    (case hd_Sheaf => k_is)
    (case po_Sheaf => k_is)
    (case sa_Sheaf => k_is)
    (case mk_Sheaf => k_is)
    (case kc_Sheaf => k_is)
    (case na_Sheaf__rows => k_is)
    (case ia_Sheaf => k_is)
    (case ib_Sheaf => k_is)
    (case ic_Sheaf => k_is)
    (case id_Sheaf => k_is)
    (case aC_WornError => k_is)
    (case xr_WornError => k_is)
    (case xg_WornError => k_is)
    (case xv_WornError => k_is)
    (case xe_WornError => k_is)
    (case xt_WornError => k_is)
    (case yh_WornError => k_is)
    (case ys_WornError => k_is)
    (case aC_InvalidSheaf => k_is)
    (case xl_InvalidSheaf => k_is)
    (case xo_InvalidSheaf => rfl)
    (case xs_InvalidSheaf => k_is)
    (case xk_InvalidSheaf => k_is)
    (case xe_InvalidSheaf => k_is)
    (case xt_InvalidSheaf => k_is)
    (case nf_InvalidSheaf => k_is)
    (case yh_InvalidSheaf => k_is)
    (case ys_InvalidSheaf => k_is)
    (case aC_InvalidDemands => k_is)
    (case xl_InvalidDemands => k_is)
    (case xo_InvalidDemands => rfl)
    (case xs_InvalidDemands => k_is)
    (case xk_InvalidDemands => k_is)
    (case xe_InvalidDemands => k_is)
    (case xt_InvalidDemands => k_is)
    (case nf_InvalidDemands => k_is)
    (case ya_InvalidDemands => k_is)
    (case yb_InvalidDemands => k_is)
    (case yc_InvalidDemands => k_is)
    (case yd_InvalidDemands => k_is)
    (case ye_InvalidDemands => k_is)
    (case yf_InvalidDemands => k_is)
    (case yh_InvalidDemands => k_is)
    (case ys_InvalidDemands => k_is)
    (case aC_InvalidDeed => k_is)
    (case xe_InvalidDeed => k_is)
    (case xt_InvalidDeed => k_is)
    (case yh_InvalidDeed => k_is)
    (case ys_InvalidDeed => k_is)
    (case aC_InvalidEntry => k_is)
    (case xe_InvalidEntry => k_is)
    (case xt_InvalidEntry => k_is)
    (case yh_InvalidEntry => k_is)
    (case ys_InvalidEntry => k_is)
    (case aC_InvalidText => k_is)
    (case xe_InvalidText => k_is)
    (case xt_InvalidText => k_is)
    (case yh_InvalidText => k_is)
    (case ys_InvalidText => k_is)
    (case aC_InvalidBox => k_is)
    (case xe_InvalidBox => k_is)
    (case xt_InvalidBox => k_is)
    (case yh_InvalidBox => k_is)
    (case ys_InvalidBox => k_is)
    (case aC_NoOutcome => k_is)
    (case xe_NoOutcome => k_is)
    (case xt_NoOutcome => k_is)
    (case yh_NoOutcome => k_is)
    (case ys_NoOutcome => k_is)
    (case aC_UnknownRecord => k_is)
    (case xe_UnknownRecord => k_is)
    (case xt_UnknownRecord => k_is)
    (case yh_UnknownRecord => k_is)
    (case ys_UnknownRecord => k_is)
    (case aC_Spoiled => k_is)
    (case xe_Spoiled => k_is)
    (case xt_Spoiled => k_is)
    (case yh_Spoiled => k_is)
    (case ys_Spoiled => k_is)
    (case aC_Impossible => k_is)
    (case xe_Impossible => k_is)
    (case xt_Impossible => k_is)
    (case yh_Impossible => k_is)
    (case ys_Impossible => k_is)
    (case aC_RepeatedRecord => k_is)
    (case xe_RepeatedRecord => k_is)
    (case xt_RepeatedRecord => k_is)
    (case yh_RepeatedRecord => k_is)
    (case ys_RepeatedRecord => k_is)
    (case aC_WrongMove => k_is)
    (case xe_WrongMove => k_is)
    (case xt_WrongMove => k_is)
    (case yh_WrongMove => k_is)
    (case ys_WrongMove => k_is)
    (case aC_ContradictoryLog => k_is)
    (case xe_ContradictoryLog => k_is)
    (case xt_ContradictoryLog => k_is)
    (case yh_ContradictoryLog => k_is)
    (case ys_ContradictoryLog => k_is)
    (case aC_InvalidRound => k_is)
    (case xe_InvalidRound => k_is)
    (case xt_InvalidRound => k_is)
    (case yh_InvalidRound => k_is)
    (case ys_InvalidRound => k_is)
    (case aC_UsedName => k_is)
    (case xe_UsedName => k_is)
    (case xt_UsedName => k_is)
    (case yh_UsedName => k_is)
    (case ys_UsedName => k_is)
    (case aC_InvalidName => k_is)
    (case xe_InvalidName => k_is)
    (case xt_InvalidName => k_is)
    (case yh_InvalidName => k_is)
    (case ys_InvalidName => k_is)
    (case aC_UnknownName => k_is)
    (case xe_UnknownName => k_is)
    (case xt_UnknownName => k_is)
    (case yh_UnknownName => k_is)
    (case ys_UnknownName => k_is)
    (case aC_InvalidPage => k_is)
    (case xe_InvalidPage => k_is)
    (case xt_InvalidPage => k_is)
    (case yh_InvalidPage => k_is)
    (case ys_InvalidPage => k_is)
    (case aC_NothingToUndo => k_is)
    (case xe_NothingToUndo => k_is)
    (case xt_NothingToUndo => k_is)
    (case yh_NothingToUndo => k_is)
    (case ys_NothingToUndo => k_is)
    (case aC_NothingToRedo => k_is)
    (case xe_NothingToRedo => k_is)
    (case xt_NothingToRedo => k_is)
    (case yh_NothingToRedo => k_is)
    (case ys_NothingToRedo => k_is)
    (case su_InvalidDemands_InvalidSheaf => k_is)
    (case su_InvalidDemands_InvalidDeed => k_is)
    (case su_InvalidDemands_InvalidEntry => k_is)
    (case su_InvalidDemands_InvalidText => k_is)
    (case su_InvalidDemands_InvalidBox => k_is)
    (case su_InvalidDemands_NoOutcome => k_is)
    (case su_InvalidDemands_UnknownRecord => k_is)
    (case su_InvalidDemands_Spoiled => k_is)
    (case su_InvalidDemands_Impossible => k_is)
    (case su_InvalidDemands_RepeatedRecord => k_is)
    (case su_InvalidDemands_WrongMove => k_is)
    (case su_InvalidDemands_ContradictoryLog => k_is)
    (case su_InvalidDemands_InvalidRound => k_is)
    (case su_InvalidDemands_UsedName => k_is)
    (case su_InvalidDemands_InvalidName => k_is)
    (case su_InvalidDemands_UnknownName => k_is)
    (case su_InvalidDemands_InvalidPage => k_is)
    (case su_InvalidDemands_NothingToUndo => k_is)
    (case su_InvalidDemands_NothingToRedo => k_is)
    (case su_InvalidDemands_WornError => k_is)
    (case kv_InvalidDemands => k_is)
    (case a0 => k_is)
    (case l0 => k_is)
    (case c0 => k_is)
    (case k0 => k_is)
    (case a1 => k_is)
    (case l1 => k_is)
    (case c1 => k_is)
    (case k1 => k_is)
    (case a2 => k_is)
    (case l2 => k_is)
    (case c2 => k_is)
    (case k2 => k_is)
    (case a3 => k_is)
    (case l3 => k_is)
    (case c3 => k_is)
    (case k3 => k_is)
    (case a4 => k_is)
    (case l4 => k_is)
    (case c4 => k_is)
    (case k4 => k_is)
    (case a5 => k_is)
    (case l5 => k_is)
    (case c5 => k_is)
    (case k5 => k_is)
    (case a6 => k_is)
    (case l6 => k_is)
    (case c6 => k_is)
    (case k6 => k_is)
    (case a7 => k_is)
    (case l7 => k_is)
    (case c7 => k_is)
    (case k7 => k_is)
    (case a8 => k_is)
    (case l8 => k_is)
    (case c8 => k_is)
    (case k8 => k_is)
    (case a9 => k_is)
    (case l9 => k_is)
    (case c9 => k_is)
    (case k9 => k_is)
    (case a10 => k_is)
    (case l10 => k_is)
    (case c10 => k_is)
    (case k10 => k_is)
    (case a11 => k_is)
    (case l11 => k_is)
    (case c11 => k_is)
    (case k11 => k_is)
    (case a12 => k_is)
    (case i12 => k_is)
    (case l12 => k_is)
    (case c12 => k_is)
    (case k12 => k_is)
    (case a13 => k_is)
    (case l13 => k_is)
    (case c13 => k_is)
    (case k13 => k_is)
    (case a14 => k_is)
    (case i14 => k_is)
    (case l14 => k_is)
    (case c14 => k_is)
    (case k14 => k_is)
    (case a15 => k_is)
    (case l15 => k_is)
    (case c15 => k_is)
    (case k15 => k_is)
    (case a16 => k_is)
    (case i16 => k_is)
    (case l16 => k_is)
    (case c16 => k_is)
    (case k16 => k_is)
    (case a17 => k_is)
    (case l17 => k_is)
    (case c17 => k_is)
    (case k17 => k_is)
    (case a18 => k_is)
    (case i18 => k_is)
    (case l18 => k_is)
    (case c18 => k_is)
    (case k18 => k_is)
    (case a19 => k_is)
    (case i19 => k_is)
    (case l19 => k_is)
    (case c19 => k_is)
    (case k19 => k_is)
    (case a20 => k_is)
    (case l20 => k_is)
    (case c20 => k_is)
    (case k20 => k_is)
    (case a21 => k_is)
    (case l21 => k_is)
    (case c21 => k_is)
    (case k21 => k_is)
    (case kd21 => k_is)
    (case a22 => k_is)
    (case l22 => k_is)
    (case c22 => k_is)
    (case k22 => k_is)
    (case kd22 => k_is)
    (case a23 => k_is)
    (case l23 => k_is)
    (case c23 => k_is)
    (case k23 => k_is)
    (case kd23 => k_is)
    (case a24 => k_is)
    (case l24 => k_is)
    (case c24 => k_is)
    (case k24 => k_is)
    (case a25 => k_is)
    (case l25 => k_is)
    (case c25 => k_is)
    (case k25 => k_is)
    (case a26 => k_is)
    (case l26 => k_is)
    (case c26 => k_is)
    (case k26 => k_is)
    (case kd26 => k_is)
    (case a27 => k_is)
    (case l27 => k_is)
    (case c27 => k_is)
    (case k27 => k_is)
    (case a28 => k_is)
    (case l28 => k_is)
    (case c28 => k_is)
    (case k28 => k_is)
    (case a29 => k_is)
    (case l29 => k_is)
    (case c29 => k_is)
    (case k29 => k_is)
    (case a30 => k_is)
    (case l30 => k_is)
    (case c30 => k_is)
    (case k30 => k_is)
    (case kd30 => k_is)
    (case a31 => k_is)
    (case l31 => k_is)
    (case c31 => k_is)
    (case k31 => k_is)
    (case kd31 => k_is)
    (case a32 => k_is)
    (case l32 => k_is)
    (case c32 => k_is)
    (case k32 => k_is)
    (case a33 => k_is)
    (case i33 => k_is)
    (case l33 => k_is)
    (case c33 => k_is)
    (case k33 => k_is)
    (case a34 => k_is)
    (case l34 => k_is)
    (case c34 => k_is)
    (case k34 => k_is)
    (case a35 => k_is)
    (case l35 => k_is)
    (case c35 => k_is)
    (case k35 => k_is)
    (case a36 => k_is)
    (case l36 => k_is)
    (case c36 => k_is)
    (case k36 => k_is)
    (case z_ValueError => k_is)
    (case z_bool => k_is)
    (case z_dict => k_is)
    (case z_enumerate => k_is)
    (case z_int => k_is)
    (case z_isinstance => k_is)
    (case z_len => k_is)
    (case z_list => k_is)
    (case z_max => k_is)
    (case z_min => k_is)
    (case z_range => k_is)
    (case z_sorted => k_is)
    (case z_str => k_is)
    (case z_sum => k_is)
    (case z_tuple => k_is)
    (case v_LONGEST => k_is)
    (case v_SIGNS => k_is)
    first | ((case tz24 => exact PySem.W.km_tabs_of Y _ (List.Mem.head _)); (case th24 => kernel_rfl))
    (case tn24 => kernel_rfl)
