import PyProof.Rows.All
import Wide.All
import OpenK.AllK
import Wide.FinOn
import HandS.ForMost
import HandS.ForExc
import HandS.ExcCtx
import HandS.HotCalls
import HandS.Wide
import HandS.IsInst
import HandS.Zip
import HandS.Rev
import HandS.Conv
import HandS.Property
import HandS.CallSlots
import HandS.OwnEq
import HandS.Style
import HandS.SetFor
import HandS.SortInts
import HandS.Defaults
import HandS.ExcInit
import HandS.FStr
import HandS.ExcField
import HandS.ExcIs
import HandS.TryMany
import KE.KExcIs
import KE.KIsAll
import HandS.Deep
import HandS.More
import HandS.WordsDict
import HandS.RaiseOp
import KE.GoesMore
import HandS.Iter
import HandS.TupAny
import KE.SortData
import HandS.SortKw
import HandS.Flow
import PySem.Challenge.RW_wornsheaf_k24_outcomes_known
set_option Elab.async false
set_option linter.all false
set_option maxRecDepth 100000
set_option maxHeartbeats 4000000
namespace Wm
open PySem PySem.Spec PyProof.Rows L2

/-! ### results -/
inductive PD where
  | non | bl (b : Bool) | int (i : Int) | str (s : Str) | tup (xs : List PD)
structure Exc where
  cls : String
  fld : List (Str × PD)
inductive Rs (α : Type) where
  | no | ok (a : α) | ex (x : Exc)
namespace Rs
variable {α β γ ρ : Type}
def bind : Rs α → (α → Rs β) → Rs β
  | .no, _ => .no
  | .ok a, f => f a
  | .ex x, _ => .ex x
theorem bind_ok (a : α) (f : α → Rs β) : (Rs.ok a).bind f = f a := rfl
def nox : Rs α → Rs α
  | .ok a => .ok a
  | _ => .no
/-- a loop over a list -/
def fold (f : γ → α → Rs γ) : γ → List α → Rs γ
  | g, [] => .ok g
  | g, x :: xs => (f g x).bind fun g' => fold f g' xs
/-- .. that may be left by a return -/
def foldR (f : γ → α → Rs (γ ⊕ ρ)) : γ → List α → Rs (γ ⊕ ρ)
  | g, [] => .ok (.inl g)
  | g, x :: xs => (f g x).bind fun r => match r with
    | .inl g' => foldR f g' xs
    | .inr z => .ok (.inr z)
/-- a comprehension -/
def comp (t : α → Rs Bool) (f : α → Rs β) : List α → Rs (List β)
  | [] => .ok []
  | x :: xs => (t x).nox.bind fun b => if b = true then (f x).nox.bind fun y => (comp t f xs).bind fun ys => .ok (y :: ys) else comp t f xs
/-- a while, n turns at most -/
def iter (t : γ → Rs Bool) (b : γ → Rs γ) : Nat → γ → Rs γ
  | 0, _ => .no
  | n + 1, g => (t g).bind fun c => if c = true then (b g).bind (iter t b n) else .ok g
open Classical in
noncomputable def whl (t : γ → Rs Bool) (b : γ → Rs γ) (g : γ) : Rs γ :=
  if h : ∃ n, iter t b n g ≠ .no then iter t b (Classical.choose h) g else .no
theorem whl_is {t : γ → Rs Bool} {b : γ → Rs γ} {g : γ} : whl t b g = .no ∨ ∃ n, whl t b g = iter t b n g := by
  unfold whl
  split
  · exact .inr ⟨_, rfl⟩
  · exact .inl rfl
theorem iter_more {t : γ → Rs Bool} {b : γ → Rs γ} : ∀ (n : Nat) (g : γ), iter t b n g ≠ .no → iter t b (n + 1) g = iter t b n g
  | 0, g, h => absurd rfl h
  | n + 1, g, h => by
    show (t g).bind _ = (t g).bind _
    have h' : (t g).bind (fun c => if c = true then (b g).bind (iter t b n) else .ok g) ≠ .no := h
    cases e : t g with
    | no => rfl
    | ex x => rfl
    | ok c =>
      rw [e] at h'
      cases c with
      | false => rfl
      | true =>
        show (b g).bind (iter t b (n + 1)) = (b g).bind (iter t b n)
        have h2 : (b g).bind (iter t b n) ≠ .no := h'
        cases e2 : b g with
        | no => rfl
        | ex x => rfl
        | ok g' =>
          rw [e2] at h2
          exact iter_more n g' h2
theorem iter_plus {t : γ → Rs Bool} {b : γ → Rs γ} {n : Nat} {g : γ} (h : iter t b n g ≠ .no) : ∀ k, iter t b (n + k) g = iter t b n g
  | 0 => rfl
  | k + 1 => by
    have e := iter_plus h k
    exact (iter_more (n + k) g (by rw [e]; exact h)).trans e
theorem whl_of {t : γ → Rs Bool} {b : γ → Rs γ} {n : Nat} {g : γ} (h : iter t b n g ≠ .no) : whl t b g = iter t b n g := by
  have hx : ∃ n, iter t b n g ≠ .no := ⟨n, h⟩
  unfold whl
  rw [dif_pos hx]
  have h1 := iter_plus (Classical.choose_spec hx) n
  have h2 := iter_plus h (Classical.choose hx)
  rw [Nat.add_comm] at h2
  exact h1.symm.trans h2
theorem whl_eq (t : γ → Rs Bool) (b : γ → Rs γ) (g : γ) : whl t b g = (t g).bind fun c => if c = true then (b g).bind (whl t b) else .ok g := by
  by_cases hx : ∃ n, iter t b n g ≠ .no
  · obtain ⟨n, h⟩ := hx
    rw [whl_of h]
    cases n with
    | zero => exact absurd rfl h
    | succ n =>
      have h' : (t g).bind (fun c => if c = true then (b g).bind (iter t b n) else .ok g) ≠ .no := h
      show (t g).bind (fun c => if c = true then (b g).bind (iter t b n) else .ok g) = _
      cases e : t g with
      | no => rfl
      | ex x => rfl
      | ok c =>
        cases c with
        | false => rfl
        | true =>
          rw [e] at h'
          show (b g).bind (iter t b n) = (b g).bind (whl t b)
          have h2 : (b g).bind (iter t b n) ≠ .no := h'
          cases e2 : b g with
          | no => rfl
          | ex x => rfl
          | ok g' =>
            rw [e2] at h2
            exact (whl_of (n := n) h2).symm
  · have e0 : whl t b g = .no := by
      unfold whl
      rw [dif_neg hx]
    rw [e0]
    have no1 : iter t b 1 g = .no := Classical.byContradiction fun h => hx ⟨1, h⟩
    have noN : ∀ n, iter t b (n + 1) g = .no := fun n => Classical.byContradiction fun h => hx ⟨n + 1, h⟩
    cases e : t g with
    | no => rfl
    | ex x =>
      have h1 : (t g).bind (fun c => if c = true then (b g).bind (iter t b 0) else .ok g) = .no := no1
      rw [e] at h1
      cases h1
    | ok c =>
      cases c with
      | false =>
        have h1 : (t g).bind (fun c => if c = true then (b g).bind (iter t b 0) else .ok g) = .no := no1
        rw [e] at h1
        cases h1
      | true =>
        show Rs.no = (b g).bind (whl t b)
        cases e2 : b g with
        | no => rfl
        | ex x =>
          have h1 : (t g).bind (fun c => if c = true then (b g).bind (iter t b 0) else .ok g) = .no := no1
          rw [e] at h1
          have h2 : (b g).bind (iter t b 0) = .no := h1
          rw [e2] at h2
          cases h2
        | ok g' =>
          show Rs.no = whl t b g'
          have all : ∀ n, iter t b n g' = .no := fun n => by
            have h1 : (t g).bind (fun c => if c = true then (b g).bind (iter t b n) else .ok g) = .no := noN n
            rw [e] at h1
            have h2 : (b g).bind (iter t b n) = .no := h1
            rw [e2] at h2
            exact h2
          unfold whl
          rw [dif_neg fun ⟨n, h⟩ => h (all n)]
end Rs

/-! ### representation -/
structure Wd where
  K : PySem.W.Frag
  cm : String → Addr
class Own (β : Type) where
  own : Wd → Hp → HO → β → Prop
  mono : ∀ {wd G G' o b}, Same G G' → own wd G o b → own wd G' o b
class Rep (α : Type) where
  rep : Wd → Hp → V → α → Prop
  mono : ∀ {wd G G' v a}, Same G G' → rep wd G v a → rep wd G' v a
open Rep (rep)
open Own (own)
instance (priority := 100) repOwn {β : Type} [Own β] : Rep β where
  rep := fun wd G v b => ∃ p o, v = .ref p ∧ G p = some o ∧ own wd G o b
  mono := fun s ⟨p, o, e, g, w⟩ => ⟨p, o, e, s _ _ g, Own.mono s w⟩
instance : Rep Int := ⟨fun _ _ v a => v = .int a, fun _ h => h⟩
instance : Rep Bool := ⟨fun _ _ v a => v = .bl a, fun _ h => h⟩
/-- a text within the line, of signs below 1114112 -/
def SOk (a : Str) : Prop := a.cps.toList.length ≤ 16777216 ∧ ∀ c ∈ a.cps.toList, c < 1114112
instance (a : Str) : Decidable (SOk a) := inferInstanceAs (Decidable (_ ∧ _))
instance : Rep Str := ⟨fun _ _ v a => v = .str a ∧ SOk a, fun _ h => h⟩
instance : Rep Unit := ⟨fun _ _ v _ => v = .non, fun _ h => h⟩
instance {α : Type} [Rep α] : Rep (Option α) where
  rep := fun wd G v a => match a with
    | none => v = .non
    | some a => rep wd G v a
  mono := fun {wd G G' v a} s h => by
    cases a with
    | none => exact h
    | some a => exact Rep.mono (α := α) s h
def reps {α : Type} [Rep α] (wd : Wd) (G : Hp) : List V → List α → Prop
  | [], [] => True
  | v :: vs, a :: as => rep wd G v a ∧ reps wd G vs as
  | _, _ => False
section
variable {α : Type} [Rep α] {wd : Wd} {G G' : Hp}
theorem reps.mono (s : Same G G') : ∀ {vs : List V} {as : List α}, reps wd G vs as → reps wd G' vs as
  | [], [], _ => trivial
  | _ :: _, _ :: _, ⟨h, t⟩ => ⟨Rep.mono s h, reps.mono s t⟩
  | [], _ :: _, h => h.elim
  | _ :: _, [], h => h.elim
theorem reps.len : ∀ {vs : List V} {as : List α}, reps wd G vs as → vs.length = as.length
  | [], [], _ => rfl
  | _ :: _, _ :: _, ⟨_, t⟩ => congrArg (· + 1) (reps.len t)
  | [], _ :: _, h => h.elim
  | _ :: _, [], h => h.elim
theorem reps.get : ∀ {vs : List V} {as : List α} {i : Nat} {a : α}, reps wd G vs as → as[i]? = some a → ∃ v, vs[i]? = some v ∧ rep wd G v a
  | [], [], i, a, _, h => by simp at h
  | v :: vs, b :: as, 0, a, ⟨h, t⟩, e => ⟨v, rfl, by
      have : b = a := Option.some.inj e
      exact this ▸ h⟩
  | v :: vs, b :: as, i + 1, a, ⟨h, t⟩, e => reps.get (i := i) t e
  | [], _ :: _, _, _, h, _ => h.elim
  | _ :: _, [], _, _, h, _ => h.elim
theorem reps.get' : ∀ {vs : List V} {as : List α} {i : Nat} {v : V}, reps wd G vs as → vs[i]? = some v → ∃ a, as[i]? = some a ∧ rep wd G v a
  | [], [], i, a, _, h => by simp at h
  | w :: vs, b :: as, 0, v, ⟨h, t⟩, e => ⟨b, rfl, by
      have : w = v := Option.some.inj e
      exact this ▸ h⟩
  | w :: vs, b :: as, i + 1, v, ⟨h, t⟩, e => reps.get' (i := i) t e
  | [], _ :: _, _, _, h, _ => h.elim
  | _ :: _, [], _, _, h, _ => h.elim
theorem reps.snoc : ∀ {vs : List V} {as : List α} {v : V} {a : α}, reps wd G vs as → rep wd G v a → reps wd G (vs ++ [v]) (as ++ [a])
  | [], [], _, _, _, h => ⟨h, trivial⟩
  | _ :: _, _ :: _, _, _, ⟨h, t⟩, q => ⟨h, reps.snoc t q⟩
  | [], _ :: _, _, _, h, _ => h.elim
  | _ :: _, [], _, _, h, _ => h.elim
theorem reps.app : ∀ {vs ws : List V} {as bs : List α}, reps wd G vs as → reps wd G ws bs → reps wd G (vs ++ ws) (as ++ bs)
  | [], _, [], _, _, h => h
  | _ :: _, _, _ :: _, _, ⟨h, t⟩, q => ⟨h, reps.app t q⟩
  | [], _, _ :: _, _, h, _ => h.elim
  | _ :: _, _, [], _, h, _ => h.elim
theorem reps.set : ∀ {vs : List V} {as : List α} {v : V} {a : α} (i : Nat), reps wd G vs as → rep wd G v a → reps wd G (vs.set i v) (as.set i a)
  | [], [], _, _, _, _, _ => trivial
  | _ :: _, _ :: _, _, _, 0, ⟨h, t⟩, q => ⟨q, t⟩
  | _ :: _, _ :: _, _, _, i + 1, ⟨h, t⟩, q => ⟨h, reps.set i t q⟩
  | [], _ :: _, _, _, _, h, _ => h.elim
  | _ :: _, [], _, _, _, h, _ => h.elim
theorem reps.take : ∀ {vs : List V} {as : List α} (n : Nat), reps wd G vs as → reps wd G (vs.take n) (as.take n)
  | _, _, 0, _ => trivial
  | [], [], _ + 1, _ => trivial
  | _ :: _, _ :: _, n + 1, ⟨h, t⟩ => ⟨h, reps.take n t⟩
  | [], _ :: _, _ + 1, h => h.elim
  | _ :: _, [], _ + 1, h => h.elim
theorem reps.drop : ∀ {vs : List V} {as : List α} (n : Nat), reps wd G vs as → reps wd G (vs.drop n) (as.drop n)
  | _, _, 0, h => h
  | [], [], _ + 1, _ => trivial
  | _ :: _, _ :: _, n + 1, ⟨h, t⟩ => reps.drop n t
  | [], _ :: _, _ + 1, h => h.elim
  | _ :: _, [], _ + 1, h => h.elim
theorem reps.ints : ∀ {vs : List V} {as : List Int}, reps wd G vs as → vs = as.map V.int
  | [], [], _ => rfl
  | _ :: _, _ :: _, ⟨h, t⟩ => by rw [show _ = V.int _ from h, reps.ints t]; rfl
  | [], _ :: _, h => h.elim
  | _ :: _, [], h => h.elim
theorem reps.bls : ∀ {vs : List V} {as : List Bool}, reps wd G vs as → vs = as.map V.bl
  | [], [], _ => rfl
  | _ :: _, _ :: _, ⟨h, t⟩ => by rw [show _ = V.bl _ from h, reps.bls t]; rfl
  | [], _ :: _, h => h.elim
  | _ :: _, [], h => h.elim
theorem reps.strs : ∀ {vs : List V} {as : List Str}, reps wd G vs as → vs = as.map V.str
  | [], [], _ => rfl
  | _ :: _, _ :: _, ⟨h, t⟩ => by rw [show _ = V.str _ from h.1, reps.strs t]; rfl
  | [], _ :: _, h => h.elim
  | _ :: _, [], h => h.elim
theorem reps.of_ints : ∀ {as : List Int}, reps wd G (as.map V.int) as
  | [] => trivial
  | _ :: _ => ⟨rfl, reps.of_ints⟩
end
instance {α : Type} [Rep α] : Own (List α) where
  own := fun wd G o xs => ∃ vs, o = .lst vs ∧ vs.length ≤ sizeLine ∧ reps wd G vs xs
  mono := fun s ⟨vs, e, l, h⟩ => ⟨vs, e, l, h.mono s⟩
/-- a tuple of any length, of one kind -/
structure Tup (α : Type) where
  items : List α
instance {α : Type} [Rep α] : Own (Tup α) where
  own := fun wd G o xs => ∃ vs, o = .tup vs ∧ vs.length ≤ sizeLine ∧ reps wd G vs xs.items
  mono := fun s ⟨vs, e, l, h⟩ => ⟨vs, e, l, h.mono s⟩
instance {α β : Type} [Rep α] [Rep β] : Own (α × β) where
  own := fun wd G o x => ∃ v w, o = .tup [v, w] ∧ rep wd G v x.1 ∧ rep wd G w x.2
  mono := fun s ⟨v, w, e, h, h2⟩ => ⟨v, w, e, Rep.mono s h, Rep.mono s h2⟩
structure T3 (α β γ : Type) where
  a : α
  b : β
  c : γ
instance {α β γ : Type} [Rep α] [Rep β] [Rep γ] : Own (T3 α β γ) where
  own := fun wd G o x => ∃ v w u, o = .tup [v, w, u] ∧ rep wd G v x.a ∧ rep wd G w x.b ∧ rep wd G u x.c
  mono := fun s ⟨v, w, u, e, h, h2, h3⟩ => ⟨v, w, u, e, Rep.mono s h, Rep.mono s h2, Rep.mono s h3⟩
structure Sheaf where
  rows : Tup (Int × Str)
instance : Own Sheaf where
  own := fun wd G o x => ∃ dx v, o = .ins (wd.cm "Sheaf") dx [(("_rows" : Str), v)] ∧ rep wd G v x.rows
  mono := fun s ⟨dx, v, e, h⟩ => ⟨dx, v, e, Rep.mono s h⟩
/-- the law's script -/
structure Script where
  ns : List Int
instance : Rep Script where
  rep := fun wd G v x => ∃ p, v = .ref p ∧ SqL wd.K G p (x.ns.map V.int)
  mono := fun s ⟨p, e, h⟩ => ⟨p, e, s.seq h⟩

/-- an exception's fields -/
def RepPD (H : Hp) : V → PD → Prop
  | v, .non => v = .non
  | v, .bl b => v = .bl b
  | v, .int i => v = .int i
  | v, .str s => v = .str s
  | v, .tup xs => ∃ p vs, v = .ref p ∧ H p = some (.tup vs) ∧ go H vs xs
where go (H : Hp) : List V → List PD → Prop
  | [], [] => True
  | v :: vs, x :: xs => RepPD H v x ∧ go H vs xs
  | _, _ => False
def RepX (H : Hp) (d : Option Addr) (x : Exc) : Prop :=
  if x.fld = [] then d = none else ∃ a fs, d = some a ∧ H a = some (.xd fs) ∧ fs.length = x.fld.length ∧ ∀ f v, x.fld.lookup f = some v → ∃ u, fs.lookup f = some u ∧ RepPD H u v

/-! ### contexts -/
inductive Ent : Type 1 where
  | fz (i : Nat) (α : Type) [r : Rep α]
  | ow (i : Nat) (β : Type) [r : Own β]
  | bo (i : Nat) (β : Type) [r : Own β]
  | oo (i : Nat) (β : Type) [r : Own β]
  | sf (i : Nat) (β : Type) [r : Own β] (x : Addr)
@[reducible] def Ent.T : Ent → Type
  | @Ent.fz _ α _ => α
  | @Ent.ow _ β _ => β
  | @Ent.bo _ β _ => β
  | @Ent.oo _ β _ => Option β
  | @Ent.sf _ β _ _ => β
@[reducible] def Ent.slot : Ent → Nat
  | @Ent.fz i _ _ => i
  | @Ent.ow i _ _ => i
  | @Ent.bo i _ _ => i
  | @Ent.oo i _ _ => i
  | @Ent.sf i _ _ _ => i
abbrev Ctx := List Ent
@[reducible] def Ctx.T : Ctx → Type
  | [] => Unit
  | e :: c => e.T × Ctx.T c
def Ctx.not (j : Nat) : Ctx → Bool
  | [] => true
  | e :: c => (e.slot != j) && Ctx.not j c
/-- the names and what they hold; os: the owned objects, from the left -/
def R (wd : Wd) (H0 : Hp) (σ : L2.St) (H G : Hp) : (c : Ctx) → Ctx.T c → List Addr → Prop
  | [], _, os => os = []
  | @Ent.fz i α r :: c, γ, os => (∃ v, σ[i]? = some (some v) ∧ r.rep wd G v γ.1) ∧ R wd H0 σ H G c γ.2 os
  | @Ent.ow i β r :: c, γ, os => ∃ p o os', os = p :: os' ∧ σ[i]? = some (some (.ref p)) ∧ H p = some o ∧ r.own wd G o γ.1 ∧ R wd H0 σ H G c γ.2 os'
  | @Ent.bo i β r :: c, γ, os => (∃ p o, σ[i]? = some (some (.ref p)) ∧ H0 p = some o ∧ r.own wd G o γ.1) ∧ R wd H0 σ H G c γ.2 os
  | @Ent.oo i β r :: c, γ, os => (γ.1 = none ∧ σ[i]? = some (some .non) ∧ R wd H0 σ H G c γ.2 os) ∨ ∃ b p o os', γ.1 = some b ∧ os = p :: os' ∧ σ[i]? = some (some (.ref p)) ∧ H p = some o ∧ r.own wd G o b ∧ R wd H0 σ H G c γ.2 os'
  | @Ent.sf i β r x :: c, γ, os => ∃ o os', os = x :: os' ∧ σ[i]? = some (some (.ref x)) ∧ H x = some o ∧ r.own wd G o γ.1 ∧ R wd H0 σ H G c γ.2 os'
structure Fr (H G H' G' : Hp) : Prop where
  h : Same H H'
  g : Same G G'
  gh : Same G' H'
  new : ∀ a o, G' a = some o → G a = some o ∨ H a = none
theorem Fr.refl {H G : Hp} (h : Same G H) : Fr H G H G := ⟨Same.refl H, Same.refl G, h, fun _ _ e => .inl e⟩
theorem Fr.trans {H G H1 G1 H2 G2 : Hp} (a : Fr H G H1 G1) (b : Fr H1 G1 H2 G2) : Fr H G H2 G2 :=
  ⟨a.h.trans b.h, a.g.trans b.g, b.gh, fun x o e => by
    rcases b.new x o e with q | q
    · exact a.new x o q
    · exact .inr (a.h.free q)⟩
theorem Fr.out {H G H' G' : Hp} (f : Fr H G H' G') {p : Addr} {o : HO} (h : H p = some o) (g : G p = none) : G' p = none := by
  cases e : G' p with
  | none => rfl
  | some u =>
    rcases f.new p u e with q | q
    · rw [g] at q; cases q
    · rw [h] at q; cases q
/-- a new object on the heap, not frozen -/
theorem Fr.alloc {H G : Hp} {p : Addr} {o : HO} (gh : Same G H) (n : H p = none) : Fr H G (upd H p o) G :=
  ⟨fun a u e => by rw [upd_ne (ne_of_none e n)]; exact e, Same.refl G, fun a u e => by rw [upd_ne (ne_of_none (gh a u e) n)]; exact gh a u e, fun _ _ e => .inl e⟩
theorem Same.upd' {H H' : Hp} {p : Addr} {o : HO} (e : Same H H') (h : H p = none) : Same H (upd H' p o) := fun a u ha => by
  rw [upd_ne (ne_of_none ha h)]
  exact e a u ha
/-- a fresh object is frozen -/
theorem Fr.freeze {H G H' G' : Hp} {p : Addr} {o : HO} (f : Fr H G H' G') (n : H p = none) (g : G' p = none) (e : H' p = some o) : Fr H G H' (upd G' p o) :=
  ⟨f.h, Same.upd' f.g (f.g.free g), fun a u q => by
    by_cases ha : a = p
    · subst ha
      rw [upd_same] at q
      cases q
      exact e
    · rw [upd_ne ha] at q
      exact f.gh a u q, fun a u q => by
    by_cases ha : a = p
    · subst ha
      exact .inr n
    · rw [upd_ne ha] at q
      exact f.new a u q⟩
/-- the slots: how many, which may be set, what is kept of the others -/
structure Sl where
  n : Nat
  ok : Nat → Prop
  keep : L2.St → Prop
  put : ∀ σ j x, ok j → keep σ → keep (σ.set j x)
def Sl.all (n : Nat) : Sl := ⟨n, fun _ => True, fun _ => True, fun _ _ _ _ _ => trivial⟩
def Sl.P (n : Sl) (σ : L2.St) : Prop := σ.length = n.n ∧ n.keep σ
def Sl.lt (n : Sl) (j : Nat) : Prop := j < n.n ∧ n.ok j
theorem Sl.P.set {n : Sl} {σ : L2.St} {j : Nat} {x : Option V} (h : n.P σ) (hj : n.lt j) : n.P (σ.set j x) := ⟨by rw [List.length_set]; exact h.1, n.put σ j x hj.2 h.2⟩
structure Stt (wd : Wd) (n : Sl) (H0 G0 : Hp) (σ : L2.St) (H G : Hp) (os : List Addr) (c : Ctx) (γ : Ctx.T c) : Prop where
  len : n.P σ
  f : Fr H0 G0 H G
  nd : os.Nodup
  fr : ∀ p ∈ os, G p = none ∧ H0 p = none
  r : R wd H0 σ H G c γ os
section
variable {wd : Wd} {H0 G0 : Hp} {σ : L2.St} {H G H' G' : Hp}
theorem R.there : ∀ {c : Ctx} {γ : Ctx.T c} {os : List Addr}, R wd H0 σ H G c γ os → ∀ p ∈ os, ∃ o, H p = some o
  | [], _, os, h, p, hp => by
    have e : os = [] := h
    rw [e] at hp
    cases hp
  | @Ent.fz i α _ :: c, γ, os, h, p, hp => R.there h.2 p hp
  | @Ent.bo i α _ :: c, γ, os, h, p, hp => R.there h.2 p hp
  | @Ent.ow i α _ :: c, γ, os, h, p, hp => by
    obtain ⟨q, o, os', rfl, h1, h2, h3, h4⟩ := h
    rcases List.mem_cons.mp hp with e | e
    · exact ⟨o, by rw [e]; exact h2⟩
    · exact R.there h4 p e
  | @Ent.oo i α _ :: c, γ, os, h, p, hp => by
    rcases h with ⟨_, _, h⟩ | ⟨b, q, o, os', _, rfl, h1, h2, h3, h4⟩
    · exact R.there h p hp
    · rcases List.mem_cons.mp hp with e | e
      · exact ⟨o, by rw [e]; exact h2⟩
      · exact R.there h4 p e
  | @Ent.sf i α _ x :: c, γ, os, h, p, hp => by
    obtain ⟨o, os', rfl, h1, h2, h3, h4⟩ := h
    rcases List.mem_cons.mp hp with e | e
    · exact ⟨o, by rw [e]; exact h2⟩
    · exact R.there h4 p e
theorem R.mono (g : Same G G') : ∀ {c : Ctx} {γ : Ctx.T c} {os : List Addr}, (∀ p ∈ os, H' p = H p) → R wd H0 σ H G c γ os → R wd H0 σ H' G' c γ os
  | [], _, os, _, h => h
  | @Ent.fz i α _ :: c, γ, os, k, ⟨⟨v, h1, h2⟩, h⟩ => ⟨⟨v, h1, Rep.mono g h2⟩, R.mono g k h⟩
  | @Ent.bo i α _ :: c, γ, os, k, ⟨⟨p, o, h1, h2, h3⟩, h⟩ => ⟨⟨p, o, h1, h2, Own.mono g h3⟩, R.mono g k h⟩
  | @Ent.ow i α _ :: c, γ, os, k, h => by
    obtain ⟨q, o, os', rfl, h1, h2, h3, h4⟩ := h
    exact ⟨q, o, os', rfl, h1, (k q List.mem_cons_self).trans h2, Own.mono g h3, R.mono g (fun p hp => k p (List.mem_cons_of_mem _ hp)) h4⟩
  | @Ent.oo i α _ :: c, γ, os, k, h => by
    rcases h with ⟨e, h1, h⟩ | ⟨b, q, o, os', e, rfl, h1, h2, h3, h4⟩
    · exact .inl ⟨e, h1, R.mono g k h⟩
    · exact .inr ⟨b, q, o, os', e, rfl, h1, (k q List.mem_cons_self).trans h2, Own.mono g h3, R.mono g (fun p hp => k p (List.mem_cons_of_mem _ hp)) h4⟩
  | @Ent.sf i α _ x :: c, γ, os, k, h => by
    obtain ⟨o, os', rfl, h1, h2, h3, h4⟩ := h
    exact ⟨o, os', rfl, h1, (k x List.mem_cons_self).trans h2, Own.mono g h3, R.mono g (fun p hp => k p (List.mem_cons_of_mem _ hp)) h4⟩
theorem Stt.ext {n : Sl} {os : List Addr} {c : Ctx} {γ : Ctx.T c} (s : Stt wd n H0 G0 σ H G os c γ) (f : Fr H G H' G') : Stt wd n H0 G0 σ H' G' os c γ :=
  ⟨s.len, s.f.trans f, s.nd, fun p hp => by
    obtain ⟨o, ho⟩ := s.r.there p hp
    exact ⟨f.out ho (s.fr p hp).1, (s.fr p hp).2⟩, s.r.mono f.g fun p hp => by
    obtain ⟨o, ho⟩ := s.r.there p hp
    rw [ho]
    exact f.h p o ho⟩
/-- slots -/
theorem R.slots : ∀ {c : Ctx} {γ : Ctx.T c} {os : List Addr} {σ' : L2.St}, (∀ e ∈ c, σ'[e.slot]? = σ[e.slot]?) → R wd H0 σ H G c γ os → R wd H0 σ' H G c γ os
  | [], _, os, _, _, h => h
  | @Ent.fz i α _ :: c, γ, os, σ', k, ⟨⟨v, h1, h2⟩, h⟩ => ⟨⟨v, (k _ List.mem_cons_self).trans h1, h2⟩, R.slots (fun e he => k e (List.mem_cons_of_mem _ he)) h⟩
  | @Ent.bo i α _ :: c, γ, os, σ', k, ⟨⟨p, o, h1, h2⟩, h⟩ => ⟨⟨p, o, (k _ List.mem_cons_self).trans h1, h2⟩, R.slots (fun e he => k e (List.mem_cons_of_mem _ he)) h⟩
  | @Ent.ow i α _ :: c, γ, os, σ', k, h => by
    obtain ⟨q, o, os', rfl, h1, h2, h3, h4⟩ := h
    exact ⟨q, o, os', rfl, (k _ List.mem_cons_self).trans h1, h2, h3, R.slots (fun e he => k e (List.mem_cons_of_mem _ he)) h4⟩
  | @Ent.oo i α _ :: c, γ, os, σ', k, h => by
    rcases h with ⟨e, h1, h⟩ | ⟨b, q, o, os', e, rfl, h1, h2, h3, h4⟩
    · exact .inl ⟨e, (k _ List.mem_cons_self).trans h1, R.slots (fun e he => k e (List.mem_cons_of_mem _ he)) h⟩
    · exact .inr ⟨b, q, o, os', e, rfl, (k _ List.mem_cons_self).trans h1, h2, h3, R.slots (fun e he => k e (List.mem_cons_of_mem _ he)) h4⟩
  | @Ent.sf i α _ x :: c, γ, os, σ', k, h => by
    obtain ⟨o, os', rfl, h1, h2, h3, h4⟩ := h
    exact ⟨o, os', rfl, (k _ List.mem_cons_self).trans h1, h2, h3, R.slots (fun e he => k e (List.mem_cons_of_mem _ he)) h4⟩
theorem Ctx.not_mem {j : Nat} : ∀ {c : Ctx}, Ctx.not j c = true → ∀ e ∈ c, e.slot ≠ j
  | [], _, e, he => by cases he
  | a :: c, h, e, he => by
    have h' : ((a.slot != j) && Ctx.not j c) = true := h
    rw [Bool.and_eq_true] at h'
    rcases List.mem_cons.mp he with q | q
    · rw [q]
      simpa using h'.1
    · exact Ctx.not_mem h'.2 e q
theorem R.set {c : Ctx} {γ : Ctx.T c} {os : List Addr} {j : Nat} {x : Option V} (n : Ctx.not j c = true) (h : R wd H0 σ H G c γ os) : R wd H0 (σ.set j x) H G c γ os :=
  h.slots fun e he => List.getElem?_set_ne (Ne.symm (Ctx.not_mem n e he))
end

/-! ### names -/
inductive Var : Ctx → Ent → Type 1 where
  | z {e : Ent} {c : Ctx} : Var (e :: c) e
  | s {e e' : Ent} {c : Ctx} (v : Var c e) : Var (e' :: c) e
@[reducible] def Var.get : {c : Ctx} → {e : Ent} → Var c e → Ctx.T c → e.T
  | _, _, .z, γ => γ.1
  | _, _, .s v, γ => v.get γ.2
@[reducible] def Var.put : {c : Ctx} → {e : Ent} → Var c e → Ctx.T c → e.T → Ctx.T c
  | _, _, .z, γ, a => (a, γ.2)
  | _, _, .s v, γ, a => (γ.1, v.put γ.2 a)
/-- a part of the context -/
inductive Sub : Ctx → Ctx → Type 1 where
  | nil : Sub [] []
  | keep {e : Ent} {c c' : Ctx} (s : Sub c c') : Sub (e :: c) (e :: c')
  | skip {e : Ent} {c c' : Ctx} (s : Sub c c') : Sub (e :: c) c'
@[reducible] def Sub.proj : {c c' : Ctx} → Sub c c' → Ctx.T c → Ctx.T c'
  | _, _, .nil, _ => ()
  | _, _, .keep s, γ => (γ.1, s.proj γ.2)
  | _, _, .skip s, γ => s.proj γ.2
/-- owned objects are frozen -/
inductive Frz : Ctx → Ctx → Type 1 where
  | nil : Frz [] []
  | keep {e : Ent} {c c' : Ctx} (s : Frz c c') : Frz (e :: c) (e :: c')
  | frz {i : Nat} {β : Type} {r : Own β} {c c' : Ctx} (s : Frz c c') : Frz (@Ent.ow i β r :: c) (@Ent.fz i β (@repOwn β r) :: c')
@[reducible] def Frz.proj : {c c' : Ctx} → Frz c c' → Ctx.T c → Ctx.T c'
  | _, _, .nil, _ => ()
  | _, _, .keep s, γ => (γ.1, s.proj γ.2)
  | _, _, .frz s, γ => (γ.1, s.proj γ.2)
section
variable {wd : Wd} {H0 G0 : Hp} {σ : L2.St} {H G H' G' : Hp}
theorem Var.fz {i : Nat} {α : Type} [Rep α] : ∀ {c : Ctx} (v : Var c (.fz i α)) {γ : Ctx.T c} {os : List Addr}, R wd H0 σ H G c γ os → ∃ x, σ[i]? = some (some x) ∧ rep wd G x (v.get γ)
  | _, .z, γ, os, h => h.1
  | _, .s (e' := @Ent.fz j δ _) v, γ, os, h => Var.fz v h.2
  | _, .s (e' := @Ent.bo j δ _) v, γ, os, h => Var.fz v h.2
  | _, .s (e' := @Ent.ow j δ _) v, γ, os, h => by
    obtain ⟨q, o, os', rfl, h1, h2, h3, h4⟩ := h
    exact Var.fz v h4
  | _, .s (e' := @Ent.oo j δ _) v, γ, os, h => by
    rcases h with ⟨e, h1, h⟩ | ⟨b, q, o, os', e, rfl, h1, h2, h3, h4⟩
    · exact Var.fz v h
    · exact Var.fz v h4
  | _, .s (e' := @Ent.sf j δ _ x) v, γ, os, h => by
    obtain ⟨o, os', rfl, h1, h2, h3, h4⟩ := h
    exact Var.fz v h4
theorem Var.bo {i : Nat} {α : Type} [Own α] : ∀ {c : Ctx} (v : Var c (.bo i α)) {γ : Ctx.T c} {os : List Addr}, R wd H0 σ H G c γ os → ∃ p o, σ[i]? = some (some (.ref p)) ∧ H0 p = some o ∧ own wd G o (v.get γ)
  | _, .z, γ, os, h => h.1
  | _, .s (e' := @Ent.fz j δ _) v, γ, os, h => Var.bo v h.2
  | _, .s (e' := @Ent.bo j δ _) v, γ, os, h => Var.bo v h.2
  | _, .s (e' := @Ent.ow j δ _) v, γ, os, h => by
    obtain ⟨q, o, os', rfl, h1, h2, h3, h4⟩ := h
    exact Var.bo v h4
  | _, .s (e' := @Ent.oo j δ _) v, γ, os, h => by
    rcases h with ⟨e, h1, h⟩ | ⟨b, q, o, os', e, rfl, h1, h2, h3, h4⟩
    · exact Var.bo v h
    · exact Var.bo v h4
  | _, .s (e' := @Ent.sf j δ _ x) v, γ, os, h => by
    obtain ⟨o, os', rfl, h1, h2, h3, h4⟩ := h
    exact Var.bo v h4
theorem Var.ow {i : Nat} {α : Type} [Own α] : ∀ {c : Ctx} (v : Var c (.ow i α)) {γ : Ctx.T c} {os : List Addr}, R wd H0 σ H G c γ os → ∃ p o, p ∈ os ∧ σ[i]? = some (some (.ref p)) ∧ H p = some o ∧ own wd G o (v.get γ)
  | _, .z, γ, os, h => by
    obtain ⟨q, o, os', rfl, h1, h2, h3, h4⟩ := h
    exact ⟨q, o, List.mem_cons_self, h1, h2, h3⟩
  | _, .s (e' := @Ent.fz j δ _) v, γ, os, h => Var.ow v h.2
  | _, .s (e' := @Ent.bo j δ _) v, γ, os, h => Var.ow v h.2
  | _, .s (e' := @Ent.ow j δ _) v, γ, os, h => by
    obtain ⟨q, o, os', rfl, h1, h2, h3, h4⟩ := h
    obtain ⟨p, o2, k1, k2⟩ := Var.ow v h4
    exact ⟨p, o2, List.mem_cons_of_mem _ k1, k2⟩
  | _, .s (e' := @Ent.oo j δ _) v, γ, os, h => by
    rcases h with ⟨e, h1, h⟩ | ⟨b, q, o, os', e, rfl, h1, h2, h3, h4⟩
    · exact Var.ow v h
    · obtain ⟨p, o2, k1, k2⟩ := Var.ow v h4
      exact ⟨p, o2, List.mem_cons_of_mem _ k1, k2⟩
  | _, .s (e' := @Ent.sf j δ _ x) v, γ, os, h => by
    obtain ⟨o, os', rfl, h1, h2, h3, h4⟩ := h
    obtain ⟨p, o2, k1, k2⟩ := Var.ow v h4
    exact ⟨p, o2, List.mem_cons_of_mem _ k1, k2⟩
theorem Var.sf {i : Nat} {α : Type} [Own α] {x : Addr} : ∀ {c : Ctx} (v : Var c (.sf i α x)) {γ : Ctx.T c} {os : List Addr}, R wd H0 σ H G c γ os → ∃ o, x ∈ os ∧ σ[i]? = some (some (.ref x)) ∧ H x = some o ∧ own wd G o (v.get γ)
  | _, .z, γ, os, h => by
    obtain ⟨o, os', rfl, h1, h2, h3, h4⟩ := h
    exact ⟨o, List.mem_cons_self, h1, h2, h3⟩
  | _, .s (e' := @Ent.fz j δ _) v, γ, os, h => Var.sf v h.2
  | _, .s (e' := @Ent.bo j δ _) v, γ, os, h => Var.sf v h.2
  | _, .s (e' := @Ent.ow j δ _) v, γ, os, h => by
    obtain ⟨q, o, os', rfl, h1, h2, h3, h4⟩ := h
    obtain ⟨o2, k1, k2⟩ := Var.sf v h4
    exact ⟨o2, List.mem_cons_of_mem _ k1, k2⟩
  | _, .s (e' := @Ent.oo j δ _) v, γ, os, h => by
    rcases h with ⟨e, h1, h⟩ | ⟨b, q, o, os', e, rfl, h1, h2, h3, h4⟩
    · exact Var.sf v h
    · obtain ⟨o2, k1, k2⟩ := Var.sf v h4
      exact ⟨o2, List.mem_cons_of_mem _ k1, k2⟩
  | _, .s (e' := @Ent.sf j δ _ y) v, γ, os, h => by
    obtain ⟨o, os', rfl, h1, h2, h3, h4⟩ := h
    obtain ⟨o2, k1, k2⟩ := Var.sf v h4
    exact ⟨o2, List.mem_cons_of_mem _ k1, k2⟩
/-- a name that holds none or an owned object -/
theorem Var.oo {i : Nat} {α : Type} [Own α] : ∀ {c : Ctx} (v : Var c (.oo i α)) {γ : Ctx.T c} {os : List Addr}, R wd H0 σ H G c γ os → (v.get γ = none ∧ σ[i]? = some (some .non)) ∨ ∃ b p o, v.get γ = some b ∧ p ∈ os ∧ σ[i]? = some (some (.ref p)) ∧ H p = some o ∧ own wd G o b
  | _, .z, γ, os, h => by
    rcases h with ⟨e, h1, h⟩ | ⟨b, q, o, os', e, rfl, h1, h2, h3, h4⟩
    · exact .inl ⟨e, h1⟩
    · exact .inr ⟨b, q, o, e, List.mem_cons_self, h1, h2, h3⟩
  | _, .s (e' := @Ent.fz j δ _) v, γ, os, h => Var.oo v h.2
  | _, .s (e' := @Ent.bo j δ _) v, γ, os, h => Var.oo v h.2
  | _, .s (e' := @Ent.ow j δ _) v, γ, os, h => by
    obtain ⟨q, o, os', rfl, h1, h2, h3, h4⟩ := h
    rcases Var.oo v h4 with k | ⟨b, p, o2, k0, k1, k2⟩
    · exact .inl k
    · exact .inr ⟨b, p, o2, k0, List.mem_cons_of_mem _ k1, k2⟩
  | _, .s (e' := @Ent.oo j δ _) v, γ, os, h => by
    rcases h with ⟨e, h1, h⟩ | ⟨b, q, o, os', e, rfl, h1, h2, h3, h4⟩
    · exact Var.oo v h
    · rcases Var.oo v h4 with k | ⟨b, p, o2, k0, k1, k2⟩
      · exact .inl k
      · exact .inr ⟨b, p, o2, k0, List.mem_cons_of_mem _ k1, k2⟩
  | _, .s (e' := @Ent.sf j δ _ x) v, γ, os, h => by
    obtain ⟨o, os', rfl, h1, h2, h3, h4⟩ := h
    rcases Var.oo v h4 with k | ⟨b, p, o2, k0, k1, k2⟩
    · exact .inl k
    · exact .inr ⟨b, p, o2, k0, List.mem_cons_of_mem _ k1, k2⟩
/-- the object of an owned name is changed -/
theorem Var.write {i : Nat} {α : Type} [Own α] : ∀ {c : Ctx} (v : Var c (.ow i α)) {γ : Ctx.T c} {os : List Addr}, os.Nodup → R wd H0 σ H G c γ os → ∃ p o, p ∈ os ∧ σ[i]? = some (some (.ref p)) ∧ H p = some o ∧ own wd G o (v.get γ) ∧
    ∀ o' b, own wd G o' b → R wd H0 σ (upd H p o') G c (v.put γ b) os
  | _, .z, γ, os, nd, h => by
    obtain ⟨q, o, os', rfl, h1, h2, h3, h4⟩ := h
    refine ⟨q, o, List.mem_cons_self, h1, h2, h3, fun o' b w => ⟨q, o', os', rfl, h1, upd_same, w, h4.mono (Same.refl G) fun p hp => ?_⟩⟩
    exact upd_ne fun e => (List.nodup_cons.mp nd).1 (e ▸ hp)
  | _, .s (e' := @Ent.fz j δ _) v, γ, os, nd, h => by
    obtain ⟨p, o, k1, k2, k3, k4, k5⟩ := Var.write v nd h.2
    exact ⟨p, o, k1, k2, k3, k4, fun o' b w => ⟨h.1, k5 o' b w⟩⟩
  | _, .s (e' := @Ent.bo j δ _) v, γ, os, nd, h => by
    obtain ⟨p, o, k1, k2, k3, k4, k5⟩ := Var.write v nd h.2
    exact ⟨p, o, k1, k2, k3, k4, fun o' b w => ⟨h.1, k5 o' b w⟩⟩
  | _, .s (e' := @Ent.ow j δ _) v, γ, os, nd, h => by
    obtain ⟨q, o, os', rfl, h1, h2, h3, h4⟩ := h
    obtain ⟨p, o2, k1, k2, k3, k4, k5⟩ := Var.write v (List.nodup_cons.mp nd).2 h4
    refine ⟨p, o2, List.mem_cons_of_mem _ k1, k2, k3, k4, fun o' b w => ⟨q, o, os', rfl, h1, ?_, h3, k5 o' b w⟩⟩
    rw [upd_ne fun e => (List.nodup_cons.mp nd).1 (by rw [e]; exact k1)]
    exact h2
  | _, .s (e' := @Ent.oo j δ _) v, γ, os, nd, h => by
    rcases h with ⟨e, h1, h⟩ | ⟨b, q, o, os', e, rfl, h1, h2, h3, h4⟩
    · obtain ⟨p, o2, k1, k2, k3, k4, k5⟩ := Var.write v nd h
      exact ⟨p, o2, k1, k2, k3, k4, fun o' b' w => .inl ⟨e, h1, k5 o' b' w⟩⟩
    · obtain ⟨p, o2, k1, k2, k3, k4, k5⟩ := Var.write v (List.nodup_cons.mp nd).2 h4
      refine ⟨p, o2, List.mem_cons_of_mem _ k1, k2, k3, k4, fun o' b' w => .inr ⟨b, q, o, os', e, rfl, h1, ?_, h3, k5 o' b' w⟩⟩
      rw [upd_ne fun e => (List.nodup_cons.mp nd).1 (by rw [e]; exact k1)]
      exact h2
  | _, .s (e' := @Ent.sf j δ _ x) v, γ, os, nd, h => by
    obtain ⟨o, os', rfl, h1, h2, h3, h4⟩ := h
    obtain ⟨p, o2, k1, k2, k3, k4, k5⟩ := Var.write v (List.nodup_cons.mp nd).2 h4
    refine ⟨p, o2, List.mem_cons_of_mem _ k1, k2, k3, k4, fun o' b w => ⟨o, os', rfl, h1, ?_, h3, k5 o' b w⟩⟩
    rw [upd_ne fun e => (List.nodup_cons.mp nd).1 (by rw [e]; exact k1)]
    exact h2
/-- the object at x is changed, to one of another kind maybe; it stands first -/
theorem R.remake {i : Nat} {α β : Type} [Own α] [Own β] {x : Addr} {c : Ctx} {γ : Ctx.T (.sf i α x :: c)} {os : List Addr} {o' : HO} {b : β} (nd : os.Nodup) (h : R wd H0 σ H G (.sf i α x :: c) γ os) (w : own wd G o' b) : R wd H0 σ (upd H x o') G (.sf i β x :: c) (b, γ.2) os := by
  obtain ⟨o, os', rfl, h1, h2, h3, h4⟩ := h
  exact ⟨o', os', rfl, h1, upd_same, w, h4.mono (Same.refl G) fun p hp => upd_ne fun e => (List.nodup_cons.mp nd).1 (by rw [← e]; exact hp)⟩
theorem Var.inSlots : ∀ {c : Ctx} {e : Ent} (v : Var c e), e.slot ∈ c.map Ent.slot
  | _, _, .z => List.mem_cons_self
  | _, _, .s v => List.mem_cons_of_mem _ (Var.inSlots v)
/-- a name is stored anew -/
theorem Var.restore {i : Nat} {α : Type} [Rep α] {x : V} {a : α} : ∀ {c : Ctx} (v : Var c (Ent.fz i α)) {γ : Ctx.T c} {os : List Addr}, (c.map Ent.slot).Nodup → rep wd G x a → i < σ.length → R wd H0 σ H G c γ os → R wd H0 (σ.set i (some x)) H G c (v.put γ a) os
  | @Ent.fz _ _ _ :: c, .z, γ, os, nd, w, l, h => ⟨⟨x, by rw [List.getElem?_set_self l], w⟩, h.2.slots fun e he => List.getElem?_set_ne fun q => (List.nodup_cons.mp nd).1 (by rw [show Ent.slot _ = i from rfl, q]; exact List.mem_map_of_mem he)⟩
  | @Ent.fz j δ _ :: c, .s v, γ, os, nd, w, l, h => by
    refine ⟨?_, Var.restore v (List.nodup_cons.mp nd).2 w l h.2⟩
    obtain ⟨y, e1, e2⟩ := h.1
    refine ⟨y, ?_, e2⟩
    rw [List.getElem?_set_ne fun q => ?_]
    · exact e1
    · exact (List.nodup_cons.mp nd).1 (q ▸ v.inSlots)
  | @Ent.bo j δ _ :: c, .s v, γ, os, nd, w, l, h => by
    refine ⟨?_, Var.restore v (List.nodup_cons.mp nd).2 w l h.2⟩
    obtain ⟨p, o, e1, e2⟩ := h.1
    refine ⟨p, o, ?_, e2⟩
    rw [List.getElem?_set_ne fun q => ?_]
    · exact e1
    · exact (List.nodup_cons.mp nd).1 (q ▸ v.inSlots)
  | @Ent.ow j δ _ :: c, .s v, γ, os, nd, w, l, h => by
    obtain ⟨q, o, os', rfl, h1, h2, h3, h4⟩ := h
    refine ⟨q, o, os', rfl, ?_, h2, h3, Var.restore v (List.nodup_cons.mp nd).2 w l h4⟩
    rw [List.getElem?_set_ne fun q => ?_]
    · exact h1
    · exact (List.nodup_cons.mp nd).1 (q ▸ v.inSlots)
  | @Ent.oo j δ _ :: c, .s v, γ, os, nd, w, l, h => by
    have ne : i ≠ j := fun q => (List.nodup_cons.mp nd).1 (by show j ∈ c.map Ent.slot; rw [← q]; exact v.inSlots)
    rcases h with ⟨e, h1, h⟩ | ⟨b, q, o, os', e, rfl, h1, h2, h3, h4⟩
    · exact .inl ⟨e, by rw [List.getElem?_set_ne ne]; exact h1, Var.restore v (List.nodup_cons.mp nd).2 w l h⟩
    · exact .inr ⟨b, q, o, os', e, rfl, by rw [List.getElem?_set_ne ne]; exact h1, h2, h3, Var.restore v (List.nodup_cons.mp nd).2 w l h4⟩
  | @Ent.sf j δ _ y :: c, .s v, γ, os, nd, w, l, h => by
    have ne : i ≠ j := fun q => (List.nodup_cons.mp nd).1 (by show j ∈ c.map Ent.slot; rw [← q]; exact v.inSlots)
    obtain ⟨o, os', rfl, h1, h2, h3, h4⟩ := h
    exact ⟨o, os', rfl, by rw [List.getElem?_set_ne ne]; exact h1, h2, h3, Var.restore v (List.nodup_cons.mp nd).2 w l h4⟩
theorem Sub.r : ∀ {c c' : Ctx} (s : Sub c c') {γ : Ctx.T c} {os : List Addr}, R wd H0 σ H G c γ os → ∃ os', R wd H0 σ H G c' (s.proj γ) os' ∧ os'.Sublist os
  | _, _, .nil, γ, os, h => ⟨[], rfl, List.nil_sublist _⟩
  | _, _, .keep (e := @Ent.fz i α _) s, γ, os, h => by
    obtain ⟨os', h1, h2⟩ := s.r h.2
    exact ⟨os', ⟨h.1, h1⟩, h2⟩
  | _, _, .keep (e := @Ent.bo i α _) s, γ, os, h => by
    obtain ⟨os', h1, h2⟩ := s.r h.2
    exact ⟨os', ⟨h.1, h1⟩, h2⟩
  | _, _, .keep (e := @Ent.ow i α _) s, γ, os, h => by
    obtain ⟨q, o, os1, rfl, k1, k2, k3, k4⟩ := h
    obtain ⟨os', h1, h2⟩ := s.r k4
    exact ⟨q :: os', ⟨q, o, os', rfl, k1, k2, k3, h1⟩, h2.cons₂ q⟩
  | _, _, .keep (e := @Ent.oo i α _) s, γ, os, h => by
    rcases h with ⟨e, k1, h⟩ | ⟨b, q, o, os1, e, rfl, k1, k2, k3, k4⟩
    · obtain ⟨os', h1, h2⟩ := s.r h
      exact ⟨os', .inl ⟨e, k1, h1⟩, h2⟩
    · obtain ⟨os', h1, h2⟩ := s.r k4
      exact ⟨q :: os', .inr ⟨b, q, o, os', e, rfl, k1, k2, k3, h1⟩, h2.cons₂ q⟩
  | _, _, .keep (e := @Ent.sf i α _ x) s, γ, os, h => by
    obtain ⟨o, os1, rfl, k1, k2, k3, k4⟩ := h
    obtain ⟨os', h1, h2⟩ := s.r k4
    exact ⟨x :: os', ⟨o, os', rfl, k1, k2, k3, h1⟩, h2.cons₂ x⟩
  | _, _, .skip (e := @Ent.fz i α _) s, γ, os, h => s.r h.2
  | _, _, .skip (e := @Ent.bo i α _) s, γ, os, h => s.r h.2
  | _, _, .skip (e := @Ent.ow i α _) s, γ, os, h => by
    obtain ⟨q, o, os1, rfl, k1, k2, k3, k4⟩ := h
    obtain ⟨os', h1, h2⟩ := s.r k4
    exact ⟨os', h1, h2.cons q⟩
  | _, _, .skip (e := @Ent.oo i α _) s, γ, os, h => by
    rcases h with ⟨e, k1, h⟩ | ⟨b, q, o, os1, e, rfl, k1, k2, k3, k4⟩
    · exact s.r h
    · obtain ⟨os', h1, h2⟩ := s.r k4
      exact ⟨os', h1, h2.cons q⟩
  | _, _, .skip (e := @Ent.sf i α _ x) s, γ, os, h => by
    obtain ⟨o, os1, rfl, k1, k2, k3, k4⟩ := h
    obtain ⟨os', h1, h2⟩ := s.r k4
    exact ⟨os', h1, h2.cons x⟩
theorem Stt.sub {n : Sl} {c c' : Ctx} (s : Sub c c') {γ : Ctx.T c} {os : List Addr} (h : Stt wd n H0 G0 σ H G os c γ) : ∃ os', os'.Sublist os ∧ Stt wd n H0 G0 σ H G os' c' (s.proj γ) := by
  obtain ⟨os', h1, h2⟩ := s.r h.r
  exact ⟨os', h2, h.len, h.f, h.nd.sublist h2, fun p hp => h.fr p (h2.subset hp), h1⟩
/-- one object is frozen -/
theorem Fr.frz1 {p : Addr} {o : HO} (f : Fr H0 G0 H G) (g : G p = none) (h0 : H0 p = none) (e : H p = some o) : Fr H0 G0 H (upd G p o) :=
  ⟨f.h, Same.upd' f.g (f.g.free g), fun a u q => by
    by_cases ha : a = p
    · subst ha
      rw [upd_same] at q
      cases q
      exact e
    · rw [upd_ne ha] at q
      exact f.gh a u q, fun a u q => by
    by_cases ha : a = p
    · subst ha
      exact .inr h0
    · rw [upd_ne ha] at q
      exact f.new a u q⟩
theorem Frz.r : ∀ {c c' : Ctx} (s : Frz c c') {γ : Ctx.T c} {os : List Addr} {G : Hp}, R wd H0 σ H G c γ os → os.Nodup → (∀ p ∈ os, G p = none ∧ H0 p = none) → Fr H0 G0 H G →
    ∃ os' G', R wd H0 σ H G' c' (s.proj γ) os' ∧ os'.Sublist os ∧ Fr H0 G0 H G' ∧ Same G G' ∧ (∀ p, p ∉ os → G p = none → G' p = none) ∧ ∀ p ∈ os', G' p = none
  | _, _, .nil, γ, os, G, h, nd, fr, f => ⟨[], G, rfl, List.nil_sublist _, f, Same.refl G, fun _ _ h => h, fun _ h => by cases h⟩
  | _, _, .keep (e := @Ent.fz i α _) s, γ, os, G, h, nd, fr, f => by
    obtain ⟨os', G', h1, h2, h3, h4, h5, h6⟩ := s.r h.2 nd fr f
    obtain ⟨v, k1, k2⟩ := h.1
    exact ⟨os', G', ⟨⟨v, k1, Rep.mono h4 k2⟩, h1⟩, h2, h3, h4, h5, h6⟩
  | _, _, .keep (e := @Ent.bo i α _) s, γ, os, G, h, nd, fr, f => by
    obtain ⟨os', G', h1, h2, h3, h4, h5, h6⟩ := s.r h.2 nd fr f
    obtain ⟨v, o, k1, k2, k3⟩ := h.1
    exact ⟨os', G', ⟨⟨v, o, k1, k2, Own.mono h4 k3⟩, h1⟩, h2, h3, h4, h5, h6⟩
  | _, _, .keep (e := @Ent.ow i α _) s, γ, os, G, h, nd, fr, f => by
    obtain ⟨q, o, os1, rfl, k1, k2, k3, k4⟩ := h
    have nd' := List.nodup_cons.mp nd
    obtain ⟨os', G', h1, h2, h3, h4, h5, h6⟩ := s.r k4 nd'.2 (fun p hp => fr p (List.mem_cons_of_mem _ hp)) f
    have gq := h5 q nd'.1 (fr q List.mem_cons_self).1
    refine ⟨q :: os', G', ⟨q, o, os', rfl, k1, k2, Own.mono h4 k3, h1⟩, h2.cons₂ q, h3, h4, fun p hp => h5 p fun z => hp (List.mem_cons_of_mem _ z), fun p hp => ?_⟩
    rcases List.mem_cons.mp hp with e | e
    · rw [e]; exact gq
    · exact h6 p e
  | _, _, .keep (e := @Ent.oo i α _) s, γ, os, G, h, nd, fr, f => by
    rcases h with ⟨e, k1, h⟩ | ⟨b, q, o, os1, e, rfl, k1, k2, k3, k4⟩
    · obtain ⟨os', G', h1, h2, h3, h4, h5, h6⟩ := s.r h nd fr f
      exact ⟨os', G', .inl ⟨e, k1, h1⟩, h2, h3, h4, h5, h6⟩
    · have nd' := List.nodup_cons.mp nd
      obtain ⟨os', G', h1, h2, h3, h4, h5, h6⟩ := s.r k4 nd'.2 (fun p hp => fr p (List.mem_cons_of_mem _ hp)) f
      have gq := h5 q nd'.1 (fr q List.mem_cons_self).1
      refine ⟨q :: os', G', .inr ⟨b, q, o, os', e, rfl, k1, k2, Own.mono h4 k3, h1⟩, h2.cons₂ q, h3, h4, fun p hp => h5 p fun z => hp (List.mem_cons_of_mem _ z), fun p hp => ?_⟩
      rcases List.mem_cons.mp hp with e | e
      · rw [e]; exact gq
      · exact h6 p e
  | _, _, .keep (e := @Ent.sf i α _ x) s, γ, os, G, h, nd, fr, f => by
    obtain ⟨o, os1, rfl, k1, k2, k3, k4⟩ := h
    have nd' := List.nodup_cons.mp nd
    obtain ⟨os', G', h1, h2, h3, h4, h5, h6⟩ := s.r k4 nd'.2 (fun p hp => fr p (List.mem_cons_of_mem _ hp)) f
    have gq := h5 x nd'.1 (fr x List.mem_cons_self).1
    refine ⟨x :: os', G', ⟨o, os', rfl, k1, k2, Own.mono h4 k3, h1⟩, h2.cons₂ x, h3, h4, fun p hp => h5 p fun z => hp (List.mem_cons_of_mem _ z), fun p hp => ?_⟩
    rcases List.mem_cons.mp hp with e | e
    · rw [e]; exact gq
    · exact h6 p e
  | _, _, @Frz.frz i α r c c' s, γ, os, G, h, nd, fr, f => by
    obtain ⟨q, o, os1, rfl, k1, k2, k3, k4⟩ := h
    have nd' := List.nodup_cons.mp nd
    obtain ⟨os', G', h1, h2, h3, h4, h5, h6⟩ := s.r k4 nd'.2 (fun p hp => fr p (List.mem_cons_of_mem _ hp)) f
    have gq := h5 q nd'.1 (fr q List.mem_cons_self).1
    have sg : Same G' (upd G' q o) := Same.upd' (Same.refl G') gq
    refine ⟨os', upd G' q o, ⟨⟨.ref q, k1, q, o, rfl, upd_same, Own.mono (h4.trans sg) k3⟩, h1.mono sg fun _ _ => rfl⟩, h2.cons q, h3.frz1 gq (fr q List.mem_cons_self).2 k2, h4.trans sg, fun p hp g => ?_, fun p hp => ?_⟩
    · rw [upd_ne fun e => hp (by rw [e]; exact List.mem_cons_self)]
      exact h5 p (fun z => hp (List.mem_cons_of_mem _ z)) g
    · rw [upd_ne fun e => nd'.1 (by rw [← e]; exact h2.subset hp)]
      exact h6 p hp
theorem Stt.frz {n : Sl} {c c' : Ctx} (s : Frz c c') {γ : Ctx.T c} {os : List Addr} (h : Stt wd n H0 G0 σ H G os c γ) : ∃ os' G', Stt wd n H0 G0 σ H G' os' c' (s.proj γ) := by
  obtain ⟨os', G', h1, h2, h3, h4, h5, h6⟩ := s.r h.r h.nd h.fr h.f
  exact ⟨os', G', h.len, h3, h.nd.sublist h2, fun p hp => ⟨h6 p hp, (h.fr p (h2.subset hp)).2⟩, h1⟩
/-- an owned object that may be none is told to be there -/
inductive Nar : Ctx → Ctx → Type 1 where
  | z {i : Nat} {β : Type} {r : Own β} {c : Ctx} : Nar (@Ent.oo i β r :: c) (@Ent.ow i β r :: c)
  | s {e : Ent} {c c' : Ctx} (n : Nar c c') : Nar (e :: c) (e :: c')
@[reducible] def Nar.go : {c c' : Ctx} → Nar c c' → Ctx.T c → Rs (Ctx.T c')
  | _, _, .z, γ => match γ.1 with
    | some b => .ok (b, γ.2)
    | none => .no
  | _, _, .s n, γ => (n.go γ.2).bind fun g => .ok (γ.1, g)
theorem Nar.r : ∀ {c c' : Ctx} (s : Nar c c') {γ : Ctx.T c} {γ' : Ctx.T c'} {os : List Addr}, s.go γ = .ok γ' → R wd H0 σ H G c γ os → R wd H0 σ H G c' γ' os
  | _, _, .z, (none, γ), γ', os, e, h => by cases e
  | _, _, .z, (some b, γ), γ', os, e, h => by
    cases e
    rcases h with ⟨e, _⟩ | ⟨b', q, o, os1, e, rfl, k1, k2, k3, k4⟩
    · cases e
    · cases e
      exact ⟨q, o, os1, rfl, k1, k2, k3, k4⟩
  | _, _, .s (e := x) n, γ, γ', os, e, h => by
    have e' : (n.go γ.2).bind (fun g => .ok (γ.1, g)) = .ok γ' := e
    cases e2 : n.go γ.2 with
    | no => rw [e2] at e'; cases e'
    | ex _ => rw [e2] at e'; cases e'
    | ok g =>
      rw [e2] at e'
      cases e'
      cases x with
      | fz i β => exact ⟨h.1, n.r e2 h.2⟩
      | bo i β => exact ⟨h.1, n.r e2 h.2⟩
      | ow i β =>
        obtain ⟨q, o, os1, rfl, k1, k2, k3, k4⟩ := h
        exact ⟨q, o, os1, rfl, k1, k2, k3, n.r e2 k4⟩
      | oo i β =>
        rcases h with ⟨e, k1, h⟩ | ⟨b, q, o, os1, e, rfl, k1, k2, k3, k4⟩
        · exact .inl ⟨e, k1, n.r e2 h⟩
        · exact .inr ⟨b, q, o, os1, e, rfl, k1, k2, k3, n.r e2 k4⟩
      | sf i β y =>
        obtain ⟨o, os1, rfl, k1, k2, k3, k4⟩ := h
        exact ⟨o, os1, rfl, k1, k2, k3, n.r e2 k4⟩
theorem Stt.nar {n : Sl} {c c' : Ctx} (s : Nar c c') {γ : Ctx.T c} {γ' : Ctx.T c'} {os : List Addr} (e : s.go γ = .ok γ') (h : Stt wd n H0 G0 σ H G os c γ) : Stt wd n H0 G0 σ H G os c' γ' :=
  ⟨h.len, h.f, h.nd, h.fr, s.r e h.r⟩
end
theorem okN {P : Program} {w : World} {K : PySem.W.Frag} {mg : Str → Option Value} {base : Heap} {x qual : Str} {st : Stmt} {f : Addr} {fd : FuncData} {N ps : List Str} {k : Nat} {sp : Sp} (F : Fun K x qual st f fd) (S : FnScope N ps (defScope st)) (len : ∀ vs H Q E, sp vs H Q E → vs.length = ps.length)
    (hbody : ∀ (cdv : Value) (A : Around) (outer : List Env) (s : Shared) (H : Hp) (vs : List V) (Q : VK) (E : XK), Room k (A.deeper (envOfC qual (defScope st) s.heap.objs.size f cdv)) → sp vs H Q E →
      ∃ t, PSs (cxOf (L2N.CX P w) P w K mg base N qual (defScope st) f cdv A outer s H E) (defBody st) t ∧ t { nx := fun _ H' => Q .non H', rt := Q } (start N vs) H) : FnOk P w K mg base (L2N.CX P w) (k + 1) f fd ps sp := by
  obtain ⟨oc, od, kV, doc, pm, an, cdv, ct, osl, rfl, lk, hcd⟩ := F.ex
  exact fn_of lk hcd S len fun A outer s H vs Q E hr hsp => hbody cdv A outer s H vs Q E hr hsp
/-- .. and where an exception is handled -/
theorem okH {P : Program} {w : World} {K : PySem.W.Frag} {mg : Str → Option Value} {base : Heap} {x qual : Str} {st : Stmt} {f : Addr} {fd : FuncData} {N ps : List Str} {k : Nat} {sp : Sp} (F : Fun K x qual st f fd) (S : FnScope N ps (defScope st)) (len : ∀ vs H Q E, sp vs H Q E → vs.length = ps.length)
    (hbody : ∀ (cdv : Value) (A : Around) (outer : List Env) (s : Shared) (H : Hp) (vs : List V) (Q : VK) (E : XK) (p : Addr × Obj), L2H.Hot1 A p → L2H.RoomH k (A.deeper (envOfC qual (defScope st) s.heap.objs.size f cdv)) → sp vs H Q E →
      ∃ t, PSs (L2H.cxH (L2N.CX P w) P w K mg base N qual (defScope st) f cdv A outer s H E p) (defBody st) t ∧ t { nx := fun _ H' => Q .non H', rt := Q } (start N vs) H) : L2H.FnH P w K mg base (L2N.CX P w) (k + 1) f fd ps sp := by
  obtain ⟨oc, od, kV, doc, pm, an, cdv, ct, osl, rfl, lk, hcd⟩ := F.ex
  exact L2H.fn_ofH lk hcd S len fun A outer s H vs Q E p hp hr hsp => hbody cdv A outer s H vs Q E p hp hr hsp
end Wm
set_option Elab.async false
set_option linter.all false
set_option maxRecDepth 100000
set_option maxHeartbeats 4000000
namespace Wm
open PySem PySem.Spec PyProof.Rows L2
open Rep (rep)
open Own (own)
/-! ### kinds of results -/
structure Kd (wd : Wd) (α : Type) where
  rel : Hp → Hp → Hp → V → α → Prop
  stay : ∀ {B H G H' G' : Hp} {v : V} {a : α}, rel B H G v a → Fr H G H' G' → rel B H' G' v a
  back : ∀ {B B' H G : Hp} {v : V} {a : α}, Same B B' → rel B' H G v a → rel B H G v a
def kF {wd : Wd} {α : Type} [Rep α] : Kd wd α := ⟨fun _ _ G v a => rep wd G v a, fun h f => Rep.mono f.g h, fun _ h => h⟩
def kO {wd : Wd} {β : Type} [Own β] : Kd wd β :=
  ⟨fun B H G v b => ∃ p o, v = .ref p ∧ B p = none ∧ G p = none ∧ H p = some o ∧ own wd G o b,
   fun ⟨p, o, e, n, g, h, w⟩ f => ⟨p, o, e, n, f.out h g, f.h _ _ h, Own.mono f.g w⟩,
   fun s ⟨p, o, e, n, g, h, w⟩ => ⟨p, o, e, s.free n, g, h, w⟩⟩
def kB {wd : Wd} {β : Type} [Own β] : Kd wd β :=
  ⟨fun _ H G v b => ∃ p o, v = .ref p ∧ H p = some o ∧ own wd G o b, fun ⟨p, o, e, h, w⟩ f => ⟨p, o, e, f.h _ _ h, Own.mono f.g w⟩, fun _ h => h⟩
structure Fx where
  wd : Wd
  n : Sl
  W : WX
abbrev Fx.blk (F : Fx) : Fx := { F with n := Sl.all F.n.n, W := fun _ _ _ _ => False }
def Post {wd : Wd} {α : Type} (W : WX) (k : Kd wd α) (σ : L2.St) (H G : Hp) (Q : VK) : Rs α → Prop
  | .ok a => ∀ H' G' v, Fr H G H' G' → k.rel H H' G' v a → Q v H'
  | .ex x => ∀ d H' G', Fr H G H' G' → RepX G' d x → W (.ref (wd.cm x.cls)) d σ H'
  | .no => False
section
variable {wd : Wd} {α β δ : Type} {W : WX} {k : Kd wd α} {k2 : Kd wd β} {σ : L2.St} {H G H' G' : Hp} {Q Q' : VK} {r : Rs α}
theorem Post.ext (h : Post W k σ H G Q r) (f : Fr H G H' G') : Post W k σ H' G' Q r := by
  cases r with
  | no => exact h
  | ex x => exact fun d H2 G2 s q => h d H2 G2 (f.trans s) q
  | ok a => exact fun H2 G2 v f2 q => h H2 G2 v (f.trans f2) (k.back f.h q)
theorem Post.imp (h : Post W k σ H G Q r) (i : ∀ v H', Q v H' → Q' v H') : Post W k σ H G Q' r := by
  cases r with
  | no => exact h
  | ex x => exact h
  | ok a => exact fun H2 G2 v f2 q => i v H2 (h H2 G2 v f2 q)
theorem Post.step {f : α → Rs β} (h : Post W k2 σ H G Q (r.bind f)) (k : Kd wd α) (i : ∀ v H1 G1 a, Fr H G H1 G1 → k.rel H H1 G1 v a → Post W k2 σ H1 G1 Q (f a) → Q' v H1) : Post W k σ H G Q' r := by
  cases r with
  | no => exact h
  | ex x => exact h
  | ok a => exact fun H2 G2 v f2 q => i v H2 G2 a f2 q (Post.ext h f2)
end
def tX (F : Fx) {α : Type} (k : Kd F.wd α) (c : Ctx) (m : Ctx.T c → Rs α) : TE := fun σ H Q => ∃ H0 G0 G os γ, Stt F.wd F.n H0 G0 σ H G os c γ ∧ Post F.W k σ H G Q (m γ)
section
variable {X : Cx} {t t' : TE}
theorem pe_mono {e : Expr} (h : PE X e t) (i : ∀ σ H Q, t' σ H Q → t σ H Q) : PE X e t' := ⟨fun pins s σ H Q I q => h.run pins s σ H Q I (i σ H Q q)⟩
theorem pt_mono {e : Expr} {t t' : TT} (h : PT X e t) (i : ∀ σ H Q, t' σ H Q → t σ H Q) : PT X e t' := ⟨fun pins s σ H Q I q => h.run pins s σ H Q I (i σ H Q q)⟩
theorem pw_mono {e : Expr} {t t' : TT} (h : PW X e t) (i : ∀ σ H Q, t' σ H Q → t σ H Q) : PW X e t' := ⟨fun wh pins s σ H Q I q => h.run wh pins s σ H Q I (i σ H Q q)⟩
theorem pa_mono {es : List Expr} {t t' : TA} (h : PA X es t) (i : ∀ σ H Q, t' σ H Q → t σ H Q) : PA X es t' := ⟨fun pos pins s σ H Q I q => h.run pos pins s σ H Q I (i σ H Q q)⟩
theorem ps_mono {st : Stmt} {t t' : TS} (h : PS X st t) (i : ∀ D σ H, t' D σ H → t D σ H) : PS X st t' := ⟨fun pins s σ H D I q => h.run pins s σ H D I (i D σ H q)⟩
theorem pss_mono {st : List Stmt} {t t' : TS} (h : PSs X st t) (i : ∀ D σ H, t' D σ H → t D σ H) : PSs X st t' := ⟨fun pins s σ H D I q => h.run pins s σ H D I (i D σ H q)⟩
end
/-! ### operations on values -/
def Sem1 {wd : Wd} {α δ : Type} (k1 : Kd wd α) (k3 : Kd wd δ) (r : V → Hp → VK → Prop) (f : α → Rs δ) : Prop :=
  ∀ {W : WX} {σ : L2.St} {B H G : Hp} {x : V} {a : α} {Q : VK}, Same G H → k1.rel B H G x a → Post W k3 σ H G Q (f a) → r x H Q
def Sem2 {wd : Wd} {α β δ : Type} (k1 : Kd wd α) (k2 : Kd wd β) (k3 : Kd wd δ) (r : R2) (f : α → β → Rs δ) : Prop :=
  ∀ {W : WX} {σ : L2.St} {B1 B2 H G : Hp} {x y : V} {a : α} {b : β} {Q : VK}, Same G H → k1.rel B1 H G x a → k2.rel B2 H G y b → Post W k3 σ H G Q (f a b) → r x y H Q
section
variable {X : Cx} {F : Fx} {c : Ctx} {α β δ : Type} {k1 : Kd F.wd α} {k2 : Kd F.wd β} {k3 : Kd F.wd δ} {a b : Expr} {ma : Ctx.T c → Rs α} {mb : Ctx.T c → Rs β} {pos p : Pos} {r : R2} {f : α → β → Rs δ}
theorem tX1 {r : V → Hp → VK → Prop} {f : α → Rs δ} (hr : Sem1 k1 k3 r f) {σ : L2.St} {H : Hp} {Q : VK} (h : tX F k3 c (fun γ => (ma γ).bind f) σ H Q) : tX F k1 c ma σ H fun x H1 => r x H1 Q := by
  obtain ⟨H0, G0, G, os, γ, st, p⟩ := h
  exact ⟨H0, G0, G, os, γ, st, p.step k1 fun x H1 G1 a fr ra p1 => hr fr.gh ra p1⟩
theorem tX2 (hr : Sem2 k1 k2 k3 r f) {σ : L2.St} {H : Hp} {Q : VK} (h : tX F k3 c (fun γ => (ma γ).bind fun x => (mb γ).bind fun y => f x y) σ H Q) : tOp r (tX F k1 c ma) (tX F k2 c mb) σ H Q := by
  obtain ⟨H0, G0, G, os, γ, st, p⟩ := h
  exact ⟨H0, G0, G, os, γ, st, p.step k1 fun x H1 G1 a fr ra p1 => ⟨H0, G0, G1, os, γ, st.ext fr, p1.step k2 fun y H2 G2 b fr2 rb p2 => hr fr2.gh (k1.stay ra fr2) rb p2⟩⟩
theorem e_op {op : Operator} (ho : OpR X (binaryOp op) r) (hr : Sem2 k1 k2 k3 r f) (ha : PE X a (tX F k1 c ma)) (hb : PE X b (tX F k2 c mb)) : PE X (.BinOp a op b pos) (tX F k3 c fun γ => (ma γ).bind fun x => (mb γ).bind fun y => f x y) :=
  pe_mono (pe_op ho ha hb) fun σ H Q h => tX2 hr h
theorem e_un {op : UnaryOp} {r : V → Hp → VK → Prop} {f : α → Rs δ} (ho : UnR X (unaryOp op) r) (hr : Sem1 k1 k3 r f) (ha : PE X a (tX F k1 c ma)) : PE X (.UnaryOp op a pos) (tX F k3 c fun γ => (ma γ).bind f) :=
  pe_mono (pe_un ho ha) fun σ H Q h => tX1 hr h
theorem e_ix (hr : IxR X r) (hs : Sem2 k1 k2 k3 r f) (ha : PE X a (tX F k1 c ma)) (hb : PE X b (tX F k2 c mb)) (hp : PlainIx b := by exact fun _ _ => rfl) : PE X (.Subscript a b pos) (tX F k3 c fun γ => (ma γ).bind fun x => (mb γ).bind fun y => f x y) :=
  pe_mono (pe_ix hr ha hb hp) fun σ H Q h => tX2 hs h
theorem e_cmp {op : CmpOp} (ho : OpR X (compareOp op) r) (hr : Sem2 k1 k2 k3 r f) (ha : PE X a (tX F k1 c ma)) (hb : PE X b (tX F k2 c mb)) (hm : behindInMarks op b = false := by first | exact nomark _ | rfl) : PE X (.Compare a [op] [b] pos) (tX F k3 c fun γ => (ma γ).bind fun x => (mb γ).bind fun y => f x y) :=
  pe_mono (pe_cmpR ho ha hb hm) fun σ H Q h => tX2 hr h
theorem e_b1 {x : Str} {id : String} {r : List V → Hp → VK → Prop} {f : α → Rs δ} (hc : CallR X (.builtin id) r) (hs : Sem1 k1 k3 (fun x => r [x]) f) (hg : Gl X x) (hm : X.mg x = none) (hv : bootBuiltins x = some (.builtin id)) (ha : PE X a (tX F k1 c ma)) (hn : x ≠ "__name__" := by decide)
    (hdb : (x == ("__debug__" : Str)) = false := by decide) (he : starEach (a :: []) X.env = (false, eval a X.env) :: starEach [] X.env := by rfl) (hpl : (backTo pos (starEach [] X.env)).any (·.1) = false := by rfl) : PE X (.Call (.Name x p) [a] [] pos) (tX F k3 c fun γ => (ma γ).bind f) :=
  pe_mono (pe_callB hc hg hm hv (pa_cons ha pa_nil he) hn hdb he hpl) fun σ H Q h => tX1 hs h
theorem e_t1 {x : Str} {T : String} {r : List V → Hp → VK → Prop} {f : α → Rs δ} (hc : CallR X (.type T) r) (hs : Sem1 k1 k3 (fun x => r [x]) f) (hg : Gl X x) (hm : X.mg x = none) (hv : bootBuiltins x = some (.type T)) (ha : PE X a (tX F k1 c ma)) (hn : x ≠ "__name__" := by decide)
    (hdb : (x == ("__debug__" : Str)) = false := by decide) (he : starEach (a :: []) X.env = (false, eval a X.env) :: starEach [] X.env := by rfl) (hpl : (backTo pos (starEach [] X.env)).any (·.1) = false := by rfl) : PE X (.Call (.Name x p) [a] [] pos) (tX F k3 c fun γ => (ma γ).bind f) :=
  pe_mono (pe_callTy hc hg hm hv (pa_cons ha pa_nil he) hn hdb he hpl) fun σ H Q h => tX1 hs h
/-! ### constants and names -/
theorem e_c {α : Type} [Rep α] {e : Expr} {v : V} (h : PE X e (tC v)) (z : α) (r : ∀ G, rep F.wd G v z) : PE X e (tX F kF c fun _ => .ok z) :=
  pe_mono h fun σ H Q ⟨H0, G0, G, os, γ, st, p⟩ => p H G v (Fr.refl st.f.gh) (r G)
theorem e_int {i : Int} {j pos} : PE X (.Constant (.int i) j pos) (tX F kF c fun _ => .ok i) := e_c pe_int i fun _ => rfl
theorem e_bl {b : Bool} {j pos} : PE X (.Constant (.bool b) j pos) (tX F kF c fun _ => .ok b) := e_c pe_bl b fun _ => rfl
theorem e_str {x : Str} {j pos} (h : SOk x := by decide +kernel) : PE X (.Constant (.str x) j pos) (tX F kF c fun _ => .ok x) := e_c pe_str x fun _ => ⟨rfl, h⟩
theorem e_non {j pos} : PE X (.Constant .none j pos) (tX F kF c fun _ => .ok ()) := e_c pe_non () fun _ => rfl
theorem e_nonO {α : Type} [Rep α] {j pos} : PE X (.Constant .none j pos) (tX F kF c fun _ => .ok (none : Option α)) := e_c pe_non none fun _ => rfl
theorem e_gi {x : Str} {i : Int} {t : Tok} (hg : Gl X x) (hm : X.mg x = some (.int i t)) (hd : (x == ("__debug__" : Str)) = false := by decide) : PE X (.Name x pos) (tX F kF c fun _ => .ok i) := e_c (pe_glob hg hm (v := .int i) ⟨t, rfl⟩ hd) i fun _ => rfl
theorem e_gs {x z : Str} {t : Tok} (hg : Gl X x) (hm : X.mg x = some (.str z t)) (h : SOk z := by decide +kernel) (hd : (x == ("__debug__" : Str)) = false := by decide) : PE X (.Name x pos) (tX F kF c fun _ => .ok z) := e_c (pe_glob hg hm (v := .str z) ⟨t, rfl⟩ hd) z fun _ => ⟨rfl, h⟩
theorem e_var {α : Type} [Rep α] {i : Nat} (v : Var c (.fz i α)) {x : Str} (hN : X.N[i]? = some x := by rfl) (hv : Vis X.env.scope x := by first | exact Or.inl rfl | exact Or.inr (Or.inl rfl) | exact Or.inr (Or.inr rfl))
    (hd : (x == ("__debug__" : Str)) = false := by decide) (hcd : (x == ("__classdict__" : Str)) = false := by decide) : PE X (.Name x pos) (tX F kF c fun γ => .ok (v.get γ)) :=
  pe_mono (pe_var hN hv hd hcd) fun σ H Q ⟨H0, G0, G, os, γ, st, p⟩ => by
    obtain ⟨x, h1, h2⟩ := v.fz st.r
    exact ⟨x, h1, p H G x (Fr.refl st.f.gh) h2⟩
theorem e_varW {β : Type} [Own β] {i : Nat} (v : Var c (.ow i β)) {x : Str} (hN : X.N[i]? = some x := by rfl) (hv : Vis X.env.scope x := by first | exact Or.inl rfl | exact Or.inr (Or.inl rfl) | exact Or.inr (Or.inr rfl))
    (hd : (x == ("__debug__" : Str)) = false := by decide) (hcd : (x == ("__classdict__" : Str)) = false := by decide) : PE X (.Name x pos) (tX F kB c fun γ => .ok (v.get γ)) :=
  pe_mono (pe_var hN hv hd hcd) fun σ H Q ⟨H0, G0, G, os, γ, st, p⟩ => by
    obtain ⟨q, o, _, h1, h2, h3⟩ := v.ow st.r
    exact ⟨.ref q, h1, p H G _ (Fr.refl st.f.gh) ⟨q, o, rfl, h2, h3⟩⟩
theorem e_varB {β : Type} [Own β] {i : Nat} (v : Var c (.bo i β)) {x : Str} (hN : X.N[i]? = some x := by rfl) (hv : Vis X.env.scope x := by first | exact Or.inl rfl | exact Or.inr (Or.inl rfl) | exact Or.inr (Or.inr rfl))
    (hd : (x == ("__debug__" : Str)) = false := by decide) (hcd : (x == ("__classdict__" : Str)) = false := by decide) : PE X (.Name x pos) (tX F kB c fun γ => .ok (v.get γ)) :=
  pe_mono (pe_var hN hv hd hcd) fun σ H Q ⟨H0, G0, G, os, γ, st, p⟩ => by
    obtain ⟨q, o, h1, h2, h3⟩ := v.bo st.r
    exact ⟨.ref q, h1, p H G _ (Fr.refl st.f.gh) ⟨q, o, rfl, st.f.h _ _ h2, h3⟩⟩
/-! ### from one kind to another -/
theorem e_fb {β : Type} [Own β] {e : Expr} {m : Ctx.T c → Rs β} (h : PE X e (tX F kF c m)) : PE X e (tX F kB c m) :=
  pe_mono h fun σ H Q ⟨H0, G0, G, os, γ, st, p⟩ => ⟨H0, G0, G, os, γ, st, by
    cases e : m γ with
    | no => rw [e] at p; exact p
    | ex x => rw [e] at p; exact p
    | ok b =>
      rw [e] at p
      exact fun H' G' v f ⟨q, o, e1, e2, e3⟩ => p H' G' v f ⟨q, o, e1, f.gh _ _ e2, e3⟩⟩
theorem e_ob {β : Type} [Own β] {e : Expr} {m : Ctx.T c → Rs β} (h : PE X e (tX F kO c m)) : PE X e (tX F kB c m) :=
  pe_mono h fun σ H Q ⟨H0, G0, G, os, γ, st, p⟩ => ⟨H0, G0, G, os, γ, st, by
    cases e : m γ with
    | no => rw [e] at p; exact p
    | ex x => rw [e] at p; exact p
    | ok b =>
      rw [e] at p
      exact fun H' G' v f ⟨q, o, e1, e2, e3, e4, e5⟩ => p H' G' v f ⟨q, o, e1, e4, e5⟩⟩
theorem e_of {β : Type} [Own β] {e : Expr} {m : Ctx.T c → Rs β} (h : PE X e (tX F kO c m)) : PE X e (tX F kF c m) :=
  pe_mono h fun σ H Q ⟨H0, G0, G, os, γ, st, p⟩ => ⟨H0, G0, G, os, γ, st, by
    cases e : m γ with
    | no => rw [e] at p; exact p
    | ex x => rw [e] at p; exact p
    | ok b =>
      rw [e] at p
      exact fun H' G' v f ⟨q, o, e1, e2, e3, e4, e5⟩ => p H' (upd G' q o) v (f.freeze e2 e3 e4) ⟨q, o, e1, upd_same, Own.mono (Same.upd' (Same.refl G') e3) e5⟩⟩
/-- an option that is there -/
theorem e_some {α : Type} [Rep α] {e : Expr} {m : Ctx.T c → Rs α} (h : PE X e (tX F kF c m)) : PE X e (tX F kF c fun γ => (m γ).bind fun a => .ok (some a)) :=
  pe_mono h fun σ H Q ⟨H0, G0, G, os, γ, st, p⟩ => ⟨H0, G0, G, os, γ, st, p.step kF fun v H1 G1 a fr ra p1 => p1 H1 G1 v (Fr.refl fr.gh) ra⟩
end
/-! ### the operators -/
section
variable {wd : Wd}
theorem m_I0 {g : Int → Int → V} {δ : Type} [Rep δ] {f : Int → Int → δ} (h : ∀ i j G, rep wd G (g i j) (f i j)) : Sem2 (wd := wd) kF kF kF (rI0 g) (fun i j => .ok (f i j)) := by
  intro W σ B1 B2 H G x y a b Q gh hx hy p
  exact ⟨a, b, hx, hy, p H G _ (Fr.refl gh) (h a b G)⟩
theorem m_I {C : Int → Int → Prop} [∀ i j, Decidable (C i j)] {g : Int → Int → V} {δ : Type} [Rep δ] {f : Int → Int → δ} (h : ∀ i j G, rep wd G (g i j) (f i j)) : Sem2 (wd := wd) kF kF kF (rI C g) (fun i j => if C i j then .ok (f i j) else .no) := by
  intro W σ B1 B2 H G x y a b Q gh hx hy p
  dsimp only at p
  by_cases hc : C a b
  · rw [if_pos hc] at p
    exact ⟨a, b, hx, hy, hc, p H G _ (Fr.refl gh) (h a b G)⟩
  · rw [if_neg hc] at p
    exact p.elim
theorem m_U {g : Int → V} {δ : Type} [Rep δ] {f : Int → δ} (h : ∀ i G, rep wd G (g i) (f i)) : Sem1 (wd := wd) kF kF (rU g) (fun i => .ok (f i)) := by
  intro W σ B H G x a Q gh hx p
  exact ⟨a, hx, p H G _ (Fr.refl gh) (h a G)⟩
instance : DecidableRel CMul := fun i j => inferInstanceAs (Decidable ((-(2 ^ 64) < i ∧ i < 2 ^ 64) ∨ (-(2 ^ 64) < j ∧ j < 2 ^ 64)))
instance : DecidableRel CMulW := fun i j => inferInstanceAs (Decidable (i.natAbs.log2 + j.natAbs.log2 < 1000000))
instance : DecidableRel CDiv := fun i j => inferInstanceAs (Decidable (0 < j ∧ j < 1073741824))
instance : DecidableRel CDivW := fun i j => inferInstanceAs (Decidable (0 < j ∧ j.natAbs.log2 < 9000))
instance : DecidableRel CPow := fun i j => inferInstanceAs (Decidable (0 ≤ j ∧ j ≤ 1000000 ∧ i.natAbs < 2 ^ 64))
end
end Wm
set_option Elab.async false
set_option linter.all false
set_option maxRecDepth 100000
set_option maxHeartbeats 4000000
namespace Wm
open PySem PySem.Spec PyProof.Rows L2
open Rep (rep)
open Own (own)
/-! ### statements -/
def PostN (F : Fx) (H0 G0 : Hp) (c : Ctx) (D : Ends) : Rs (Ctx.T c) → Prop
  | .ok γ => ∀ σ H G os, Stt F.wd F.n H0 G0 σ H G os c γ → D.nx σ H
  | .ex x => ∀ d σ H G, F.n.P σ → Fr H0 G0 H G → RepX G d x → F.W (.ref (F.wd.cm x.cls)) d σ H
  | .no => False
def PostT (F : Fx) {ρ : Type} (k : Kd F.wd ρ) (H0 G0 : Hp) (D : Ends) : Rs ρ → Prop
  | .ok r => ∀ H G v, Fr H0 G0 H G → k.rel H0 H G v r → D.rt v H
  | .ex x => ∀ d σ H G, F.n.P σ → Fr H0 G0 H G → RepX G d x → F.W (.ref (F.wd.cm x.cls)) d σ H
  | .no => False
def PostG (F : Fx) {ρ : Type} (k : Kd F.wd ρ) (H0 G0 : Hp) (c : Ctx) (D : Ends) : Rs (Ctx.T c ⊕ ρ) → Prop
  | .ok (.inl γ) => ∀ σ H G os, Stt F.wd F.n H0 G0 σ H G os c γ → D.nx σ H
  | .ok (.inr r) => ∀ H G v, Fr H0 G0 H G → k.rel H0 H G v r → D.rt v H
  | .ex x => ∀ d σ H G, F.n.P σ → Fr H0 G0 H G → RepX G d x → F.W (.ref (F.wd.cm x.cls)) d σ H
  | .no => False
/-- the statements' readings: what follows; a return; both -/
def tS (F : Fx) (c c' : Ctx) (m : Ctx.T c → Rs (Ctx.T c')) : TS := fun D σ H => ∃ H0 G0 G os γ, Stt F.wd F.n H0 G0 σ H G os c γ ∧ PostN F H0 G0 c' D (m γ)
def tT (F : Fx) {ρ : Type} (k : Kd F.wd ρ) (c : Ctx) (m : Ctx.T c → Rs ρ) : TS := fun D σ H => ∃ H0 G0 G os γ, Stt F.wd F.n H0 G0 σ H G os c γ ∧ PostT F k H0 G0 D (m γ)
def tG (F : Fx) {ρ : Type} (k : Kd F.wd ρ) (c c' : Ctx) (m : Ctx.T c → Rs (Ctx.T c' ⊕ ρ)) : TS := fun D σ H => ∃ H0 G0 G os γ, Stt F.wd F.n H0 G0 σ H G os c γ ∧ PostG F k H0 G0 c' D (m γ)
section
variable {F : Fx} {α ρ : Type} {k : Kd F.wd α} {kr : Kd F.wd ρ} {H0 G0 H G : Hp} {σ : L2.St} {c c' : Ctx} {D D' : Ends} {Q : VK} {r : Rs α}
theorem PostN.step {f : α → Rs (Ctx.T c')} {n9 : Ctx} {os9 : List Addr} {γ9 : Ctx.T n9} (h : PostN F H0 G0 c' D (r.bind f)) (s : Stt F.wd F.n H0 G0 σ H G os9 n9 γ9) (k : Kd F.wd α) (i : ∀ v H1 G1 a, Fr H G H1 G1 → k.rel H H1 G1 v a → PostN F H0 G0 c' D (f a) → Q v H1) : Post F.W k σ H G Q r := by
  cases r with
  | no => exact h
  | ex x => exact fun d H2 G2 q z => h d σ H2 G2 s.len (s.f.trans q) z
  | ok a => exact fun H2 G2 v f2 q => i v H2 G2 a f2 q h
theorem PostT.step {f : α → Rs ρ} {n9 : Ctx} {os9 : List Addr} {γ9 : Ctx.T n9} (h : PostT F kr H0 G0 D (r.bind f)) (s : Stt F.wd F.n H0 G0 σ H G os9 n9 γ9) (k : Kd F.wd α) (i : ∀ v H1 G1 a, Fr H G H1 G1 → k.rel H H1 G1 v a → PostT F kr H0 G0 D (f a) → Q v H1) : Post F.W k σ H G Q r := by
  cases r with
  | no => exact h
  | ex x => exact fun d H2 G2 q z => h d σ H2 G2 s.len (s.f.trans q) z
  | ok a => exact fun H2 G2 v f2 q => i v H2 G2 a f2 q h
theorem PostG.step {f : α → Rs (Ctx.T c' ⊕ ρ)} {n9 : Ctx} {os9 : List Addr} {γ9 : Ctx.T n9} (h : PostG F kr H0 G0 c' D (r.bind f)) (s : Stt F.wd F.n H0 G0 σ H G os9 n9 γ9) (k : Kd F.wd α) (i : ∀ v H1 G1 a, Fr H G H1 G1 → k.rel H H1 G1 v a → PostG F kr H0 G0 c' D (f a) → Q v H1) : Post F.W k σ H G Q r := by
  cases r with
  | no => exact h
  | ex x => exact fun d H2 G2 q z => h d σ H2 G2 s.len (s.f.trans q) z
  | ok a => exact fun H2 G2 v f2 q => i v H2 G2 a f2 q h
theorem PostN.seqN {r : Rs (Ctx.T c)} {f : Ctx.T c → Rs (Ctx.T c')} (h : PostN F H0 G0 c' D (r.bind f)) (i : ∀ σ H G os γ, Stt F.wd F.n H0 G0 σ H G os c γ → PostN F H0 G0 c' D (f γ) → D'.nx σ H) : PostN F H0 G0 c D' r := by
  cases r with
  | no => exact h
  | ex x => exact h
  | ok γ => exact fun σ H G os st => i σ H G os γ st h
theorem PostT.seqN {r : Rs (Ctx.T c)} {f : Ctx.T c → Rs ρ} (h : PostT F kr H0 G0 D (r.bind f)) (i : ∀ σ H G os γ, Stt F.wd F.n H0 G0 σ H G os c γ → PostT F kr H0 G0 D (f γ) → D'.nx σ H) : PostN F H0 G0 c D' r := by
  cases r with
  | no => exact h
  | ex x => exact h
  | ok γ => exact fun σ H G os st => i σ H G os γ st h
theorem PostG.seqN {r : Rs (Ctx.T c)} {f : Ctx.T c → Rs (Ctx.T c' ⊕ ρ)} (h : PostG F kr H0 G0 c' D (r.bind f)) (i : ∀ σ H G os γ, Stt F.wd F.n H0 G0 σ H G os c γ → PostG F kr H0 G0 c' D (f γ) → D'.nx σ H) : PostN F H0 G0 c D' r := by
  cases r with
  | no => exact h
  | ex x => exact h
  | ok γ => exact fun σ H G os st => i σ H G os γ st h
end
/-! ### blocks -/
section
variable {X : Cx} {F : Fx} {α ρ : Type} {k : Kd F.wd α} {kr : Kd F.wd ρ} {c c1 c' : Ctx} {st : Stmt} {rest sts : List Stmt}
theorem b_nil (s : Sub c c') : PSs X [] (tS F c c' fun γ => .ok (s.proj γ)) :=
  pss_mono pss_nil fun D σ H ⟨H0, G0, G, os, γ, st, p⟩ => by
    obtain ⟨os', _, q⟩ := st.sub s
    exact p σ H G os' q
theorem b_nilG (s : Sub c c') : PSs X [] (tG F kr c c' fun γ => .ok (.inl (s.proj γ))) :=
  pss_mono pss_nil fun D σ H ⟨H0, G0, G, os, γ, st, p⟩ => by
    obtain ⟨os', _, q⟩ := st.sub s
    exact p σ H G os' q
theorem b_cons {m1 : Ctx.T c → Rs (Ctx.T c1)} {m2 : Ctx.T c1 → Rs (Ctx.T c')} (h1 : PS X st (tS F c c1 m1)) (h2 : PSs X rest (tS F c1 c' m2)) : PSs X (st :: rest) (tS F c c' fun γ => (m1 γ).bind m2) :=
  pss_mono (pss_cons h1 h2) fun D σ H ⟨H0, G0, G, os, γ, s, p⟩ => ⟨H0, G0, G, os, γ, s, p.seqN fun σ H G os γ s2 p2 => ⟨H0, G0, G, os, γ, s2, p2⟩⟩
theorem b_consT {m1 : Ctx.T c → Rs (Ctx.T c1)} {m2 : Ctx.T c1 → Rs ρ} (h1 : PS X st (tS F c c1 m1)) (h2 : PSs X rest (tT F kr c1 m2)) : PSs X (st :: rest) (tT F kr c fun γ => (m1 γ).bind m2) :=
  pss_mono (pss_cons h1 h2) fun D σ H ⟨H0, G0, G, os, γ, s, p⟩ => ⟨H0, G0, G, os, γ, s, p.seqN fun σ H G os γ s2 p2 => ⟨H0, G0, G, os, γ, s2, p2⟩⟩
theorem b_consG {m1 : Ctx.T c → Rs (Ctx.T c1)} {m2 : Ctx.T c1 → Rs (Ctx.T c' ⊕ ρ)} (h1 : PS X st (tS F c c1 m1)) (h2 : PSs X rest (tG F kr c1 c' m2)) : PSs X (st :: rest) (tG F kr c c' fun γ => (m1 γ).bind m2) :=
  pss_mono (pss_cons h1 h2) fun D σ H ⟨H0, G0, G, os, γ, s, p⟩ => ⟨H0, G0, G, os, γ, s, p.seqN fun σ H G os γ s2 p2 => ⟨H0, G0, G, os, γ, s2, p2⟩⟩
/-- a statement that may return, then the rest -/
def Rs.left {γ ρ : Type} (r : Rs (γ ⊕ ρ)) (f : γ → Rs ρ) : Rs ρ := r.bind fun z => match z with | .inl g => f g | .inr x => .ok x
def Rs.leftG {γ δ ρ : Type} (r : Rs (γ ⊕ ρ)) (f : γ → Rs (δ ⊕ ρ)) : Rs (δ ⊕ ρ) := r.bind fun z => match z with | .inl g => f g | .inr x => .ok (.inr x)
theorem b_goT {m1 : Ctx.T c → Rs (Ctx.T c1 ⊕ ρ)} {m2 : Ctx.T c1 → Rs ρ} (h1 : PS X st (tG F kr c c1 m1)) (h2 : PSs X rest (tT F kr c1 m2)) : PSs X (st :: rest) (tT F kr c fun γ => (m1 γ).left m2) :=
  pss_mono (pss_cons h1 h2) fun D σ H ⟨H0, G0, G, os, γ, s, p⟩ => ⟨H0, G0, G, os, γ, s, by
    dsimp only [Rs.left] at p
    cases e : m1 γ with
    | no => rw [e] at p; exact p
    | ex x => rw [e] at p; exact p
    | ok z =>
      rw [e] at p
      cases z with
      | inl g => exact fun σ H G os s2 => ⟨H0, G0, G, os, g, s2, p⟩
      | inr x => exact p⟩
theorem b_goG {m1 : Ctx.T c → Rs (Ctx.T c1 ⊕ ρ)} {m2 : Ctx.T c1 → Rs (Ctx.T c' ⊕ ρ)} (h1 : PS X st (tG F kr c c1 m1)) (h2 : PSs X rest (tG F kr c1 c' m2)) : PSs X (st :: rest) (tG F kr c c' fun γ => (m1 γ).leftG m2) :=
  pss_mono (pss_cons h1 h2) fun D σ H ⟨H0, G0, G, os, γ, s, p⟩ => ⟨H0, G0, G, os, γ, s, by
    dsimp only [Rs.leftG] at p
    cases e : m1 γ with
    | no => rw [e] at p; exact p
    | ex x => rw [e] at p; exact p
    | ok z =>
      rw [e] at p
      cases z with
      | inl g => exact fun σ H G os s2 => ⟨H0, G0, G, os, g, s2, p⟩
      | inr x => exact p⟩
theorem b_subT {m : Ctx.T c1 → Rs ρ} (s : Sub c c1) (h : PSs X sts (tT F kr c1 m)) : PSs X sts (tT F kr c fun γ => m (s.proj γ)) :=
  pss_mono h fun D σ H ⟨H0, G0, G, os, γ, st, p⟩ => by
    obtain ⟨os', _, q⟩ := st.sub s
    exact ⟨H0, G0, G, os', _, q, p⟩
theorem b_subS {m : Ctx.T c1 → Rs (Ctx.T c')} (s : Sub c c1) (h : PSs X sts (tS F c1 c' m)) : PSs X sts (tS F c c' fun γ => m (s.proj γ)) :=
  pss_mono h fun D σ H ⟨H0, G0, G, os, γ, st, p⟩ => by
    obtain ⟨os', _, q⟩ := st.sub s
    exact ⟨H0, G0, G, os', _, q, p⟩
theorem b_subG {m : Ctx.T c1 → Rs (Ctx.T c' ⊕ ρ)} (s : Sub c c1) (h : PSs X sts (tG F kr c1 c' m)) : PSs X sts (tG F kr c c' fun γ => m (s.proj γ)) :=
  pss_mono h fun D σ H ⟨H0, G0, G, os, γ, st, p⟩ => by
    obtain ⟨os', _, q⟩ := st.sub s
    exact ⟨H0, G0, G, os', _, q, p⟩
theorem b_frzT {m : Ctx.T c1 → Rs ρ} (s : Frz c c1) (h : PSs X sts (tT F kr c1 m)) : PSs X sts (tT F kr c fun γ => m (s.proj γ)) :=
  pss_mono h fun D σ H ⟨H0, G0, G, os, γ, st, p⟩ => by
    obtain ⟨os', G', q⟩ := st.frz s
    exact ⟨H0, G0, G', os', _, q, p⟩
theorem b_frzS {m : Ctx.T c1 → Rs (Ctx.T c')} (s : Frz c c1) (h : PSs X sts (tS F c1 c' m)) : PSs X sts (tS F c c' fun γ => m (s.proj γ)) :=
  pss_mono h fun D σ H ⟨H0, G0, G, os, γ, st, p⟩ => by
    obtain ⟨os', G', q⟩ := st.frz s
    exact ⟨H0, G0, G', os', _, q, p⟩
theorem b_frzG {m : Ctx.T c1 → Rs (Ctx.T c' ⊕ ρ)} (s : Frz c c1) (h : PSs X sts (tG F kr c1 c' m)) : PSs X sts (tG F kr c c' fun γ => m (s.proj γ)) :=
  pss_mono h fun D σ H ⟨H0, G0, G, os, γ, st, p⟩ => by
    obtain ⟨os', G', q⟩ := st.frz s
    exact ⟨H0, G0, G', os', _, q, p⟩
/-- a terminal block as one that may return -/
theorem b_tg {m : Ctx.T c → Rs ρ} (h : PSs X sts (tT F kr c m)) : PSs X sts (tG F kr c c' fun γ => (m γ).bind fun x => .ok (.inr x)) :=
  pss_mono h fun D σ H ⟨H0, G0, G, os, γ, s, p⟩ => ⟨H0, G0, G, os, γ, s, by
    cases e : m γ with
    | no => dsimp only at p; rw [e] at p; exact p
    | ex x => dsimp only at p; rw [e] at p; exact p
    | ok z => dsimp only at p; rw [e] at p; exact p⟩
theorem b_sg {m : Ctx.T c → Rs (Ctx.T c')} (h : PSs X sts (tS F c c' m)) : PSs X sts (tG F kr c c' fun γ => (m γ).bind fun x => .ok (.inl x)) :=
  pss_mono h fun D σ H ⟨H0, G0, G, os, γ, s, p⟩ => ⟨H0, G0, G, os, γ, s, by
    cases e : m γ with
    | no => dsimp only at p; rw [e] at p; exact p
    | ex x => dsimp only at p; rw [e] at p; exact p
    | ok z => dsimp only at p; rw [e] at p; exact p⟩
/-! ### tests -/
def tQ (F : Fx) (c : Ctx) (m : Ctx.T c → Rs Bool) : TT := fun σ H Q => tX F kF c m σ H fun x H' => ∃ b, x = .bl b ∧ Q b H'
theorem q_val {e : Expr} {m : Ctx.T c → Rs Bool} (h : PE X e (tX F kF c m)) (he : ∀ whole, isTrue e X.env whole = (do let v ← whole; standAt e.pos; holding [v] (truthy v)) := by intro _; rfl) : PT X e (tQ F c m) := pt_mono (pt_val h he) fun _ _ _ q => q
theorem q_cmp {α β : Type} {k1 : Kd F.wd α} {k2 : Kd F.wd β} {a b : Expr} {ma : Ctx.T c → Rs α} {mb : Ctx.T c → Rs β} {pos : Pos} {r : R2} {f : α → β → Rs Bool} {op : CmpOp} (ho : OpR X (compareOp op) r) (hr : Sem2 k1 k2 kF r f) (ha : PE X a (tX F k1 c ma)) (hb : PE X b (tX F k2 c mb))
    (hm : behindInMarks op b = false := by first | exact nomark _ | rfl) : PT X (.Compare a [op] [b] pos) (tQ F c fun γ => (ma γ).bind fun x => (mb γ).bind fun y => f x y) :=
  pt_mono (pt_cmpR ho ha hb hm) fun σ H Q h => tX2 hr h
theorem q_not {a : Expr} {m : Ctx.T c → Rs Bool} {pos : Pos} (h : PT X a (tQ F c m)) : PT X (.UnaryOp .Not a pos) (tQ F c fun γ => (m γ).bind fun b => .ok (!b)) :=
  pt_mono (pt_not h) fun σ H Q ⟨H0, G0, G, os, γ, st, p⟩ => ⟨H0, G0, G, os, γ, st, p.step kF fun v H1 G1 b fr rb p1 => ⟨b, rb, by
    obtain ⟨b', e, q⟩ := p1 H1 G1 (.bl (!b)) (Fr.refl fr.gh) rfl
    cases e
    exact q⟩⟩
theorem q_and1 {a : Expr} {t : TT} {pos : Pos} (h : PT X a t) : PW X (.BoolOp .And [a] pos) t := pw_and1 h
theorem q_or1 {a : Expr} {t : TT} {pos : Pos} (h : PT X a t) : PW X (.BoolOp .Or [a] pos) t := pw_or1 h
theorem q_and {a b : Expr} {es : List Expr} {m1 m2 : Ctx.T c → Rs Bool} {pos : Pos} (h1 : PT X a (tQ F c m1)) (h2 : PW X (.BoolOp .And (b :: es) pos) (tQ F c m2)) : PW X (.BoolOp .And (a :: b :: es) pos) (tQ F c fun γ => (m1 γ).bind fun x => if x = true then m2 γ else .ok false) :=
  pw_mono (pw_and h1 h2) fun σ H Q ⟨H0, G0, G, os, γ, st, p⟩ => ⟨H0, G0, G, os, γ, st, p.step kF fun v H1 G1 b fr rb p1 => ⟨b, rb, by
    cases b with
    | true => exact ⟨H0, G0, G1, os, γ, st.ext fr, p1⟩
    | false =>
      obtain ⟨b', e, q⟩ := p1 H1 G1 (.bl false) (Fr.refl fr.gh) rfl
      cases e
      exact q⟩⟩
theorem q_or {a b : Expr} {es : List Expr} {m1 m2 : Ctx.T c → Rs Bool} {pos : Pos} (h1 : PT X a (tQ F c m1)) (h2 : PW X (.BoolOp .Or (b :: es) pos) (tQ F c m2)) : PW X (.BoolOp .Or (a :: b :: es) pos) (tQ F c fun γ => (m1 γ).bind fun x => if x = true then .ok true else m2 γ) :=
  pw_mono (pw_or h1 h2) fun σ H Q ⟨H0, G0, G, os, γ, st, p⟩ => ⟨H0, G0, G, os, γ, st, p.step kF fun v H1 G1 b fr rb p1 => ⟨b, rb, by
    cases b with
    | false => exact ⟨H0, G0, G1, os, γ, st.ext fr, p1⟩
    | true =>
      obtain ⟨b', e, q⟩ := p1 H1 G1 (.bl true) (Fr.refl fr.gh) rfl
      cases e
      exact q⟩⟩
/-- .. as values -/
theorem e_and {a b : Expr} {es : List Expr} {m1 m2 : Ctx.T c → Rs Bool} {pos : Pos} (h1 : PE X a (tX F kF c m1)) (h2 : PE X (.BoolOp .And (b :: es) pos) (tX F kF c m2)) : PE X (.BoolOp .And (a :: b :: es) pos) (tX F kF c fun γ => (m1 γ).bind fun x => if x = true then m2 γ else .ok false) :=
  pe_mono (pe_and h1 h2) fun σ H Q ⟨H0, G0, G, os, γ, st, p⟩ => ⟨H0, G0, G, os, γ, st, p.step kF fun v H1 G1 b fr rb p1 => ⟨b, rb, by
    cases b with
    | true => exact ⟨H0, G0, G1, os, γ, st.ext fr, p1⟩
    | false => exact p1 H1 G1 (.bl false) (Fr.refl fr.gh) rfl⟩⟩
theorem e_or {a b : Expr} {es : List Expr} {m1 m2 : Ctx.T c → Rs Bool} {pos : Pos} (h1 : PE X a (tX F kF c m1)) (h2 : PE X (.BoolOp .Or (b :: es) pos) (tX F kF c m2)) : PE X (.BoolOp .Or (a :: b :: es) pos) (tX F kF c fun γ => (m1 γ).bind fun x => if x = true then .ok true else m2 γ) :=
  pe_mono (pe_or h1 h2) fun σ H Q ⟨H0, G0, G, os, γ, st, p⟩ => ⟨H0, G0, G, os, γ, st, p.step kF fun v H1 G1 b fr rb p1 => ⟨b, rb, by
    cases b with
    | false => exact ⟨H0, G0, G1, os, γ, st.ext fr, p1⟩
    | true => exact p1 H1 G1 (.bl true) (Fr.refl fr.gh) rfl⟩⟩
theorem e_one {op} {a : Expr} {pos : Pos} {t : TE} (h : PE X a t) : PE X (.BoolOp op [a] pos) t := pe_one h
theorem e_not {a : Expr} {m : Ctx.T c → Rs Bool} {pos : Pos} (h : PE X a (tX F kF c m)) : PE X (.UnaryOp .Not a pos) (tX F kF c fun γ => (m γ).bind fun b => .ok (!b)) :=
  pe_mono (pe_not h) fun σ H Q ⟨H0, G0, G, os, γ, st, p⟩ => ⟨H0, G0, G, os, γ, st, p.step kF fun v H1 G1 b fr rb p1 => ⟨b, rb, p1 H1 G1 (.bl (!b)) (Fr.refl fr.gh) rfl⟩⟩
theorem e_if {t a b : Expr} {mt : Ctx.T c → Rs Bool} {m1 m2 : Ctx.T c → Rs α} {pos : Pos} (ht : PT X t (tQ F c mt)) (ha : PE X a (tX F k c m1)) (hb : PE X b (tX F k c m2)) : PE X (.IfExp t a b pos) (tX F k c fun γ => (mt γ).bind fun x => if x = true then m1 γ else m2 γ) :=
  pe_mono (pe_ifExp ht ha hb) fun σ H Q ⟨H0, G0, G, os, γ, st, p⟩ => ⟨H0, G0, G, os, γ, st, p.step kF fun v H1 G1 b fr rb p1 => ⟨b, rb, by
    cases b with
    | false => exact ⟨H0, G0, G1, os, γ, st.ext fr, p1⟩
    | true => exact ⟨H0, G0, G1, os, γ, st.ext fr, p1⟩⟩⟩
/-! ### small statements -/
theorem t_ret {e : Expr} {m : Ctx.T c → Rs ρ} {pos : Pos} (h : PE X e (tX F kr c m)) : PSs X [.Return (some e) pos] (tT F kr c m) :=
  pss_mono (pss_one (ps_ret h)) fun D σ H ⟨H0, G0, G, os, γ, st, p⟩ => ⟨H0, G0, G, os, γ, st, by
    cases e : m γ with
    | no => rw [e] at p; exact p
    | ex x => rw [e] at p; exact fun d H2 G2 q z => p d σ H2 G2 st.len (st.f.trans q) z
    | ok z => rw [e] at p; exact fun H2 G2 v f q => p H2 G2 v (st.f.trans f) (kr.back st.f.h q)⟩
/-- return of an owned name -/
theorem t_retW {β : Type} [Own β] {i : Nat} {pos pos' : Pos} (v : Var c (.ow i β)) {x : Str} (hN : X.N[i]? = some x := by rfl) (hv : Vis X.env.scope x := by first | exact Or.inl rfl | exact Or.inr (Or.inl rfl) | exact Or.inr (Or.inr rfl))
    (hd : (x == ("__debug__" : Str)) = false := by decide) (hcd : (x == ("__classdict__" : Str)) = false := by decide) : PSs X [.Return (some (.Name x pos')) pos] (tT F kO c fun γ => .ok (v.get γ)) :=
  pss_mono (pss_one (ps_ret (pe_var hN hv hd hcd))) fun D σ H ⟨H0, G0, G, os, γ, st, p⟩ => by
    obtain ⟨q, o, h0, h1, h2, h3⟩ := v.ow st.r
    exact ⟨.ref q, h1, p H G _ st.f ⟨q, o, rfl, (st.fr q h0).2, (st.fr q h0).1, h2, h3⟩⟩
theorem s_if {t : Expr} {a b : List Stmt} {mt : Ctx.T c → Rs Bool} {m1 m2 : Ctx.T c → Rs (Ctx.T c')} {pos : Pos} (ht : PT X t (tQ F c mt)) (ha : PSs X a (tS F c c' m1)) (hb : PSs X b (tS F c c' m2)) : PS X (.If t a b pos) (tS F c c' fun γ => (mt γ).bind fun x => if x = true then m1 γ else m2 γ) :=
  ps_mono (ps_if ht ha hb) fun D σ H ⟨H0, G0, G, os, γ, st, p⟩ => ⟨H0, G0, G, os, γ, st, p.step st kF fun v H1 G1 b fr rb p1 => ⟨b, rb, by
    cases b with
    | false => exact ⟨H0, G0, G1, os, γ, st.ext fr, p1⟩
    | true => exact ⟨H0, G0, G1, os, γ, st.ext fr, p1⟩⟩⟩
theorem s_ifG {t : Expr} {a b : List Stmt} {mt : Ctx.T c → Rs Bool} {m1 m2 : Ctx.T c → Rs (Ctx.T c' ⊕ ρ)} {pos : Pos} (ht : PT X t (tQ F c mt)) (ha : PSs X a (tG F kr c c' m1)) (hb : PSs X b (tG F kr c c' m2)) : PS X (.If t a b pos) (tG F kr c c' fun γ => (mt γ).bind fun x => if x = true then m1 γ else m2 γ) :=
  ps_mono (ps_if ht ha hb) fun D σ H ⟨H0, G0, G, os, γ, st, p⟩ => ⟨H0, G0, G, os, γ, st, p.step st kF fun v H1 G1 b fr rb p1 => ⟨b, rb, by
    cases b with
    | false => exact ⟨H0, G0, G1, os, γ, st.ext fr, p1⟩
    | true => exact ⟨H0, G0, G1, os, γ, st.ext fr, p1⟩⟩⟩
/-- if t: A (which returns); the rest -/
theorem b_ifT {t : Expr} {a : List Stmt} {mt : Ctx.T c → Rs Bool} {m1 m2 : Ctx.T c → Rs ρ} {pos : Pos} (ht : PT X t (tQ F c mt)) (ha : PSs X a (tT F kr c m1)) (hb : PSs X rest (tT F kr c m2)) : PSs X (.If t a [] pos :: rest) (tT F kr c fun γ => (mt γ).bind fun x => if x = true then m1 γ else m2 γ) :=
  pss_mono (pss_cons (ps_if ht ha pss_nil) hb) fun D σ H ⟨H0, G0, G, os, γ, st, p⟩ => ⟨H0, G0, G, os, γ, st, p.step st kF fun v H1 G1 b fr rb p1 => ⟨b, rb, by
    cases b with
    | false => exact ⟨H0, G0, G1, os, γ, st.ext fr, p1⟩
    | true =>
      refine ⟨H0, G0, G1, os, γ, st.ext fr, ?_⟩
      cases e : m1 γ with
      | no => rw [if_pos rfl, e] at p1; exact p1
      | ex x => rw [if_pos rfl, e] at p1; exact p1
      | ok z => rw [if_pos rfl, e] at p1; exact p1⟩⟩
theorem b_ifG {t : Expr} {a : List Stmt} {mt : Ctx.T c → Rs Bool} {m1 : Ctx.T c → Rs ρ} {m2 : Ctx.T c → Rs (Ctx.T c' ⊕ ρ)} {pos : Pos} (ht : PT X t (tQ F c mt)) (ha : PSs X a (tT F kr c m1)) (hb : PSs X rest (tG F kr c c' m2)) :
    PSs X (.If t a [] pos :: rest) (tG F kr c c' fun γ => (mt γ).bind fun x => if x = true then (m1 γ).bind fun z => .ok (.inr z) else m2 γ) :=
  pss_mono (pss_cons (ps_if ht ha pss_nil) hb) fun D σ H ⟨H0, G0, G, os, γ, st, p⟩ => ⟨H0, G0, G, os, γ, st, p.step st kF fun v H1 G1 b fr rb p1 => ⟨b, rb, by
    cases b with
    | false => exact ⟨H0, G0, G1, os, γ, st.ext fr, p1⟩
    | true =>
      refine ⟨H0, G0, G1, os, γ, st.ext fr, ?_⟩
      rw [if_pos rfl] at p1
      cases e : m1 γ with
      | no => rw [e] at p1; exact p1
      | ex x => rw [e] at p1; exact p1
      | ok z => rw [e] at p1; exact p1⟩⟩
/-- if t: A else: B, both return -/
theorem b_ifTT {t : Expr} {a b : List Stmt} {mt : Ctx.T c → Rs Bool} {m1 m2 : Ctx.T c → Rs ρ} {pos : Pos} (ht : PT X t (tQ F c mt)) (ha : PSs X a (tT F kr c m1)) (hb : PSs X b (tT F kr c m2)) : PSs X [.If t a b pos] (tT F kr c fun γ => (mt γ).bind fun x => if x = true then m1 γ else m2 γ) :=
  pss_mono (pss_one (ps_if ht ha hb)) fun D σ H ⟨H0, G0, G, os, γ, st, p⟩ => ⟨H0, G0, G, os, γ, st, p.step st kF fun v H1 G1 b fr rb p1 => ⟨b, rb, by
    cases b with
    | false => exact ⟨H0, G0, G1, os, γ, st.ext fr, p1⟩
    | true => exact ⟨H0, G0, G1, os, γ, st.ext fr, p1⟩⟩⟩
/-! ### stores -/
/-- a name is stored: it comes ahead of the others -/
theorem R.push {wd : Wd} {H0 G0 H G : Hp} {σ : L2.St} {n : Sl} {α : Type} [Rep α] {j : Nat} {x : V} {a : α} {os : List Addr} {γ : Ctx.T c'} (st : Stt wd n H0 G0 σ H G os c' γ) (hj : n.lt j) (hn : Ctx.not j c' = true) (w : rep wd G x a) :
    Stt wd n H0 G0 (σ.set j (some x)) H G os (.fz j α :: c') (a, γ) :=
  ⟨st.len.set hj, st.f, st.nd, st.fr, ⟨x, List.getElem?_set_self (by rw [st.len.1]; exact hj.1), w⟩, st.r.set hn⟩
theorem R.pushO {wd : Wd} {H0 G0 H G : Hp} {σ : L2.St} {n : Sl} {β : Type} [Own β] {j : Nat} {p : Addr} {o : HO} {b : β} {os : List Addr} {γ : Ctx.T c'} (st : Stt wd n H0 G0 σ H G os c' γ) (hj : n.lt j) (hn : Ctx.not j c' = true) (hp : p ∉ os) (h0 : H0 p = none) (g : G p = none) (h : H p = some o) (w : own wd G o b) :
    Stt wd n H0 G0 (σ.set j (some (.ref p))) H G (p :: os) (.ow j β :: c') (b, γ) :=
  ⟨st.len.set hj, st.f, List.nodup_cons.mpr ⟨hp, st.nd⟩, fun q hq => by
    rcases List.mem_cons.mp hq with e | e
    · rw [e]; exact ⟨g, h0⟩
    · exact st.fr q e, p, o, os, rfl, List.getElem?_set_self (by rw [st.len.1]; exact hj.1), h, w, st.r.set hn⟩
theorem s_setT [Rep α] {st : Stmt} {te : TE} {m : Ctx.T c → Rs α} {j : Nat} (h : PS X st (tAsg te (gName j))) (he : ∀ σ H Q, tX F kF c m σ H Q → te σ H Q) (s : Sub c c') (hj : F.n.lt j) (hn : Ctx.not j c' = true) : PS X st (tS F c (.fz j α :: c') fun γ => (m γ).bind fun a => .ok (a, s.proj γ)) :=
  ps_mono h fun D σ H ⟨H0, G0, G, os, γ, st, p⟩ => he _ _ _ ⟨H0, G0, G, os, γ, st, p.step st kF fun v H1 G1 a fr ra p1 => by
    obtain ⟨os', _, q⟩ := (st.ext fr).sub s
    exact p1 _ _ _ _ (R.push q hj hn ra)⟩
theorem s_setTO {β : Type} [Own β] {st : Stmt} {te : TE} {m : Ctx.T c → Rs β} {j : Nat} (h : PS X st (tAsg te (gName j))) (he : ∀ σ H Q, tX F kO c m σ H Q → te σ H Q) (s : Sub c c') (hj : F.n.lt j) (hn : Ctx.not j c' = true) : PS X st (tS F c (.ow j β :: c') fun γ => (m γ).bind fun a => .ok (a, s.proj γ)) :=
  ps_mono h fun D σ H ⟨H0, G0, G, os, γ, st, p⟩ => he _ _ _ ⟨H0, G0, G, os, γ, st, p.step st kO fun v H1 G1 a fr ⟨q, o, ev, n, g, hq, w⟩ p1 => by
    obtain ⟨os', hs, st'⟩ := (st.ext fr).sub s
    subst ev
    refine p1 _ _ _ _ (R.pushO st' hj hn (fun z => ?_) (st.f.h.free n) g hq w)
    obtain ⟨o2, h2⟩ := st.r.there q (hs.subset z)
    rw [n] at h2
    cases h2⟩
/-- a name of the same kind is stored anew, in its place -/
theorem s_updT [Rep α] {st : Stmt} {te : TE} {m : Ctx.T c → Rs α} {j : Nat} (h : PS X st (tAsg te (gName j))) (he : ∀ σ H Q, tX F kF c m σ H Q → te σ H Q) (v : Var c (.fz j α)) (hj : F.n.lt j) (hn : (c.map Ent.slot).Nodup) : PS X st (tS F c c fun γ => (m γ).bind fun a => .ok (v.put γ a)) :=
  ps_mono h fun D σ H ⟨H0, G0, G, os, γ, st, p⟩ => he _ _ _ ⟨H0, G0, G, os, γ, st, p.step st kF fun x H1 G1 a fr ra p1 => by
    have q := st.ext fr
    exact p1 _ _ _ _ ⟨q.len.set hj, q.f, q.nd, q.fr, v.restore hn ra (by rw [q.len.1]; exact hj.1) q.r⟩⟩
end
end Wm
set_option Elab.async false
set_option linter.all false
set_option maxRecDepth 100000
set_option maxHeartbeats 4000000
namespace Wm
open PySem PySem.Spec PyProof.Rows L2
open Rep (rep)
open Own (own)
/-! ### what is walked -/
/-- from any heap that holds B the iterator J walks xs -/
structure Wk (wd : Wd) (J : It) (B : Hp) (G1 : Hp) {α : Type} [Rep α] (xs : List α) : Prop where
  stop : ∀ i H, Same B H → xs.length ≤ i → J.stop i H
  go : ∀ i H a, Same B H → xs[i]? = some a → J.go i H
  yld : ∀ i H G x H' a, Same B H → Same G1 G → Same G H → xs[i]? = some a → J.yld i H x H' → ∃ G', Fr H G H' G' ∧ rep wd G' x a
/-- the base: the frozen part (g), the whole heap as the walk begins (h), the heap at the def's entry (z) -/
inductive Bs where
  | g | h | z
@[reducible] def Bs.at (b : Bs) (G H H0 : Hp) : Hp := match b with
  | .g => G
  | .h => H
  | .z => H0
def tI (F : Fx) (fr : Bs) {α : Type} [Rep α] (c : Ctx) (m : Ctx.T c → Rs (List α)) : TI := fun σ H Rr => ∃ H0 G0 G os γ, Stt F.wd F.n H0 G0 σ H G os c γ ∧
  match m γ with
  | .ok xs => ∀ H' G' J, Fr H G H' G' → Wk F.wd J (fr.at G' H' H0) G' xs → Rr J H'
  | .ex x => ∀ d H' G', Fr H G H' G' → RepX G' d x → F.W (.ref (F.wd.cm x.cls)) d σ H'
  | .no => False
theorem pi_mono {X : Cx} {tg it : Expr} {t t' : TI} (h : PI X tg it t) (i : ∀ σ H Q, t' σ H Q → t σ H Q) : PI X tg it t' := ⟨fun pins s σ H Q I q => h.run pins s σ H Q I (i σ H Q q)⟩
section
variable {X : Cx} {F : Fx} {c : Ctx} {α β : Type} {tg e : Expr}
theorem tI_of [Rep α] {β : Type} {fr : Bs} {k : Kd F.wd β} {m : Ctx.T c → Rs β} {f : β → Rs (List α)} {σ : L2.St} {H : Hp} {Rr : It → Hp → Prop} {Q : VK} (h : tI F fr c (fun γ => (m γ).bind f) σ H Rr)
    (i : ∀ v H0 H1 G1 b, Same H0 H1 → Same G1 H1 → k.rel H H1 G1 v b → (match f b with | .ok xs => ∀ J, Wk F.wd J (fr.at G1 H1 H0) G1 xs → Rr J H1 | .ex _ => True | .no => False) → Q v H1) (nx : ∀ b x, f b ≠ .ex x) : tX F k c m σ H Q := by
  obtain ⟨H0, G0, G, os, γ, st, p⟩ := h
  refine ⟨H0, G0, G, os, γ, st, ?_⟩
  dsimp only at p
  cases e : m γ with
  | no => rw [e] at p; exact p
  | ex x => rw [e] at p; exact p
  | ok b =>
    rw [e] at p
    refine fun H1 G1 v f1 r => i v H0 H1 G1 b (st.f.h.trans f1.h) f1.gh r ?_
    have p' : match f b with | .ok xs => ∀ H' G' J, Fr H G H' G' → Wk F.wd J (fr.at G' H' H0) G' xs → Rr J H' | .ex x => ∀ d H' G', Fr H G H' G' → RepX G' d x → F.W (.ref (F.wd.cm x.cls)) d σ H' | .no => False := p
    cases e2 : f b with
    | no => rw [e2] at p'; exact p'
    | ex x => exact trivial
    | ok xs =>
      rw [e2] at p'
      exact fun J w => p' H1 G1 J f1 w
theorem wk_list {K : PySem.W.Frag} {wd : Wd} (hK : wd.K = K) [Rep α] {p : Addr} {vs : List V} {B G1 : Hp} {xs : List α} (hp : B p = some (.lst vs)) (r : reps wd G1 vs xs) : Wk wd (Itl K p) B G1 xs where
  stop := fun i H s hi => ⟨vs, .of (s _ _ hp), by rw [r.len]; exact hi⟩
  go := fun i H a s ha => by
    obtain ⟨v, hv, _⟩ := r.get ha
    exact ⟨vs, v, .of (s _ _ hp), hv⟩
  yld := fun i H G x H' a s g gh ha ⟨e, y⟩ => by
    subst e
    obtain ⟨v, hv, hr⟩ := r.get ha
    have := y vs (.of (s _ _ hp))
    rw [hv] at this
    cases this
    exact ⟨G, Fr.refl gh, Rep.mono g hr⟩
/-- a frozen list; any list that is only read meanwhile -/
theorem i_list [Rep α] {m : Ctx.T c → Rs (List α)} (hK : F.wd.K = X.K) (h : PE X e (tX F kF c m)) : PI X tg e (tI F .g c fun γ => (m γ).bind .ok) :=
  pi_mono (pi_list h) fun σ H Rr q => tI_of q (fun v H0 H1 G1 b h0 gh ⟨p, o, e1, e2, vs, e3, e4, e5⟩ w => by
    subst e3
    exact ⟨p, e1, ⟨vs, .of (gh _ _ e2)⟩, w _ (wk_list hK e2 e5)⟩) fun _ _ z => nomatch z
theorem i_listB [Rep α] {m : Ctx.T c → Rs (List α)} (hK : F.wd.K = X.K) (h : PE X e (tX F kB c m)) : PI X tg e (tI F .h c fun γ => (m γ).bind .ok) :=
  pi_mono (pi_list h) fun σ H Rr q => tI_of q (fun v H0 H1 G1 b h0 gh ⟨p, o, e1, e2, vs, e3, e4, e5⟩ w => by
    subst e3
    exact ⟨p, e1, ⟨vs, .of e2⟩, w _ (wk_list hK e2 e5)⟩) fun _ _ z => nomatch z
theorem i_bo [Rep α] {i : Nat} (v : Var c (.bo i (List α))) {x : Str} {pos : Pos} (hK : F.wd.K = X.K) (hN : X.N[i]? = some x := by rfl) (hv : Vis X.env.scope x := by first | exact Or.inl rfl | exact Or.inr (Or.inl rfl) | exact Or.inr (Or.inr rfl))
    (hd : (x == ("__debug__" : Str)) = false := by decide) (hcd : (x == ("__classdict__" : Str)) = false := by decide) : PI X tg (.Name x pos) (tI F .z c fun γ => .ok (v.get γ)) :=
  pi_mono (pi_list (pe_var hN hv hd hcd)) fun σ H Rr ⟨H0, G0, G, os, γ, st, p⟩ => by
    obtain ⟨q, o, h1, h2, vs, e3, e4, r⟩ := v.bo st.r
    subst e3
    exact ⟨.ref q, h1, q, rfl, ⟨vs, .of (st.f.h _ _ h2)⟩, p H G _ (Fr.refl st.f.gh) (wk_list hK h2 r)⟩
theorem i_tup [Rep α] {fr : Bs} {m : Ctx.T c → Rs (Tup α)} (hfr : fr = .g ∨ fr = .h) (hK : F.wd.K = X.K) (h : PE X e (tX F kF c m)) : PI X tg e (tI F fr c fun γ => (m γ).bind fun t => .ok t.items) :=
  pi_mono (pi_tup h) fun σ H Rr q => tI_of q (fun v H0 H1 G1 b h0 gh ⟨p, o, e1, e2, vs, e3, e4, r⟩ w => by
    subst e3
    refine ⟨p, e1, ⟨vs, .of (gh _ _ e2)⟩, w _ ?_⟩
    have hp : ∀ H, Same (fr.at G1 H1 H0) H → H p = some (.tup vs) := fun H s => by
      cases hfr with
      | inl q => subst q; exact s _ _ e2
      | inr q => subst q; exact s _ _ (gh _ _ e2)
    exact {
      stop := fun i H s hi => ⟨vs, .of (hp H s), by rw [r.len]; exact hi⟩
      go := fun i H a s ha => by
        obtain ⟨v, hv, _⟩ := r.get ha
        exact ⟨vs, v, .of (hp H s), hv⟩
      yld := fun i H G x H' a s g gh ha ⟨e, y⟩ => by
        subst e
        obtain ⟨v, hv, hr⟩ := r.get ha
        have := y vs (.of (hp _ s))
        rw [hv] at this
        cases this
        exact ⟨G, Fr.refl gh, Rep.mono g hr⟩ }) fun _ _ z => nomatch z
def rng (lo hi : Int) : List Int := (List.range (hi - lo).toNat).map fun (i : Nat) => lo + (i : Int)
theorem rng_len (lo hi : Int) : (rng lo hi).length = (hi - lo).toNat := by unfold rng; rw [List.length_map, List.length_range]
theorem rng_get {lo hi : Int} {i : Nat} {a : Int} (h : (rng lo hi)[i]? = some a) : i < (hi - lo).toNat ∧ a = lo + i := by
  unfold rng at h
  rw [List.getElem?_map] at h
  by_cases hi' : i < (hi - lo).toNat
  · rw [List.getElem?_range hi'] at h
    exact ⟨hi', (Option.some.inj h).symm⟩
  · rw [List.getElem?_eq_none (by rw [List.length_range]; omega)] at h
    cases h
/-- range's bounds; ok: also as a list -/
def Rng (lo hi : Int) : Rs (List Int) := if -4611686018427387904 ≤ lo ∧ lo ≤ 4611686018427387903 ∧ -4611686018427387904 ≤ hi ∧ hi ≤ 4611686018427387903 then .ok (rng lo hi) else .no
theorem wk_rng {wd : Wd} {lo hi : Int} {B G1 : Hp} : Wk wd (Itr lo (hi - lo).toNat) B G1 (rng lo hi) where
  stop := fun i H s h => by rw [rng_len] at h; exact h
  go := fun i H a s h => (rng_get h).1
  yld := fun i H G x H' a s g gh h ⟨e, y⟩ => by
    subst e
    exact ⟨G, Fr.refl gh, by rw [y, (rng_get h).2]; rfl⟩
theorem i_rng1 {fr : Bs} {m : Ctx.T c → Rs Int} {p pos : Pos} (hg : Gl X "range") (hm : X.mg "range" = none) (h : PE X e (tX F kF c m)) (he : starEach (e :: []) X.env = (false, eval e X.env) :: starEach [] X.env := by rfl) (hs : starEach [e] X.env = [(false, eval e X.env)] := by rfl) :
    PI X tg (.Call (.Name "range" p) [e] [] pos) (tI F fr c fun γ => (m γ).bind fun n => Rng 0 n) :=
  pi_mono (pi_range1 hg hm (pa_cons h pa_nil he) hs) fun σ H Rr q => tI_of (k := kF) q (fun v H0 H1 G1 b h0 gh r w => by
    unfold Rng at w
    by_cases hb : -4611686018427387904 ≤ (0 : Int) ∧ (0 : Int) ≤ 4611686018427387903 ∧ -4611686018427387904 ≤ b ∧ b ≤ 4611686018427387903
    · rw [if_pos hb] at w
      refine ⟨b, by rw [show v = V.int b from r], by omega, by omega, ?_⟩
      have := w _ (wk_rng (wd := F.wd) (lo := 0) (hi := b))
      rwa [Int.sub_zero] at this
    · rw [if_neg hb] at w
      exact w.elim) fun b x => by unfold Rng; split <;> exact fun z => nomatch z
theorem i_rng2 {fr : Bs} {e2 : Expr} {m m2 : Ctx.T c → Rs Int} {p pos : Pos} (hg : Gl X "range") (hm : X.mg "range" = none) (h : PE X e (tX F kF c m)) (h2 : PE X e2 (tX F kF c m2)) (he : starEach (e :: e2 :: []) X.env = (false, eval e X.env) :: starEach (e2 :: []) X.env := by rfl) (he2 : starEach (e2 :: []) X.env = (false, eval e2 X.env) :: starEach [] X.env := by rfl) (hs : starEach [e, e2] X.env = [(false, eval e X.env), (false, eval e2 X.env)] := by rfl) (hs2 : starEach [e2] X.env = [(false, eval e2 X.env)] := by rfl) :
    PI X tg (.Call (.Name "range" p) [e, e2] [] pos) (tI F fr c fun γ => (m γ).bind fun a => (m2 γ).bind fun b => Rng a b) :=
  pi_mono (pi_range2 hg hm (pa_cons h (pa_cons h2 pa_nil he2) he) hs hs2) fun σ H Rr q => by
    obtain ⟨H0, G0, G, os, γ, st, p⟩ := q
    refine ⟨H0, G0, G, os, γ, st, ?_⟩
    dsimp only at p
    cases e1 : m γ with
    | no => rw [e1] at p; exact p
    | ex x => rw [e1] at p; exact p
    | ok a =>
      rw [e1] at p
      refine fun H1 G1 v f1 r => ⟨H0, G0, G1, os, γ, st.ext f1, ?_⟩
      cases e2 : m2 γ with
      | no => rw [e2] at p; exact p
      | ex x =>
        rw [e2] at p
        exact fun d H2 G2 s z => p d H2 G2 (f1.trans s) z
      | ok b =>
        simp only [e2] at p
        dsimp only [Rs.bind] at p
        refine fun H2 G2 w f2 r2 => ⟨a, b, by rw [show v = V.int a from r, show w = V.int b from r2], ?_⟩
        unfold Rng at p
        by_cases hb : -4611686018427387904 ≤ a ∧ a ≤ 4611686018427387903 ∧ -4611686018427387904 ≤ b ∧ b ≤ 4611686018427387903
        · rw [if_pos hb] at p
          exact ⟨⟨by omega, by omega, by omega, by omega⟩, p H2 G2 _ (f1.trans f2) wk_rng⟩
        · rw [if_neg hb] at p
          exact p.elim
/-- enumerate of a frozen list -/
def enumI {α : Type} (xs : List α) : List (Int × α) := (xs.zipIdx 0).map fun p => ((p.2 : Int), p.1)
theorem enumI_get {α : Type} {xs : List α} {i : Nat} {q : Int × α} : (enumI xs)[i]? = some q ↔ q.1 = (i : Int) ∧ xs[i]? = some q.2 := by
  unfold enumI
  rw [List.getElem?_map, List.getElem?_zipIdx]
  cases e : xs[i]? with
  | none => simp
  | some x =>
    simp only [Option.map_some, Nat.zero_add, Option.some.injEq]
    constructor
    · intro h; rw [← h]; exact ⟨rfl, rfl⟩
    · intro h; obtain ⟨h1, h2⟩ := h; obtain ⟨q1, q2⟩ := q; simp only at h1 h2; rw [h1, h2]
theorem enumI_len {α : Type} (xs : List α) : (enumI xs).length = xs.length := by unfold enumI; rw [List.length_map, List.length_zipIdx]
theorem i_enum [Rep α] {m : Ctx.T c → Rs (List α)} {p pos tpos : Pos} {elts : List Expr} {kk : Nat} (hK : F.wd.K = X.K) (hg : Gl X "enumerate") (hm : X.mg "enumerate" = none) (h : PE X e (tX F kF c m)) (he : starEach (e :: []) X.env = (false, eval e X.env) :: starEach [] X.env := by rfl) (hs : starEach [e] X.env = [(false, eval e X.env)] := by rfl) :
    PI X (.Tuple elts kk tpos) (.Call (.Name "enumerate" p) [e] [] pos) (tI F .g c fun γ => (m γ).bind fun xs => .ok (enumI xs)) :=
  pi_mono (pi_enum hg hm (pa_cons h pa_nil he) hs) fun σ H Rr q => tI_of (k := kF) q (fun v H0 H1 G1 b h0 gh ⟨p, o, e1, e2, vs, e3, e4, r⟩ w => by
    subst e3
    refine ⟨p, vs, by rw [e1], .of (gh _ _ e2), w _ ?_⟩
    exact {
      stop := fun i H s hi => ⟨vs, .of (s _ _ e2), by rw [r.len]; rw [enumI_len] at hi; exact hi⟩
      go := fun i H a s ha => by
        obtain ⟨v, hv, _⟩ := r.get (enumI_get.mp ha).2
        exact ⟨vs, v, .of (s _ _ e2), hv⟩
      yld := fun i H G x H' a s g gh ha ⟨T, y, ex, nT, eH, hy⟩ => by
        subst eH
        obtain ⟨a1, a2⟩ := enumI_get.mp ha
        obtain ⟨v, hv, hr⟩ := r.get a2
        obtain rfl : v = y := Option.some.inj (hv.symm.trans (hy vs (.of (s _ _ e2))))
        refine ⟨upd G T _, (Fr.alloc gh nT).freeze nT ?_ upd_same, T, _, ex, upd_same, .int (i : Nat), v, rfl, by rw [a1]; rfl, ?_⟩
        · cases e : G T with
          | none => rfl
          | some o => rw [gh _ _ e] at nT; cases nT
        · refine Rep.mono (Same.upd' g ?_) hr
          cases e : G1 T with
          | none => rfl
          | some o => rw [gh _ _ (g _ _ e)] at nT; cases nT }) fun _ _ z => nomatch z
def chars (x : Str) : List Str := x.cps.toList.map fun c => ⟨#[c]⟩
theorem SOk.one {c : Nat} (h : c < 1114112) : SOk ⟨#[c]⟩ := ⟨by show 1 ≤ 16777216; decide, fun d hd => by
  have : d = c := by simpa using hd
  rw [this]; exact h⟩
theorem i_str {fr : Bs} {m : Ctx.T c → Rs Str} (h : PE X e (tX F kF c m)) : PI X tg e (tI F fr c fun γ => (m γ).bind fun x => .ok (chars x)) :=
  pi_mono (pi_str h) fun σ H Rr q => tI_of (k := kF) q (fun v H0 H1 G1 b h0 gh r w => ⟨b, r.1, w _ {
      stop := fun i H s hi => by
        unfold chars at hi
        rw [List.length_map, Array.length_toList] at hi
        exact hi
      go := fun i H a s ha => by
        have : i < (chars b).length := (List.getElem?_eq_some_iff.mp ha).1
        unfold chars at this
        rw [List.length_map, Array.length_toList] at this
        exact this
      yld := fun i H G x H' a s g gh ha ⟨eH, ch, hc, ex⟩ => by
        subst eH
        refine ⟨G, Fr.refl gh, ?_⟩
        unfold chars at ha
        rw [List.getElem?_map, Array.getElem?_toList, hc] at ha
        rw [ex, ← Option.some.inj ha]
        refine ⟨rfl, SOk.one (r.2.2 ch ?_)⟩
        rw [← Array.getElem?_toList] at hc
        exact List.mem_of_getElem? hc }⟩) fun _ _ z => nomatch z
end
/-! ### targets -/
def TgtOk (F : Fx) (g : TG) {α : Type} [Rep α] (c c1 : Ctx) (push : α → Ctx.T c → Ctx.T c1) : Prop :=
  ∀ {H0 G0 : Hp} {σ : L2.St} {H G : Hp} {os : List Addr} {γ : Ctx.T c} {v : V} {a : α} {Q : L2.St → Hp → Prop}, Stt F.wd F.n H0 G0 σ H G os c γ → rep F.wd G v a → (∀ σ', Stt F.wd F.n H0 G0 σ' H G os c1 (push a γ) → Q σ' H) → g v σ H Q
section
variable {X : Cx} {F : Fx} {c c1 : Ctx} {α β ρ : Type}
theorem g_name [Rep α] {j : Nat} (hj : F.n.lt j) (hn : Ctx.not j c = true) : TgtOk F (gName j) (α := α) c (.fz j α :: c) fun a γ => (a, γ) := fun st r q => q _ (R.push st hj hn r)
theorem g_pair [Rep α] [Rep β] {i j : Nat} {K : PySem.W.Frag} (hi : F.n.lt i) (hj : F.n.lt j) (hn : Ctx.not i c = true) (hm : Ctx.not j (.fz i α :: c) = true) :
    TgtOk F (gTup K 2 (gCons (gName i) (gCons (gName j) gNil))) (α := α × β) c (.fz j β :: .fz i α :: c) fun a γ => (a.2, a.1, γ) := fun {H0 G0 σ H G os γ v a Q} st r q => by
  obtain ⟨p, o, e1, e2, v1, v2, e3, r1, r2⟩ := r
  subst e3
  exact ⟨p, [v1, v2], e1, .of (st.f.gh _ _ e2), rfl, v1, [v2], rfl, v2, [], rfl, rfl, q _ (R.push (R.push st hi hn r1) hj hm r2)⟩
/-! ### for -/
theorem for_any {J : It} {g : TG} {tb : TS} {D : Ends} {σ : L2.St} {H : Hp} {n : Nat} (Pv : Nat → L2.St → Hp → Prop) (h0 : Pv 0 σ H)
    (hs : ∀ i σ H, i < n → Pv i σ H → J.go i H ∧ ∀ x H', J.yld i H x H' → g x σ H' fun σ2 H2 => tb { D with nx := Pv (i + 1), ct := Pv (i + 1), bk := D.nx } σ2 H2) (hd : ∀ σ H, Pv n σ H → J.stop n H ∧ D.nx σ H) :
    ∃ W : Nat → Nat → L2.St → Hp → Prop, (∃ m, W 0 m σ H) ∧ ∀ i m σ H, W i m σ H →
      (J.stop i H ∧ D.nx σ H) ∨ (J.go i H ∧ ∃ N : L2.St → Hp → Prop, (∀ σ' H', N σ' H' → ∃ m', m' < m ∧ W (i + 1) m' σ' H') ∧ ∀ x H', J.yld i H x H' → g x σ H' fun σ2 H2 => tb { D with nx := N, ct := N, bk := D.nx } σ2 H2) := by
  refine ⟨fun i m σ H => m = n - i ∧ i ≤ n ∧ Pv i σ H, ⟨n, by simp, Nat.zero_le _, h0⟩, ?_⟩
  rintro i m σ H ⟨rfl, hi, p⟩
  by_cases hlt : i < n
  · obtain ⟨q1, q2⟩ := hs i σ H hlt p
    exact .inr ⟨q1, Pv (i + 1), fun σ' H' p' => ⟨n - (i + 1), by omega, rfl, hlt, p'⟩, q2⟩
  · have e : i = n := by omega
    subst e
    exact .inl (hd σ H p)
theorem drop_get {α : Type} {xs : List α} {i : Nat} (h : i < xs.length) : ∃ a, xs[i]? = some a ∧ xs.drop i = a :: xs.drop (i + 1) := by
  refine ⟨xs[i], List.getElem?_eq_getElem h, List.drop_eq_getElem_cons h⟩
theorem Fr.base {H0 G0 H G H' G' : Hp} (a : Fr H0 G0 H G) (b : Fr H0 G H' G') : Fr H0 G0 H' G' :=
  ⟨b.h, a.g.trans b.g, b.gh, fun x o e => by
    rcases b.new x o e with q | q
    · exact a.new x o q
    · exact .inr q⟩
theorem Stt.rebase {wd : Wd} {n : Sl} {H0 G0 H G : Hp} {σ : L2.St} {os : List Addr} {γ : Ctx.T c} (s : Stt wd n H0 G0 σ H G os c γ) : Stt wd n H0 G σ H G os c γ :=
  ⟨s.len, ⟨s.f.h, Same.refl _, s.f.gh, fun _ _ e => .inl e⟩, s.nd, s.fr, s.r⟩
theorem Stt.unbase {wd : Wd} {n : Sl} {H0 G0 H G H' G' : Hp} {σ : L2.St} {os : List Addr} {γ : Ctx.T c} (s : Stt wd n H0 G σ H' G' os c γ) (f : Fr H0 G0 H G) : Stt wd n H0 G0 σ H' G' os c γ :=
  ⟨s.len, f.base s.f, s.nd, s.fr, s.r⟩
theorem s_for [Rep α] {tg iter : Expr} {body : List Stmt} {pos : Pos} {g : TG} {mL : Ctx.T c → Rs (List α)} {mb : Ctx.T c1 → Rs (Ctx.T c)} {push : α → Ctx.T c → Ctx.T c1} (hp : PassesOwn (model X.prog X.w) X.A X.env X.xe) (hc : X.calm = true)
    {fr : Bs} (hfr : fr = .g ∨ fr = .z) (hi : PI X tg iter (tI F fr c mL)) (hg : PG X tg g) (ht : TgtOk F g c c1 push) (hb : PSs X body (tS F c1 c mb)) (hs : ∀ x, foldedSetIterable iter X.env x = pure x := by intro _; rfl) :
    PS X (.For tg iter body [] pos) (tS F c c fun γ => (mL γ).bind fun xs => Rs.fold (fun γ x => mb (push x γ)) γ xs) :=
  ps_mono (ps_for hp hc hi hg hb hs) fun D σ H ⟨H0, G0, G, os, γ, st, p⟩ => ⟨H0, G0, G, os, γ, st, by
    dsimp only at p
    cases e : mL γ with
    | no => rw [e] at p; exact p
    | ex x => rw [e] at p; exact fun d H2 G2 s z => p d σ H2 G2 st.len (st.f.trans s) z
    | ok xs =>
      rw [e] at p
      refine fun H1 G1 J f w => for_any (n := xs.length) (fun i σ' H' => ∃ G' os' γ', Stt F.wd F.n H0 G0 σ' H' G' os' c γ' ∧ Same G1 G' ∧ PostN F H0 G0 c D (Rs.fold (fun γ x => mb (push x γ)) γ' (xs.drop i)))
        ⟨G1, os, γ, st.ext f, Same.refl _, p⟩ ?_ ?_
      · rintro i σ' H' hi ⟨G', os', γ', st', sg, p'⟩
        obtain ⟨a, ha, hd⟩ := drop_get hi
        rw [hd] at p'
        have hB : Same (fr.at G1 H1 H0) H' := by
          cases hfr with
          | inl q => subst q; exact sg.trans st'.f.gh
          | inr q => subst q; exact st'.f.h
        refine ⟨w.go i H' a hB ha, fun x H2 hy => ?_⟩
        obtain ⟨G2, f2, r2⟩ := w.yld i H' G' x H2 a hB sg st'.f.gh ha hy
        refine ht (st'.ext f2) r2 fun σ3 st3 => ⟨H0, G2, G2, os', _, st3.rebase, ?_⟩
        have p2 : PostN F H0 G0 c D ((mb (push a γ')).bind fun g' => Rs.fold (fun γ x => mb (push x γ)) g' (xs.drop (i + 1))) := p'
        cases e2 : mb (push a γ') with
        | no => rw [e2] at p2; exact p2
        | ex x => rw [e2] at p2; exact fun d σ4 H4 G4 l4 f4 z => p2 d σ4 H4 G4 l4 (st3.f.base f4) z
        | ok g' =>
          rw [e2] at p2
          exact fun σ4 H4 G4 os4 st4 => ⟨G4, os4, g', st4.unbase st3.f, sg.trans (f2.g.trans st4.f.g), p2⟩
      · rintro σ' H' ⟨G', os', γ', st', sg, p'⟩
        rw [List.drop_length] at p'
        have hB : Same (fr.at G1 H1 H0) H' := by
          cases hfr with
          | inl q => subst q; exact sg.trans st'.f.gh
          | inr q => subst q; exact st'.f.h
        exact ⟨w.stop _ H' hB (Nat.le_refl _), p' _ _ _ _ st'⟩⟩
theorem s_forG [Rep α] {kr : Kd F.wd ρ} {tg iter : Expr} {body : List Stmt} {pos : Pos} {g : TG} {mL : Ctx.T c → Rs (List α)} {mb : Ctx.T c1 → Rs (Ctx.T c ⊕ ρ)} {push : α → Ctx.T c → Ctx.T c1} (hp : PassesOwn (model X.prog X.w) X.A X.env X.xe) (hc : X.calm = true)
    {fr : Bs} (hfr : fr = .g ∨ fr = .z) (hi : PI X tg iter (tI F fr c mL)) (hg : PG X tg g) (ht : TgtOk F g c c1 push) (hb : PSs X body (tG F kr c1 c mb)) (hs : ∀ x, foldedSetIterable iter X.env x = pure x := by intro _; rfl) :
    PS X (.For tg iter body [] pos) (tG F kr c c fun γ => (mL γ).bind fun xs => Rs.foldR (fun γ x => mb (push x γ)) γ xs) :=
  ps_mono (ps_for hp hc hi hg hb hs) fun D σ H ⟨H0, G0, G, os, γ, st, p⟩ => ⟨H0, G0, G, os, γ, st, by
    dsimp only at p
    cases e : mL γ with
    | no => rw [e] at p; exact p
    | ex x => rw [e] at p; exact fun d H2 G2 s z => p d σ H2 G2 st.len (st.f.trans s) z
    | ok xs =>
      rw [e] at p
      refine fun H1 G1 J f w => for_any (n := xs.length) (fun i σ' H' => ∃ G' os' γ', Stt F.wd F.n H0 G0 σ' H' G' os' c γ' ∧ Same G1 G' ∧ PostG F kr H0 G0 c D (Rs.foldR (fun γ x => mb (push x γ)) γ' (xs.drop i)))
        ⟨G1, os, γ, st.ext f, Same.refl _, p⟩ ?_ ?_
      · rintro i σ' H' hi ⟨G', os', γ', st', sg, p'⟩
        obtain ⟨a, ha, hd⟩ := drop_get hi
        rw [hd] at p'
        have hB : Same (fr.at G1 H1 H0) H' := by
          cases hfr with
          | inl q => subst q; exact sg.trans st'.f.gh
          | inr q => subst q; exact st'.f.h
        refine ⟨w.go i H' a hB ha, fun x H2 hy => ?_⟩
        obtain ⟨G2, f2, r2⟩ := w.yld i H' G' x H2 a hB sg st'.f.gh ha hy
        refine ht (st'.ext f2) r2 fun σ3 st3 => ⟨H0, G2, G2, os', _, st3.rebase, ?_⟩
        simp only [Rs.foldR] at p'
        cases e2 : mb (push a γ') with
        | no => rw [e2] at p'; exact p'
        | ex x => rw [e2] at p'; exact fun d σ4 H4 G4 l4 f4 z => p' d σ4 H4 G4 l4 (st3.f.base f4) z
        | ok z =>
          rw [e2] at p'
          cases z with
          | inl g' => exact fun σ4 H4 G4 os4 st4 => ⟨G4, os4, g', st4.unbase st3.f, sg.trans (f2.g.trans st4.f.g), p'⟩
          | inr r => exact fun H4 G4 v f4 r4 => p' H4 G4 v (st3.f.base f4) r4
      · rintro σ' H' ⟨G', os', γ', st', sg, p'⟩
        rw [List.drop_length] at p'
        have hB : Same (fr.at G1 H1 H0) H' := by
          cases hfr with
          | inl q => subst q; exact sg.trans st'.f.gh
          | inr q => subst q; exact st'.f.h
        exact ⟨w.stop _ H' hB (Nat.le_refl _), p' _ _ _ _ st'⟩⟩
/-! ### while -/
theorem s_while {t : Expr} {body : List Stmt} {pos : Pos} {mt : Ctx.T c → Rs Bool} {mb : Ctx.T c → Rs (Ctx.T c)} (hp : PassesOwn (model X.prog X.w) X.A X.env X.xe) (ht : PT X t (tQ F c mt)) (hb : PSs X body (tS F c c mb)) :
    PS X (.While t body [] pos) (tS F c c fun γ => Rs.whl mt mb γ) :=
  ps_mono (ps_while hp ht hb) fun D σ H ⟨H0, G0, G, os, γ, st, p⟩ => by
    dsimp only at p
    rcases Rs.whl_is (t := mt) (b := mb) (g := γ) with e | ⟨n, e⟩
    · rw [e] at p
      exact p.elim
    · rw [e] at p
      refine ⟨fun n σ' H' => ∃ G' os' γ', Stt F.wd F.n H0 G0 σ' H' G' os' c γ' ∧ PostN F H0 G0 c D (Rs.iter mt mb n γ'), ⟨n, G, os, γ, st, p⟩, ?_⟩
      rintro m σ' H' ⟨G', os', γ', st', p'⟩
      cases m with
      | zero => exact p'.elim
      | succ m =>
        refine ⟨H0, G0, G', os', γ', st', ?_⟩
        have p2 : PostN F H0 G0 c D ((mt γ').bind fun c => if c = true then (mb γ').bind (Rs.iter mt mb m) else .ok γ') := p'
        refine p2.step st' kF fun v H1 G1 b f1 r1 p3 => ⟨b, r1, ?_⟩
        cases b with
        | false => exact p3 _ _ _ _ (st'.ext f1)
        | true =>
          have p4 : PostN F H0 G0 c D ((mb γ').bind (Rs.iter mt mb m)) := p3
          refine ⟨fun σ' H' => ∃ G' os' γ', Stt F.wd F.n H0 G0 σ' H' G' os' c γ' ∧ PostN F H0 G0 c D (Rs.iter mt mb m γ'), fun σ2 H2 q => ⟨m, Nat.lt_succ_self m, q⟩, H0, G0, G1, os', γ', st'.ext f1, ?_⟩
          exact p4.seqN fun σ H G os γ s2 p5 => ⟨G, os, γ, s2, p5⟩
/-! ### comprehensions -/
theorem comp_any {J : It} {g : TG} {tt : TT} {te : TE} {vs : List Nat} {σ : L2.St} {H1 : Hp} {D : Addr} {Qd : Hp → Prop} {n : Nat} (Pv : Nat → Hp → Prop) (h0 : Pv 0 (upd H1 D (.lst [])))
    (hs : ∀ i H, i < n → Pv i H → J.go i H ∧ ∀ x H', J.yld i H x H' → g x (wipe σ vs) H' fun σ2 H2 => wipe σ2 vs = wipe σ vs ∧ tt σ2 H2 fun b H3 =>
      if b = true then te σ2 H3 fun y H4 => ∃ acc, H4 D = some (.lst acc) ∧ acc.length < sizeLine ∧ Pv (i + 1) (upd H4 D (.lst (acc ++ [y]))) else Pv (i + 1) H3) (hd : ∀ H, Pv n H → J.stop n H ∧ Qd H) :
    ∃ W : Nat → Nat → Hp → Prop, (∃ m, W 0 m (upd H1 D (.lst []))) ∧ ∀ i m H, W i m H →
      (J.stop i H ∧ Qd H) ∨ (J.go i H ∧ ∃ Nx : Hp → Prop, (∀ H', Nx H' → ∃ m', m' < m ∧ W (i + 1) m' H') ∧ ∀ x H', J.yld i H x H' → g x (wipe σ vs) H' fun σ2 H2 => wipe σ2 vs = wipe σ vs ∧ tt σ2 H2 fun b H3 =>
        if b = true then te σ2 H3 fun y H4 => ∃ acc, H4 D = some (.lst acc) ∧ acc.length < sizeLine ∧ Nx (upd H4 D (.lst (acc ++ [y]))) else Nx H3) := by
  refine ⟨fun i m H => m = n - i ∧ i ≤ n ∧ Pv i H, ⟨n, by simp, Nat.zero_le _, h0⟩, ?_⟩
  rintro i m H ⟨rfl, hi, p⟩
  by_cases hlt : i < n
  · obtain ⟨q1, q2⟩ := hs i H hlt p
    exact .inr ⟨q1, Pv (i + 1), fun H' p' => ⟨n - (i + 1), by omega, rfl, hlt, p'⟩, q2⟩
  · have e : i = n := by omega
    subst e
    exact .inl (hd H p)
/-- the target within a comprehension: as TgtOk, and the block's names are the slots vs -/
def TgtC (F : Fx) (g : TG) (vs : List Nat) {α : Type} [Rep α] (c c1 : Ctx) (push : α → Ctx.T c → Ctx.T c1) : Prop :=
  ∀ {H0 G0 : Hp} {σ : L2.St} {H G : Hp} {os : List Addr} {γ : Ctx.T c} {v : V} {a : α} {Q : L2.St → Hp → Prop}, Stt F.wd F.n H0 G0 σ H G os c γ → rep F.wd G v a → (∀ σ', wipe σ' vs = wipe σ vs → Stt F.wd F.n H0 G0 σ' H G os c1 (push a γ) → Q σ' H) → g v σ H Q
theorem gc_name [Rep α] {j : Nat} (hj : F.n.lt j) (hn : Ctx.not j c = true) : TgtC F (gName j) [j] (α := α) c (.fz j α :: c) fun a γ => (a, γ) := fun {H0 G0 σ H G os γ v a Q} st r q => q _ (by unfold wipe wipe; rw [List.set_set]) (R.push st hj hn r)
theorem gc_pair [Rep α] [Rep β] {i j : Nat} {K : PySem.W.Frag} (hi : F.n.lt i) (hj : F.n.lt j) (hij : i ≠ j) (hn : Ctx.not i c = true) (hm : Ctx.not j (.fz i α :: c) = true) :
    TgtC F (gTup K 2 (gCons (gName i) (gCons (gName j) gNil))) [i, j] (α := α × β) c (.fz j β :: .fz i α :: c) fun a γ => (a.2, a.1, γ) := fun {H0 G0 σ H G os γ v a Q} st r q => by
  obtain ⟨p, o, e1, e2, v1, v2, e3, r1, r2⟩ := r
  subst e3
  refine ⟨p, [v1, v2], e1, .of (st.f.gh _ _ e2), rfl, v1, [v2], rfl, v2, [], rfl, rfl, q _ ?_ (R.push (R.push st hi hn r1) hj hm r2)⟩
  unfold wipe wipe wipe
  rw [List.set_set, List.set_comm _ _ hij, List.set_set]
  
theorem wipe_get (σ : L2.St) (i : Nat) : ∀ vs : List Nat, (wipe σ vs)[i]? = if i ∈ vs then (if i < σ.length then some none else none) else σ[i]?
  | [] => by rw [if_neg (by simp)]; rfl
  | v :: vs => by
    have ih := wipe_get σ i vs
    unfold wipe
    by_cases h : v = i
    · subst h
      rw [if_pos List.mem_cons_self]
      by_cases hl : v < σ.length
      · rw [if_pos hl, List.getElem?_set_self (by rw [wipe_length]; exact hl)]
      · rw [if_neg hl, List.getElem?_eq_none (by rw [List.length_set, wipe_length]; omega)]
    · rw [List.getElem?_set_ne h, ih]
      by_cases hm : i ∈ vs
      · rw [if_pos hm, if_pos (List.mem_cons_of_mem _ hm)]
      · rw [if_neg hm, if_neg fun z => (List.mem_cons.mp z).elim (fun q => h q.symm) hm]
theorem wipe_idem (σ : L2.St) (vs : List Nat) : wipe (wipe σ vs) vs = wipe σ vs := by
  apply List.ext_getElem?
  intro i
  rw [wipe_get (wipe σ vs) i vs, wipe_get σ i vs, wipe_length]
  by_cases h : i ∈ vs
  · rw [if_pos h, if_pos h]
  · rw [if_neg h, if_neg h]
def Ctx.nots : List Nat → Ctx → Bool
  | [], _ => true
  | j :: js, c => Ctx.not j c && Ctx.nots js c
theorem R.wipe {wd : Wd} {H0 H G : Hp} {σ : L2.St} : ∀ {vs : List Nat} {c : Ctx} {γ : Ctx.T c} {os : List Addr}, Ctx.nots vs c = true → R wd H0 σ H G c γ os → R wd H0 (L2.wipe σ vs) H G c γ os
  | [], c, γ, os, _, h => h
  | v :: vs, c, γ, os, n, h => by
    have n' : (Ctx.not v c && Ctx.nots vs c) = true := n
    rw [Bool.and_eq_true] at n'
    exact (R.wipe n'.2 h).set n'.1
theorem lc_of [Rep α] [Rep β] {fr : Bs} {g : TG} {vs : List Nat} {c2 : Ctx} {mL : Ctx.T c → Rs (List α)} {mt : Ctx.T c2 → Rs Bool} {me : Ctx.T c2 → Rs β} {push : α → Ctx.T c1 → Ctx.T c2} (s : Sub c c1) (hn : Ctx.nots vs c1 = true) (ht : TgtC F.blk g vs c1 c2 push)
    {σ : L2.St} {H : Hp} {Q : VK} (h : tX F kO c (fun γ => (mL γ).bind fun xs => if xs.length ≤ 16777216 then Rs.comp (fun x => mt (push x (s.proj γ))) (fun x => me (push x (s.proj γ))) xs else .no) σ H Q) :
    tLc (tI F fr c mL) g (tQ F.blk c2 mt) (tX F.blk kF c2 me) vs σ H Q := by
  obtain ⟨H0, G0, G, os, γ, st, p⟩ := h
  refine ⟨H0, G0, G, os, γ, st, ?_⟩
  dsimp only at p
  cases e : mL γ with
  | no => rw [e] at p; exact p
  | ex x => rw [e] at p; exact p
  | ok xs =>
    rw [e] at p
    have p1 : Post F.W (kO (wd := F.wd)) σ H G Q (if xs.length ≤ 16777216 then Rs.comp (fun x => mt (push x (s.proj γ))) (fun x => me (push x (s.proj γ))) xs else .no) := p
    by_cases hz : xs.length ≤ 16777216
    · rw [if_pos hz] at p1
      intro H1 G1 J f w Dl nD
      have st1 := st.ext f
      obtain ⟨os', hs, st2⟩ := st1.sub s
      have gD : G1 Dl = none := f.gh |> fun _ => st1.f.gh.free nD
      have hB : Same (fr.at G1 H1 H0) H1 := by
        cases fr with
        | g => exact st1.f.gh
        | h => exact Same.refl _
        | z => exact st1.f.h
      -- behind i turns: the list so far and what is still wanted
      refine comp_any (n := xs.length) (fun i H' => ∃ (G' : Hp) (ws : List V) (ys : List β), Same H1 H' ∧ Fr H1 G1 H' G' ∧ G' Dl = none ∧ H' Dl = some (.lst ws) ∧ ws.length ≤ i ∧ reps F.wd G' ws ys ∧
          Post F.W (kO (wd := F.wd)) σ H G Q ((Rs.comp (fun x => mt (push x (s.proj γ))) (fun x => me (push x (s.proj γ))) (xs.drop i)).bind fun zs => .ok (ys ++ zs)))
        ⟨G1, [], [], (Fr.alloc st1.f.gh nD).h, Fr.alloc st1.f.gh nD, gD, upd_same, Nat.le_refl _, trivial, ?_⟩ ?_ ?_
      · cases e3 : Rs.comp (fun x => mt (push x (s.proj γ))) (fun x => me (push x (s.proj γ))) xs with
        | no => rw [List.drop_zero, e3]; rw [e3] at p1; exact p1
        | ex x => rw [List.drop_zero, e3]; rw [e3] at p1; exact p1
        | ok zs => rw [List.drop_zero, e3]; rw [e3] at p1; exact p1
      · rintro i H' hi ⟨G', ws, ys, s1, f1, g1, h1, l1, r1, p2⟩
        obtain ⟨a, ha, hd⟩ := drop_get hi
        rw [hd] at p2
        refine ⟨w.go i H' a (hB.trans s1) ha, fun x H2 hy => ?_⟩
        obtain ⟨G2, f2, r2⟩ := w.yld i H' G' x H2 a (hB.trans s1) f1.g f1.gh ha hy
        have f12 := f1.trans f2
        have stw : Stt F.blk.wd F.blk.n H0 G0 (L2.wipe σ vs) H2 G2 os' c1 (s.proj γ) := by
          have q := st2.ext f12
          exact ⟨⟨by rw [wipe_length]; exact q.len.1, trivial⟩, q.f, q.nd, q.fr, R.wipe hn q.r⟩
        refine ht stw r2 fun σ3 ew st3 => ⟨ew.trans (wipe_idem σ vs), H0, G0, G2, os', _, st3, ?_⟩
        have p3 : Post F.W (kO (wd := F.wd)) σ H G Q (((mt (push a (s.proj γ))).nox.bind fun b => if b = true then (me (push a (s.proj γ))).nox.bind fun y => (Rs.comp (fun x => mt (push x (s.proj γ))) (fun x => me (push x (s.proj γ))) (xs.drop (i + 1))).bind fun ys => .ok (y :: ys)
            else Rs.comp (fun x => mt (push x (s.proj γ))) (fun x => me (push x (s.proj γ))) (xs.drop (i + 1))).bind fun zs => .ok (ys ++ zs)) := p2
        cases e4 : mt (push a (s.proj γ)) with
        | no => rw [e4] at p3; exact p3
        | ex x => rw [e4] at p3; exact p3.elim
        | ok b =>
          rw [e4] at p3
          intro H3 G3 v3 f3 r3
          refine ⟨b, r3, ?_⟩
          have f13 := f12.trans f3
          have D3 : H3 Dl = some (.lst ws) := (f2.trans f3).h _ _ h1
          have G3D : G3 Dl = none := (f2.trans f3).out h1 g1
          cases b with
          | false => exact ⟨G3, ws, ys, f13.h, f13, G3D, D3, Nat.le_succ_of_le l1, r1.mono (f2.trans f3).g, p3⟩
          | true =>
            refine ⟨H0, G0, G3, os', _, st3.ext f3, ?_⟩
            have p4 : Post F.W (kO (wd := F.wd)) σ H G Q (((me (push a (s.proj γ))).nox.bind fun y => (Rs.comp (fun x => mt (push x (s.proj γ))) (fun x => me (push x (s.proj γ))) (xs.drop (i + 1))).bind fun ys => .ok (y :: ys)).bind fun zs => .ok (ys ++ zs)) := p3
            cases e5 : me (push a (s.proj γ)) with
            | no => rw [e5] at p4; exact p4
            | ex x => rw [e5] at p4; exact p4.elim
            | ok y =>
              rw [e5] at p4
              intro H4 G4 v4 f4 r4
              have f14 := f13.trans f4
              have D4 : H4 Dl = some (.lst ws) := f4.h _ _ D3
              have G4D : G4 Dl = none := f4.out D3 G3D
              refine ⟨ws, D4, by rw [sizeLine_eq]; omega, G4, ws ++ [v4], ys ++ [y], Same.upd' f14.h nD, ⟨Same.upd' f14.h nD, f14.g, fun b o q => ?_, f14.new⟩, G4D, upd_same, by rw [List.length_append]; exact Nat.succ_le_succ l1, (r1.mono ((f2.trans f3).trans f4).g).snoc r4, ?_⟩
              · rw [upd_ne (ne_of_none q G4D)]
                exact f14.gh _ _ q
              · have p5 : Post F.W (kO (wd := F.wd)) σ H G Q (((Rs.comp (fun x => mt (push x (s.proj γ))) (fun x => me (push x (s.proj γ))) (xs.drop (i + 1))).bind fun ys => .ok (y :: ys)).bind fun zs => .ok (ys ++ zs)) := p4
                cases e6 : Rs.comp (fun x => mt (push x (s.proj γ))) (fun x => me (push x (s.proj γ))) (xs.drop (i + 1)) with
                | no => rw [e6] at p5; exact p5
                | ex x => rw [e6] at p5; exact p5
                | ok zs =>
                  rw [e6] at p5
                  show Post F.W (kO (wd := F.wd)) σ H G Q (.ok ((ys ++ [y]) ++ zs))
                  rw [List.append_assoc]
                  exact p5
      · rintro H' ⟨G', ws, ys, s1, f1, g1, h1, l1, r1, p2⟩
        refine ⟨w.stop _ H' (hB.trans s1) (Nat.le_refl _), ?_⟩
        rw [List.drop_length] at p2
        have p3 : Post F.W (kO (wd := F.wd)) σ H G Q (.ok (ys ++ [])) := p2
        rw [List.append_nil] at p3
        exact p3 H' G' _ (f.trans f1) ⟨Dl, _, rfl, f.h.free nD, g1, h1, ws, rfl, by rw [sizeLine_eq]; omega, r1⟩
    · rw [if_neg hz] at p1
      exact p1.elim
/-- no test -/
theorem pts_yes {X : Cx} {F : Fx} {c : Ctx} : PTs X [] (tQ F.blk c fun _ => .ok true) :=
  ⟨fun pins s σ H Q I h => by
    obtain ⟨H0, G0, G, os, γ, st, p⟩ := h
    obtain ⟨b, e, q⟩ := p H G (.bl true) (Fr.refl st.f.gh) rfl
    cases e
    exact pts_nil.run pins s σ H Q I q⟩
end
end Wm
set_option Elab.async false
set_option linter.all false
set_option maxRecDepth 100000
set_option maxHeartbeats 4000000
namespace Wm
open PySem PySem.Spec PyProof.Rows L2
open Rep (rep)
open Own (own)
/-! ### arguments -/
def RA (wd : Wd) (H G : Hp) : Nat → (Γ : Ctx) → Ctx.T Γ → List V → Prop
  | _, [], _, vs => vs = []
  | j, @Ent.fz i α r :: Γ, g, vs => ∃ v vs', vs = v :: vs' ∧ i = j ∧ r.rep wd G v g.1 ∧ RA wd H G (j + 1) Γ g.2 vs'
  | j, @Ent.bo i β r :: Γ, g, vs => ∃ p o vs', vs = .ref p :: vs' ∧ i = j ∧ H p = some o ∧ r.own wd G o g.1 ∧ RA wd H G (j + 1) Γ g.2 vs'
  | _, @Ent.ow _ _ _ :: _, _, _ => False
  | _, @Ent.oo _ _ _ :: _, _, _ => False
  | _, @Ent.sf _ _ _ _ :: _, _, _ => False
theorem RA.len {wd : Wd} {H G : Hp} : ∀ {j : Nat} {Γ : Ctx} {g : Ctx.T Γ} {vs : List V}, RA wd H G j Γ g vs → vs.length = Γ.length
  | _, [], _, vs, h => by rw [show vs = [] from h]; rfl
  | j, @Ent.fz i α r :: Γ, g, vs, h => by
    obtain ⟨v, vs', rfl, _, _, h⟩ := h
    exact congrArg (· + 1) (RA.len h)
  | j, @Ent.bo i α r :: Γ, g, vs, h => by
    obtain ⟨p, o, vs', rfl, _, _, _, h⟩ := h
    exact congrArg (· + 1) (RA.len h)
  | j, @Ent.ow i α r :: Γ, g, vs, h => h.elim
  | j, @Ent.oo i α r :: Γ, g, vs, h => h.elim
  | j, @Ent.sf i α r x :: Γ, g, vs, h => h.elim
theorem RA.ext {wd : Wd} {H G H' G' : Hp} (h : Same H H') (g : Same G G') : ∀ {j : Nat} {Γ : Ctx} {a : Ctx.T Γ} {vs : List V}, RA wd H G j Γ a vs → RA wd H' G' j Γ a vs
  | _, [], _, vs, q => q
  | j, @Ent.fz i α r :: Γ, a, vs, q => by
    obtain ⟨v, vs', e, e2, e3, q⟩ := q
    exact ⟨v, vs', e, e2, r.mono g e3, RA.ext h g q⟩
  | j, @Ent.bo i α r :: Γ, a, vs, q => by
    obtain ⟨p, o, vs', e, e2, e3, e4, q⟩ := q
    exact ⟨p, o, vs', e, e2, h _ _ e3, r.mono g e4, RA.ext h g q⟩
  | j, @Ent.ow i α r :: Γ, a, vs, q => q.elim
  | j, @Ent.oo i α r :: Γ, a, vs, q => q.elim
  | j, @Ent.sf i α r x :: Γ, a, vs, q => q.elim
theorem RA.r {wd : Wd} {H G : Hp} {σ : L2.St} : ∀ {j : Nat} {Γ : Ctx} {a : Ctx.T Γ} {vs : List V}, (∀ k v, vs[k]? = some v → σ[j + k]? = some (some v)) → RA wd H G j Γ a vs → R wd H σ H G Γ a []
  | _, [], _, vs, _, q => rfl
  | j, @Ent.fz i α r :: Γ, a, vs, k, q => by
    obtain ⟨v, vs', e, e2, e3, q⟩ := q
    subst e; subst e2
    exact ⟨⟨v, by have := k 0 v rfl; rwa [Nat.add_zero] at this, e3⟩, RA.r (fun n w hw => by have := k (n + 1) w hw; rwa [Nat.add_comm n 1, ← Nat.add_assoc] at this) q⟩
  | j, @Ent.bo i α r :: Γ, a, vs, k, q => by
    obtain ⟨p, o, vs', e, e2, e3, e4, q⟩ := q
    subst e; subst e2
    exact ⟨⟨p, o, by have := k 0 _ rfl; rwa [Nat.add_zero] at this, e3, e4⟩, RA.r (fun n w hw => by have := k (n + 1) w hw; rwa [Nat.add_comm n 1, ← Nat.add_assoc] at this) q⟩
  | j, @Ent.ow i α r :: Γ, a, vs, k, q => q.elim
  | j, @Ent.oo i α r :: Γ, a, vs, k, q => q.elim
  | j, @Ent.sf i α r x :: Γ, a, vs, k, q => q.elim
/-- lists of values: of arguments, of items -/
def tM (F : Fx) {δ : Type} (rel : Hp → Hp → List V → δ → Prop) (c : Ctx) (m : Ctx.T c → Rs δ) : TA := fun σ H Q => ∃ H0 G0 G os γ, Stt F.wd F.n H0 G0 σ H G os c γ ∧
  match m γ with
  | .ok a => ∀ H' G' vs, Fr H G H' G' → rel H' G' vs a → Q vs H'
  | .ex x => ∀ d H' G', Fr H G H' G' → RepX G' d x → F.W (.ref (F.wd.cm x.cls)) d σ H'
  | .no => False
abbrev tA (F : Fx) (c : Ctx) (j : Nat) (Γ : Ctx) (m : Ctx.T c → Rs (Ctx.T Γ)) : TA := tM F (fun H G vs g => RA F.wd H G j Γ g vs) c m
abbrev tL (F : Fx) {α : Type} [Rep α] (n : Nat) (c : Ctx) (m : Ctx.T c → Rs (List α)) : TA := tM F (fun _ G vs as => vs.length = n ∧ reps F.wd G vs as) c m
section
variable {X : Cx} {F : Fx} {c : Ctx} {α β δ ε ρ : Type} {e : Expr} {es : List Expr}
theorem tM_cons {k : Kd F.wd α} {rel : Hp → Hp → List V → δ → Prop} {rel' : Hp → Hp → List V → ε → Prop} {m : Ctx.T c → Rs α} {ms : Ctx.T c → Rs δ} {f : α → δ → ε} (ok : ∀ {B H' G' : Hp} {v : V} {a : α} {vs : List V} {g : δ}, k.rel B H' G' v a → rel H' G' vs g → rel' H' G' (v :: vs) (f a g))
    {σ : L2.St} {H : Hp} {Q : List V → Hp → Prop} (h : tM F rel' c (fun γ => (m γ).bind fun a => (ms γ).bind fun g => .ok (f a g)) σ H Q) : tX F k c m σ H fun v H1 => tM F rel c ms σ H1 fun vs H2 => Q (v :: vs) H2 := by
  obtain ⟨H0, G0, G, os, γ, st, p⟩ := h
  refine ⟨H0, G0, G, os, γ, st, ?_⟩
  dsimp only at p
  cases e : m γ with
  | no => rw [e] at p; exact p
  | ex x => rw [e] at p; exact p
  | ok a =>
    rw [e] at p
    refine fun H1 G1 v f1 r => ⟨H0, G0, G1, os, γ, st.ext f1, ?_⟩
    dsimp only [Rs.bind] at p
    cases e2 : ms γ with
    | no => rw [e2] at p; exact p
    | ex x => rw [e2] at p; exact fun d H2 G2 s z => p d H2 G2 (f1.trans s) z
    | ok g =>
      rw [e2] at p
      exact fun H2 G2 vs f2 r2 => p H2 G2 (v :: vs) (f1.trans f2) (ok (k.stay r f2) r2)
theorem tM_nil {rel : Hp → Hp → List V → δ → Prop} {g : δ} (ok : ∀ H G, rel H G [] g) : PA X [] (tM F rel c fun _ => .ok g) :=
  pa_mono pa_nil fun σ H Q ⟨H0, G0, G, os, γ, st, p⟩ => p H G [] (Fr.refl st.f.gh) (ok H G)
theorem a_nil {j : Nat} : PA X [] (tA F c j [] fun _ => .ok ()) := tM_nil fun _ _ => rfl
theorem a_cons [Rep α] {j : Nat} {Γ : Ctx} {m : Ctx.T c → Rs α} {ms : Ctx.T c → Rs (Ctx.T Γ)} (h : PE X e (tX F kF c m)) (hs : PA X es (tA F c (j + 1) Γ ms)) (he : starEach (e :: es) X.env = (false, eval e X.env) :: starEach es X.env := by rfl) :
    PA X (e :: es) (tA F c j (.fz j α :: Γ) fun γ => (m γ).bind fun a => (ms γ).bind fun g => .ok (a, g)) :=
  pa_mono (pa_cons h hs he) fun σ H Q q => tM_cons (f := fun a g => (a, g)) (fun r1 r2 => ⟨_, _, rfl, rfl, r1, r2⟩) q
theorem a_consB [Own β] {j : Nat} {Γ : Ctx} {m : Ctx.T c → Rs β} {ms : Ctx.T c → Rs (Ctx.T Γ)} (h : PE X e (tX F kB c m)) (hs : PA X es (tA F c (j + 1) Γ ms)) (he : starEach (e :: es) X.env = (false, eval e X.env) :: starEach es X.env := by rfl) :
    PA X (e :: es) (tA F c j (.bo j β :: Γ) fun γ => (m γ).bind fun a => (ms γ).bind fun g => .ok (a, g)) :=
  pa_mono (pa_cons h hs he) fun σ H Q q => tM_cons (f := fun a g => (a, g)) (fun ⟨p, o, e1, e2, e3⟩ r2 => ⟨p, o, _, by rw [e1], rfl, e2, e3, r2⟩) q
theorem l_nil [Rep α] : PA X [] (tL F (α := α) 0 c fun _ => .ok []) := tM_nil fun _ _ => ⟨rfl, trivial⟩
theorem l_cons [Rep α] {n : Nat} {m : Ctx.T c → Rs α} {ms : Ctx.T c → Rs (List α)} (h : PE X e (tX F kF c m)) (hs : PA X es (tL F n c ms)) (he : starEach (e :: es) X.env = (false, eval e X.env) :: starEach es X.env := by rfl) :
    PA X (e :: es) (tL F (n + 1) c fun γ => (m γ).bind fun a => (ms γ).bind fun g => .ok (a :: g)) :=
  pa_mono (pa_cons h hs he) fun σ H Q q => tM_cons (f := fun a g => a :: g) (fun r1 r2 => ⟨congrArg (· + 1) r2.1, r1, r2.2⟩) q
theorem tM_post {k : Kd F.wd ρ} {rel : Hp → Hp → List V → δ → Prop} {m : Ctx.T c → Rs δ} {f : δ → Rs ρ} {σ : L2.St} {H : Hp} {Q : VK} {Q' : List V → Hp → Prop} (h : tX F k c (fun γ => (m γ).bind f) σ H Q)
    (i : ∀ vs H1 G1 g, Same G1 H1 → rel H1 G1 vs g → Post F.W k σ H1 G1 Q (f g) → Q' vs H1) : tM F rel c m σ H Q' := by
  obtain ⟨H0, G0, G, os, γ, st, p⟩ := h
  refine ⟨H0, G0, G, os, γ, st, ?_⟩
  dsimp only at p
  cases e : m γ with
  | no => rw [e] at p; exact p
  | ex x => rw [e] at p; exact p
  | ok a =>
    rw [e] at p
    exact fun H1 G1 vs f1 r => i vs H1 G1 a f1.gh r (Post.ext (show Post F.W k σ H G Q (f a) from p) f1)
/-! ### displays -/
theorem small_n {n : Nat} (h : n ≤ 1000) : n ≤ sizeLine := Nat.le_trans h (by decide)
theorem e_lst [Rep α] {n : Nat} {m : Ctx.T c → Rs (List α)} {pos : Pos} (h : PA X es (tL F n c m)) (hn : n ≤ 1000 := by decide) : PE X (.List es pos) (tX F kO c fun γ => (m γ).bind .ok) :=
  pe_mono (pe_lst h) fun σ H Q q => tM_post q fun vs H1 G1 g gh ⟨l, r⟩ p => ⟨by rw [l]; exact small_n hn, fun d nd => p _ _ _ (Fr.alloc gh nd) ⟨d, _, rfl, nd, gh.free nd, upd_same, vs, rfl, by rw [l]; exact small_n hn, r⟩⟩
theorem e_tup [Rep α] {n : Nat} {m : Ctx.T c → Rs (List α)} {pos : Pos} {x1} (h : PA X es (tL F n c m)) (hn : n ≤ 1000 := by decide) : PE X (.Tuple es x1 pos) (tX F kF c fun γ => (m γ).bind fun as => .ok (Tup.mk as)) :=
  pe_mono (pe_tup h) fun σ H Q q => tM_post q fun vs H1 G1 g gh ⟨l, r⟩ p => ⟨by rw [l]; exact small_n hn, fun d nd => p _ _ _ ((Fr.alloc gh nd).freeze nd (gh.free nd) upd_same) ⟨d, _, rfl, upd_same, vs, rfl, by rw [l]; exact small_n hn, r.mono (Same.upd' (Same.refl _) (gh.free nd))⟩⟩
theorem e_pair [Rep α] [Rep β] {a b : Expr} {ma : Ctx.T c → Rs α} {mb : Ctx.T c → Rs β} {pos : Pos} {x1} (ha : PE X a (tX F kF c ma)) (hb : PE X b (tX F kF c mb)) (he : starEach (a :: b :: []) X.env = (false, eval a X.env) :: starEach (b :: []) X.env := by rfl) (he2 : starEach (b :: []) X.env = (false, eval b X.env) :: starEach [] X.env := by rfl) :
    PE X (.Tuple [a, b] x1 pos) (tX F kF c fun γ => (ma γ).bind fun x => (mb γ).bind fun y => .ok (x, y)) :=
  pe_mono (pe_tup (pa_cons ha (pa_cons hb pa_nil he2) he)) fun σ H Q ⟨H0, G0, G, os, γ, st, p⟩ => ⟨H0, G0, G, os, γ, st, p.step kF fun v H1 G1 x f1 r1 p1 => ⟨H0, G0, G1, os, γ, st.ext f1, p1.step kF fun w H2 G2 y f2 r2 p2 => ⟨by show 2 ≤ sizeLine; decide, fun d nd => by
    have s := Same.upd' (o := HO.tup [v, w]) (Same.refl G2) (f2.gh.free nd)
    exact p2 _ _ _ ((Fr.alloc f2.gh nd).freeze nd (f2.gh.free nd) upd_same) ⟨d, _, rfl, upd_same, v, w, rfl, Rep.mono (f2.g.trans s) r1, Rep.mono s r2⟩⟩⟩⟩
theorem e_t3 {γ' : Type} [Rep α] [Rep β] [Rep γ'] {a b d : Expr} {ma : Ctx.T c → Rs α} {mb : Ctx.T c → Rs β} {md : Ctx.T c → Rs γ'} {pos : Pos} {x1} (ha : PE X a (tX F kF c ma)) (hb : PE X b (tX F kF c mb)) (hd : PE X d (tX F kF c md)) (he : starEach (a :: b :: d :: []) X.env = (false, eval a X.env) :: starEach (b :: d :: []) X.env := by rfl) (he2 : starEach (b :: d :: []) X.env = (false, eval b X.env) :: starEach (d :: []) X.env := by rfl) (he3 : starEach (d :: []) X.env = (false, eval d X.env) :: starEach [] X.env := by rfl) :
    PE X (.Tuple [a, b, d] x1 pos) (tX F kF c fun γ => (ma γ).bind fun x => (mb γ).bind fun y => (md γ).bind fun z => .ok (T3.mk x y z)) :=
  pe_mono (pe_tup (pa_cons ha (pa_cons hb (pa_cons hd pa_nil he3) he2) he)) fun σ H Q ⟨H0, G0, G, os, γ, st, p⟩ => ⟨H0, G0, G, os, γ, st, p.step kF fun v H1 G1 x f1 r1 p1 => ⟨H0, G0, G1, os, γ, st.ext f1, p1.step kF fun w H2 G2 y f2 r2 p2 => ⟨H0, G0, G2, os, γ, (st.ext f1).ext f2, p2.step kF fun u H3 G3 z f3 r3 p3 => ⟨by show 3 ≤ sizeLine; decide, fun d nd => by
    have s := Same.upd' (o := HO.tup [v, w, u]) (Same.refl G3) (f3.gh.free nd)
    exact p3 _ _ _ ((Fr.alloc f3.gh nd).freeze nd (f3.gh.free nd) upd_same) ⟨d, _, rfl, upd_same, v, w, u, rfl, Rep.mono ((f2.g.trans f3.g).trans s) r1, Rep.mono (f3.g.trans s) r2, Rep.mono s r3⟩⟩⟩⟩⟩
theorem e_fst [Rep α] [Rep β] {a : Expr} {m : Ctx.T c → Rs (α × β)} {j : Nat} {p2 pos : Pos} (hK : F.wd.K = X.K) (h : PE X a (tX F kF c m)) (hp : PlainIx (.Constant (.int 0) j p2) := by exact fun _ _ => rfl) : PE X (.Subscript a (.Constant (.int 0) j p2) pos) (tX F kF c fun γ => (m γ).bind fun x => .ok x.1) :=
  pe_mono (pe_ix ix_tup h pe_int hp) fun σ H Q ⟨H0, G0, G, os, γ, st, p⟩ => ⟨H0, G0, G, os, γ, st, p.step kF fun v H1 G1 x f1 ⟨q, o, e1, e2, v1, v2, e3, r1, r2⟩ p1 => by
    subst e3
    exact ⟨q, _, 0, v1, e1, rfl, .of (f1.gh _ _ e2), rfl, p1 _ _ _ (Fr.refl f1.gh) r1⟩⟩
theorem e_snd [Rep α] [Rep β] {a : Expr} {m : Ctx.T c → Rs (α × β)} {j : Nat} {p2 pos : Pos} (hK : F.wd.K = X.K) (h : PE X a (tX F kF c m)) (hp : PlainIx (.Constant (.int 1) j p2) := by exact fun _ _ => rfl) : PE X (.Subscript a (.Constant (.int 1) j p2) pos) (tX F kF c fun γ => (m γ).bind fun x => .ok x.2) :=
  pe_mono (pe_ix ix_tup h pe_int hp) fun σ H Q ⟨H0, G0, G, os, γ, st, p⟩ => ⟨H0, G0, G, os, γ, st, p.step kF fun v H1 G1 x f1 ⟨q, o, e1, e2, v1, v2, e3, r1, r2⟩ p1 => by
    subst e3
    exact ⟨q, _, 1, v2, e1, rfl, .of (f1.gh _ _ e2), rfl, p1 _ _ _ (Fr.refl f1.gh) r2⟩⟩
/-! ### comprehensions as expressions, as stores -/
theorem e_lc [Rep α] [Rep β] {fr : Bs} {elt tg iter : Expr} {ifs : List Expr} {scope : Scope} {own : List (Str × Nat)} {pos : Pos} {g : TG} {c1 c2 : Ctx} {mL : Ctx.T c → Rs (List α)} {mt : Ctx.T c2 → Rs Bool} {me : Ctx.T c2 → Rs β} {push : α → Ctx.T c1 → Ctx.T c2} (hc : X.calm = true) (hN : X.N.Nodup) (hi : PI X tg iter (tI F fr c mL)) (ok : BlkOk X.N X.env.scope scope own)
    (s : Sub c c1) (hn : Ctx.nots (own.map (·.2)) c1 = true) (ht : TgtC F.blk g (own.map (·.2)) c1 c2 push)
    (hg : ∀ (s : Shared) (H : Hp) (C : Addr) (cl : List (Str × Addr)) (fp : List Addr), PG (X.blk s H scope (compEnvC scope cl C X.env) fp) tg g) (hts : ∀ (s : Shared) (H : Hp) (C : Addr) (cl : List (Str × Addr)) (fp : List Addr), PTs (X.blk s H scope (compEnvC scope cl C X.env) fp) ifs (tQ F.blk c2 mt))
    (he : ∀ (s : Shared) (H : Hp) (C : Addr) (cl : List (Str × Addr)) (fp : List Addr), PE (X.blk s H scope (compEnvC scope cl C X.env) fp) elt (tX F.blk kF c2 me)) (hs : ∀ x, foldedSetIterable iter X.env x = pure x := by intro _; rfl) :
    PE X (.ListComp elt [⟨tg, iter, ifs, 0⟩] scope pos) (tX F kO c fun γ => (mL γ).bind fun xs => if xs.length ≤ 16777216 then Rs.comp (fun x => mt (push x (s.proj γ))) (fun x => me (push x (s.proj γ))) xs else .no) :=
  pe_mono (pe_lc hc hN hi ok hg hts he hs) fun σ H Q h => lc_of s hn ht h
theorem s_lc [Rep α] [Rep β] {fr : Bs} {y : Str} {py spos : Pos} {j : Nat} {elt tg iter : Expr} {ifs : List Expr} {scope : Scope} {own : List (Str × Nat)} {pos : Pos} {g : TG} {c1 c2 c' : Ctx} {mL : Ctx.T c → Rs (List α)} {mt : Ctx.T c2 → Rs Bool} {me : Ctx.T c2 → Rs β} {push : α → Ctx.T c1 → Ctx.T c2} (hc : X.calm = true) (hN : X.N.Nodup)
    (hy : X.N[j]? = some y) (hyl : X.env.scope.names.lookup y = some .local) (hsw : swapsWith (.ListComp elt [⟨tg, iter, ifs, 0⟩] scope pos) (some (.Name y py)) spos.line X.env = pure true) (hi : PI X tg iter (tI F fr c mL)) (ok : BlkOk X.N X.env.scope scope own)
    (s : Sub c c1) (hn : Ctx.nots (own.map (·.2)) c1 = true) (ht : TgtC F.blk g (own.map (·.2)) c1 c2 push)
    (hg : ∀ (s : Shared) (H : Hp) (C : Addr) (cl : List (Str × Addr)) (fp : List Addr), PG (X.blk s H scope (compEnvC scope cl C X.env) fp) tg g) (hts : ∀ (s : Shared) (H : Hp) (C : Addr) (cl : List (Str × Addr)) (fp : List Addr), PTs (X.blk s H scope (compEnvC scope cl C X.env) fp) ifs (tQ F.blk c2 mt))
    (he : ∀ (s : Shared) (H : Hp) (C : Addr) (cl : List (Str × Addr)) (fp : List Addr), PE (X.blk s H scope (compEnvC scope cl C X.env) fp) elt (tX F.blk kF c2 me)) (s' : Sub c c') (hj : F.n.lt j) (hn' : Ctx.not j c' = true) (hs : ∀ x, foldedSetIterable iter X.env x = pure x := by intro _; rfl) :
    PS X (.Assign [.Name y py] (.ListComp elt [⟨tg, iter, ifs, 0⟩] scope pos) spos) (tS F c (.ow j (List β) :: c') fun γ => ((mL γ).bind fun xs => if xs.length ≤ 16777216 then Rs.comp (fun x => mt (push x (s.proj γ))) (fun x => me (push x (s.proj γ))) xs else .no).bind fun a => .ok (a, s'.proj γ)) :=
  s_setTO (m := fun γ => (mL γ).bind fun xs => if xs.length ≤ 16777216 then Rs.comp (fun x => mt (push x (s.proj γ))) (fun x => me (push x (s.proj γ))) xs else .no) (ps_setLc hc hN hy hyl hsw hi ok hg hts he hs) (fun σ H Q h => lc_of s hn ht h) s' hj hn'
/-! ### plain stores -/
theorem s_set [Rep α] {c' : Ctx} {m : Ctx.T c → Rs α} {j : Nat} {x : Str} {pos pos' : Pos} (hN : X.N.Nodup) (h : PE X e (tX F kF c m)) (s : Sub c c') (hj : F.n.lt j) (hn : Ctx.not j c' = true) (hi : X.N[j]? = some x := by rfl) (hx : Loc X.env.scope x := by first | exact .inl rfl | exact .inr rfl) (hs : swapsWith e (some (.Name x pos')) pos.line X.env = pure false := by rfl) (hf : X.fn x = true ∨ X.env.scope.names.lookup x = some .local := by first | exact .inl rfl | exact .inr rfl) :
    PS X (.Assign [.Name x pos'] e pos) (tS F c (.fz j α :: c') fun γ => (m γ).bind fun a => .ok (a, s.proj γ)) := s_setT (ps_set hN hi hx h hs hf) (fun _ _ _ q => q) s hj hn
theorem s_setO [Own β] {c' : Ctx} {m : Ctx.T c → Rs β} {j : Nat} {x : Str} {pos pos' : Pos} (hN : X.N.Nodup) (h : PE X e (tX F kO c m)) (s : Sub c c') (hj : F.n.lt j) (hn : Ctx.not j c' = true) (hi : X.N[j]? = some x := by rfl) (hx : Loc X.env.scope x := by first | exact .inl rfl | exact .inr rfl) (hs : swapsWith e (some (.Name x pos')) pos.line X.env = pure false := by rfl) (hf : X.fn x = true ∨ X.env.scope.names.lookup x = some .local := by first | exact .inl rfl | exact .inr rfl) :
    PS X (.Assign [.Name x pos'] e pos) (tS F c (.ow j β :: c') fun γ => (m γ).bind fun a => .ok (a, s.proj γ)) := s_setTO (ps_set hN hi hx h hs hf) (fun _ _ _ q => q) s hj hn
theorem s_upd [Rep α] {m : Ctx.T c → Rs α} {j : Nat} {x : Str} {pos pos' : Pos} (hN : X.N.Nodup) (h : PE X e (tX F kF c m)) (v : Var c (.fz j α)) (hj : F.n.lt j) (hn : (c.map Ent.slot).Nodup := by decide) (hi : X.N[j]? = some x := by rfl) (hx : Loc X.env.scope x := by first | exact .inl rfl | exact .inr rfl) (hs : swapsWith e (some (.Name x pos')) pos.line X.env = pure false := by rfl) (hf : X.fn x = true ∨ X.env.scope.names.lookup x = some .local := by first | exact .inl rfl | exact .inr rfl) :
    PS X (.Assign [.Name x pos'] e pos) (tS F c c fun γ => (m γ).bind fun a => .ok (v.put γ a)) := s_updT (ps_set hN hi hx h hs hf) (fun _ _ _ q => q) v hj hn
/-- an owned name is given a new object -/
theorem Var.restoreO [Own β] {wd : Wd} {H0 H G : Hp} {σ : L2.St} {i : Nat} {p : Addr} {o : HO} {b : β} : ∀ {c : Ctx} (v : Var c (.ow i β)) {γ : Ctx.T c} {os : List Addr}, (c.map Ent.slot).Nodup → own wd G o b → H p = some o → i < σ.length → p ∉ os → os.Nodup → R wd H0 σ H G c γ os →
    ∃ os', R wd H0 (σ.set i (some (.ref p))) H G c (v.put γ b) os' ∧ os'.Nodup ∧ ∀ q ∈ os', q = p ∨ q ∈ os
  | @Ent.ow _ _ _ :: c, .z, γ, os, nd, w, hp, l, n, no, h => by
    obtain ⟨q, o1, os1, rfl, h1, h2, h3, h4⟩ := h
    refine ⟨p :: os1, ⟨p, o, os1, rfl, List.getElem?_set_self l, hp, w, h4.slots fun e he => List.getElem?_set_ne fun z => (List.nodup_cons.mp nd).1 (by rw [show Ent.slot _ = i from rfl, z]; exact List.mem_map_of_mem he)⟩,
      List.nodup_cons.mpr ⟨fun z => n (List.mem_cons_of_mem _ z), (List.nodup_cons.mp no).2⟩, fun r hr => (List.mem_cons.mp hr).elim .inl fun z => .inr (List.mem_cons_of_mem _ z)⟩
  | @Ent.fz j δ _ :: c, .s v, γ, os, nd, w, hp, l, n, no, h => by
    obtain ⟨os', h1, h2, h3⟩ := Var.restoreO v (List.nodup_cons.mp nd).2 w hp l n no h.2
    obtain ⟨y, e1, e2⟩ := h.1
    exact ⟨os', ⟨⟨y, by rw [List.getElem?_set_ne (show i ≠ j from fun q => (List.nodup_cons.mp nd).1 (by show j ∈ c.map Ent.slot; rw [← q]; exact v.inSlots))]; exact e1, e2⟩, h1⟩, h2, h3⟩
  | @Ent.bo j δ _ :: c, .s v, γ, os, nd, w, hp, l, n, no, h => by
    obtain ⟨os', h1, h2, h3⟩ := Var.restoreO v (List.nodup_cons.mp nd).2 w hp l n no h.2
    obtain ⟨y, o2, e1, e2⟩ := h.1
    exact ⟨os', ⟨⟨y, o2, by rw [List.getElem?_set_ne (show i ≠ j from fun q => (List.nodup_cons.mp nd).1 (by show j ∈ c.map Ent.slot; rw [← q]; exact v.inSlots))]; exact e1, e2⟩, h1⟩, h2, h3⟩
  | @Ent.ow j δ _ :: c, .s v, γ, os, nd, w, hp, l, n, no, h => by
    obtain ⟨q, o1, os1, rfl, h1, h2, h3, h4⟩ := h
    obtain ⟨os', k1, k2, k3⟩ := Var.restoreO v (List.nodup_cons.mp nd).2 w hp l (fun z => n (List.mem_cons_of_mem _ z)) (List.nodup_cons.mp no).2 h4
    refine ⟨q :: os', ⟨q, o1, os', rfl, by rw [List.getElem?_set_ne (show i ≠ j from fun q => (List.nodup_cons.mp nd).1 (by show j ∈ c.map Ent.slot; rw [← q]; exact v.inSlots))]; exact h1, h2, h3, k1⟩, List.nodup_cons.mpr ⟨fun z => ?_, k2⟩, fun r hr => ?_⟩
    · rcases k3 q z with e | e
      · exact n (by rw [e]; exact List.mem_cons_self)
      · exact (List.nodup_cons.mp no).1 e
    · rcases List.mem_cons.mp hr with e | e
      · exact .inr (by rw [e]; exact List.mem_cons_self)
      · exact (k3 r e).elim .inl fun z => .inr (List.mem_cons_of_mem _ z)
  | @Ent.oo j δ _ :: c, .s v, γ, os, nd, w, hp, l, n, no, h => by
    have ne : i ≠ j := fun q => (List.nodup_cons.mp nd).1 (by show j ∈ c.map Ent.slot; rw [← q]; exact v.inSlots)
    rcases h with ⟨e0, h1, h⟩ | ⟨b', q, o1, os1, e0, rfl, h1, h2, h3, h4⟩
    · obtain ⟨os', k1, k2, k3⟩ := Var.restoreO v (List.nodup_cons.mp nd).2 w hp l n no h
      exact ⟨os', .inl ⟨e0, by rw [List.getElem?_set_ne ne]; exact h1, k1⟩, k2, k3⟩
    · obtain ⟨os', k1, k2, k3⟩ := Var.restoreO v (List.nodup_cons.mp nd).2 w hp l (fun z => n (List.mem_cons_of_mem _ z)) (List.nodup_cons.mp no).2 h4
      refine ⟨q :: os', .inr ⟨b', q, o1, os', e0, rfl, by rw [List.getElem?_set_ne ne]; exact h1, h2, h3, k1⟩, List.nodup_cons.mpr ⟨fun z => ?_, k2⟩, fun r hr => ?_⟩
      · rcases k3 q z with e | e
        · exact n (by rw [e]; exact List.mem_cons_self)
        · exact (List.nodup_cons.mp no).1 e
      · rcases List.mem_cons.mp hr with e | e
        · exact .inr (by rw [e]; exact List.mem_cons_self)
        · exact (k3 r e).elim .inl fun z => .inr (List.mem_cons_of_mem _ z)
  | @Ent.sf j δ _ x :: c, .s v, γ, os, nd, w, hp, l, n, no, h => by
    have ne : i ≠ j := fun q => (List.nodup_cons.mp nd).1 (by show j ∈ c.map Ent.slot; rw [← q]; exact v.inSlots)
    obtain ⟨o1, os1, rfl, h1, h2, h3, h4⟩ := h
    obtain ⟨os', k1, k2, k3⟩ := Var.restoreO v (List.nodup_cons.mp nd).2 w hp l (fun z => n (List.mem_cons_of_mem _ z)) (List.nodup_cons.mp no).2 h4
    refine ⟨x :: os', ⟨o1, os', rfl, by rw [List.getElem?_set_ne ne]; exact h1, h2, h3, k1⟩, List.nodup_cons.mpr ⟨fun z => ?_, k2⟩, fun r hr => ?_⟩
    · rcases k3 x z with e | e
      · exact n (by rw [e]; exact List.mem_cons_self)
      · exact (List.nodup_cons.mp no).1 e
    · rcases List.mem_cons.mp hr with e | e
      · exact .inr (by rw [e]; exact List.mem_cons_self)
      · exact (k3 r e).elim .inl fun z => .inr (List.mem_cons_of_mem _ z)
theorem s_updTO [Own β] {st : Stmt} {te : TE} {m : Ctx.T c → Rs β} {j : Nat} (h : PS X st (tAsg te (gName j))) (he : ∀ σ H Q, tX F kO c m σ H Q → te σ H Q) (v : Var c (.ow j β)) (hj : F.n.lt j) (hn : (c.map Ent.slot).Nodup := by decide) : PS X st (tS F c c fun γ => (m γ).bind fun a => .ok (v.put γ a)) :=
  ps_mono h fun D σ H ⟨H0, G0, G, os, γ, st, p⟩ => he _ _ _ ⟨H0, G0, G, os, γ, st, p.step st kO fun x H1 G1 a fr ⟨q, o, ev, n, g, hq, w⟩ p1 => by
    have s := st.ext fr
    subst ev
    have nq : q ∉ os := fun z => by
      obtain ⟨o2, h2⟩ := st.r.there q z
      rw [n] at h2
      cases h2
    obtain ⟨os', k1, k2, k3⟩ := Var.restoreO v hn w hq (by rw [s.len.1]; exact hj.1) nq s.nd s.r
    exact p1 _ _ _ _ ⟨s.len.set hj, s.f, k2, fun r hr => by
      rcases k3 r hr with e | e
      · rw [e]; exact ⟨g, st.f.h.free n⟩
      · exact s.fr r e, k1⟩⟩
theorem s_updO [Own β] {m : Ctx.T c → Rs β} {j : Nat} {x : Str} {pos pos' : Pos} (hN : X.N.Nodup) (h : PE X e (tX F kO c m)) (v : Var c (.ow j β)) (hj : F.n.lt j) (hn : (c.map Ent.slot).Nodup := by decide) (hi : X.N[j]? = some x := by rfl) (hx : Loc X.env.scope x := by first | exact .inl rfl | exact .inr rfl) (hs : swapsWith e (some (.Name x pos')) pos.line X.env = pure false := by rfl) (hf : X.fn x = true ∨ X.env.scope.names.lookup x = some .local := by first | exact .inl rfl | exact .inr rfl) :
    PS X (.Assign [.Name x pos'] e pos) (tS F c c fun γ => (m γ).bind fun a => .ok (v.put γ a)) := s_updTO (ps_set hN hi hx h hs hf) (fun _ _ _ q => q) v hj hn
theorem s_lcU [Rep α] [Rep β] {fr : Bs} {y : Str} {py spos : Pos} {j : Nat} {elt tg iter : Expr} {ifs : List Expr} {scope : Scope} {own : List (Str × Nat)} {pos : Pos} {g : TG} {c1 c2 : Ctx} {mL : Ctx.T c → Rs (List α)} {mt : Ctx.T c2 → Rs Bool} {me : Ctx.T c2 → Rs β} {push : α → Ctx.T c1 → Ctx.T c2} (hc : X.calm = true) (hN : X.N.Nodup)
    (hy : X.N[j]? = some y) (hyl : X.env.scope.names.lookup y = some .local) (hsw : swapsWith (.ListComp elt [⟨tg, iter, ifs, 0⟩] scope pos) (some (.Name y py)) spos.line X.env = pure true) (hi : PI X tg iter (tI F fr c mL)) (ok : BlkOk X.N X.env.scope scope own)
    (s : Sub c c1) (hn : Ctx.nots (own.map (·.2)) c1 = true) (ht : TgtC F.blk g (own.map (·.2)) c1 c2 push)
    (hg : ∀ (s : Shared) (H : Hp) (C : Addr) (cl : List (Str × Addr)) (fp : List Addr), PG (X.blk s H scope (compEnvC scope cl C X.env) fp) tg g) (hts : ∀ (s : Shared) (H : Hp) (C : Addr) (cl : List (Str × Addr)) (fp : List Addr), PTs (X.blk s H scope (compEnvC scope cl C X.env) fp) ifs (tQ F.blk c2 mt))
    (he : ∀ (s : Shared) (H : Hp) (C : Addr) (cl : List (Str × Addr)) (fp : List Addr), PE (X.blk s H scope (compEnvC scope cl C X.env) fp) elt (tX F.blk kF c2 me)) (v : Var c (.ow j (List β))) (hj : F.n.lt j) (hn' : (c.map Ent.slot).Nodup := by decide) (hs : ∀ x, foldedSetIterable iter X.env x = pure x := by intro _; rfl) :
    PS X (.Assign [.Name y py] (.ListComp elt [⟨tg, iter, ifs, 0⟩] scope pos) spos) (tS F c c fun γ => ((mL γ).bind fun xs => if xs.length ≤ 16777216 then Rs.comp (fun x => mt (push x (s.proj γ))) (fun x => me (push x (s.proj γ))) xs else .no).bind fun a => .ok (v.put γ a)) :=
  s_updTO (m := fun γ => (mL γ).bind fun xs => if xs.length ≤ 16777216 then Rs.comp (fun x => mt (push x (s.proj γ))) (fun x => me (push x (s.proj γ))) xs else .no) (ps_setLc hc hN hy hyl hsw hi ok hg hts he hs) (fun σ H Q h => lc_of s hn ht h) v hj hn'
/-- an expression whose value is dropped -/
theorem s_expr {k : Kd F.wd α} {m : Ctx.T c → Rs α} {pos : Pos} (h : PE X e (tX F k c m)) (hs : swapsWith e none pos.line X.env = pure false := by rfl) : PS X (.Expr e pos) (tS F c c fun γ => (m γ).bind fun _ => .ok γ) :=
  ps_mono (ps_expr h hs) fun D σ H ⟨H0, G0, G, os, γ, st, p⟩ => ⟨H0, G0, G, os, γ, st, p.step st k fun v H1 G1 a f1 r p1 => p1 _ _ _ _ (st.ext f1)⟩
/-- what is never come to -/
theorem b_never {kr : Kd F.wd ρ} {sts : List Stmt} : PSs X sts (tT F kr c fun _ => .no) := pss_mono pss_never fun D σ H ⟨H0, G0, G, os, γ, st, p⟩ => p
theorem b_neverG {kr : Kd F.wd ρ} {c' : Ctx} {sts : List Stmt} : PSs X sts (tG F kr c c' fun _ => .no) := pss_mono pss_never fun D σ H ⟨H0, G0, G, os, γ, st, p⟩ => p
theorem b_neverS {c' : Ctx} {sts : List Stmt} : PSs X sts (tS F c c' fun _ => .no) := pss_mono pss_never fun D σ H ⟨H0, G0, G, os, γ, st, p⟩ => p
/-- a store to any target -/
theorem s_asgG [Rep α] {c1 c' : Ctx} {st : Stmt} {g : TG} {m : Ctx.T c → Rs α} {push : α → Ctx.T c' → Ctx.T c1} (h : PS X st (tAsg (tX F kF c m) g)) (s : Sub c c') (ht : TgtOk F g c' c1 push) : PS X st (tS F c c1 fun γ => (m γ).bind fun a => .ok (push a (s.proj γ))) :=
  ps_mono h fun D σ H ⟨H0, G0, G, os, γ, st, p⟩ => ⟨H0, G0, G, os, γ, st, p.step st kF fun v H1 G1 a f1 r p1 => by
    obtain ⟨os', _, q⟩ := (st.ext f1).sub s
    exact ht q r fun σ' st' => p1 _ _ _ _ st'⟩
/-! ### changes of an owned list -/
theorem Stt.write [Own β] {wd : Wd} {n : Sl} {H0 G0 H G : Hp} {σ : L2.St} {os : List Addr} {γ : Ctx.T c} {i : Nat} (v : Var c (.ow i β)) (st : Stt wd n H0 G0 σ H G os c γ) : ∃ p o, σ[i]? = some (some (.ref p)) ∧ H p = some o ∧ own wd G o (v.get γ) ∧
    ∀ o' b, own wd G o' b → Stt wd n H0 G0 σ (upd H p o') G os c (v.put γ b) := by
  obtain ⟨p, o, h1, h2, h3, h4, h5⟩ := v.write st.nd st.r
  obtain ⟨gp, hp⟩ := st.fr p h1
  exact ⟨p, o, h2, h3, h4, fun o' b w => ⟨st.len, ⟨Same.upd' st.f.h hp, st.f.g, fun a u q => by rw [upd_ne (ne_of_none q gp)]; exact st.f.gh a u q, st.f.new⟩, st.nd, st.fr, h5 o' b w⟩⟩
def setI (xs : List α) (k : Int) (a : α) : Rs (List α) := match ixN xs.length k with
  | some j => .ok (xs.set j a)
  | none => .no
def appI (xs : List α) (a : α) : Rs (List α) := if xs.length < 16777216 then .ok (xs ++ [a]) else .no
theorem s_store [Rep α] {j : Nat} {i : Expr} {m : Ctx.T c → Rs α} {mi : Ctx.T c → Rs Int} {x : Str} {p1 p2 pos : Pos} (v : Var c (.ow j (List α))) (h : PE X e (tX F kF c m)) (hi : PE X i (tX F kF c mi)) (hN : X.N[j]? = some x := by rfl) (hv : Vis X.env.scope x := by first | exact Or.inl rfl | exact Or.inr (Or.inl rfl) | exact Or.inr (Or.inr rfl))
    (hd : (x == ("__debug__" : Str)) = false := by decide) (hcd : (x == ("__classdict__" : Str)) = false := by decide)
    (ha : ∀ v, assign (.Subscript (.Name x p1) i p2) X.env v = (do let ov ← holding [v] (eval (.Name x p1) X.env); let iv ← holding [v, ov] (eval i X.env); standAt p2; holding [v, ov, iv] (setItem ov iv v); release [v, ov, iv] []) := by intro _; rfl)
    (hs : swapsWithSole [.Subscript (.Name x p1) i p2] e pos.line X.env = pure false := by rfl) (hw : swappedStores [.Subscript (.Name x p1) i p2] e X.env = pure none := by rfl) (h1 : (assignEach [.Subscript (.Name x p1) i p2] X.env).map (·.2) = [assign (.Subscript (.Name x p1) i p2) X.env] := by rfl) :
    PS X (.Assign [.Subscript (.Name x p1) i p2] e pos) (tS F c c fun γ => (m γ).bind fun a => (mi γ).bind fun k => (setI (v.get γ) k a).bind fun ys => .ok (v.put γ ys)) :=
  ps_mono (ps_asg h (pg_sub (pe_var hN hv hd hcd) hi set_list ha) hs hw h1) fun D σ H ⟨H0, G0, G, os, γ, st, p⟩ => ⟨H0, G0, G, os, γ, st, p.step st kF fun va H1 G1 a f1 r1 p1 => by
    have st1 := st.ext f1
    obtain ⟨q, o, e1, e2, e3, e4⟩ := st1.write v
    refine ⟨.ref q, e1, H0, G0, G1, os, γ, st1, p1.step st1 kF fun vk H2 G2 k f2 r2 p2 => ?_⟩
    have st2 := st1.ext f2
    obtain ⟨q2, o2, d1, d2, ⟨vs, d3, d5, d6⟩, d4⟩ := st2.write v
    subst d3
    have eq : q2 = q := by rw [e1] at d1; injection d1 with d1; injection d1 with d1; injection d1 with d1; exact d1.symm
    subst eq
    have p3 : PostN F H0 G0 c D ((setI (v.get γ) k a).bind fun ys => .ok (v.put γ ys)) := p2
    unfold setI at p3
    cases ei : ixN (v.get γ).length k with
    | none => rw [ei] at p3; exact p3.elim
    | some j' =>
      rw [ei] at p3
      exact ⟨q2, vs, k, j', rfl, r2, d2, by rw [d6.len]; exact ei, p3 _ _ _ _ (d4 _ _ ⟨_, rfl, by rw [List.length_set]; exact d5, d6.set j' (Rep.mono f2.g r1)⟩)⟩⟩
theorem s_append [Rep α] {j : Nat} {m : Ctx.T c → Rs α} {x : Str} {p1 apos cpos pos : Pos} (v : Var c (.ow j (List α))) (h : PE X e (tX F kF c m)) (hN : X.N[j]? = some x := by rfl) (hv : Vis X.env.scope x := by first | exact Or.inl rfl | exact Or.inr (Or.inl rfl) | exact Or.inr (Or.inr rfl))
    (hd : (x == ("__debug__" : Str)) = false := by decide) (hcd : (x == ("__classdict__" : Str)) = false := by decide) (he : starEach (e :: []) X.env = (false, eval e X.env) :: starEach [] X.env := by rfl)
    (hbase : attributeBase (.Name x p1) "append" X.env (eval (.Name x p1) X.env) = eval (.Name x p1) X.env := by rfl)
    (hfew : ((backTo cpos (starEach (e :: []) X.env)).all (fun x => !x.1) && (backToKw cpos (keywordEach [] X.env)).all (fun x => x.1.isSome) && decide ((e :: []).length + ([] : List Keyword).length + (if ([] : List Keyword).isEmpty then 0 else 1) < 30)) = true := by rfl)
    (hline : (apos.endLine == cpos.line) = true := by rfl) (hplain : (backTo cpos (starEach [] X.env)).any (·.1) = false := by rfl) (hs : swapsWith (.Call (.Attribute (.Name x p1) "append" apos) [e] [] cpos) none pos.line X.env = pure false := by rfl) :
    PS X (.Expr (.Call (.Attribute (.Name x p1) "append" apos) [e] [] cpos) pos) (tS F c c fun γ => (m γ).bind fun a => (appI (v.get γ) a).bind fun ys => .ok (v.put γ ys)) :=
  ps_mono (ps_expr (pe_bm PySem.F.plainAttrs_list PySem.F.slot_list_append PySem.F.type_list_append mt_append (pe_var hN hv hd hcd) (pa_cons h pa_nil he) hbase hfew hline he hplain) hs) fun D σ H ⟨H0, G0, G, os, γ, st, p⟩ => by
    obtain ⟨q, o, e1, e2, ⟨vs, e3, e5, e6⟩, e4⟩ := st.write v
    subst e3
    refine ⟨.ref q, e1, .inl ⟨rfl, _, .of e2⟩, H0, G0, G, os, γ, st, p.step st kF fun va H1 G1 a f1 r1 p1 => ?_⟩
    have st1 := st.ext f1
    obtain ⟨q2, o2, d1, d2, ⟨vs2, d3, d5, d6⟩, d4⟩ := st1.write v
    subst d3
    have eq : q2 = q := by rw [e1] at d1; injection d1 with d1; injection d1 with d1; injection d1 with d1; exact d1.symm
    subst eq
    have p3 : PostN F H0 G0 c D ((appI (v.get γ) a).bind fun ys => .ok (v.put γ ys)) := p1
    unfold appI at p3
    by_cases hl : (v.get γ).length < 16777216
    · rw [if_pos hl] at p3
      exact ⟨q2, vs2, va, rfl, rfl, d2, by rw [d6.len, sizeLine_eq]; exact hl, p3 _ _ _ _ (d4 _ _ ⟨_, rfl, by rw [List.length_append, d6.len, sizeLine_eq]; exact hl, d6.snoc r1⟩)⟩
    · rw [if_neg hl] at p3
      exact p3.elim
end
/-! ### what a def promises, its call -/
def spF (wd : Wd) {ρ : Type} (k : Kd wd ρ) (Γ : Ctx) (m : Ctx.T Γ → Rs ρ) : Sp := fun vs H Q E => vs.length = Γ.length ∧ ∃ G γ, Same G H ∧ RA wd H G 0 Γ γ vs ∧
  match m γ with
  | .ok r => ∀ H' G' v, Fr H G H' G' → k.rel H H' G' v r → Q v H'
  | .ex x => ∀ d H' G', Fr H G H' G' → RepX G' d x → E (.ref (wd.cm x.cls)) d H'
  | .no => False
section
variable {P : Program} {w : World} {K : PySem.W.Frag} {mg : Str → Option Value} {base : Heap}
theorem start_get {N : List Str} {vs : List V} {k : Nat} {v : V} (h : vs[k]? = some v) : (L2.start N vs)[0 + k]? = some (some v) := by
  unfold L2.start
  rw [Nat.zero_add, List.getElem?_append_left (by rw [List.length_map]; exact (List.getElem?_eq_some_iff.mp h).1), List.getElem?_map, h]
  rfl
theorem fn_ok {ρ : Type} {wd : Wd} {kr : Kd wd ρ} {Γ : Ctx} {m : Ctx.T Γ → Rs ρ} {x qual : Str} {st : Stmt} {f : Addr} {fd : FuncData} {N ps : List Str} {k : Nat} (F : Fun K x qual st f fd) (S : FnScope N ps (defScope st)) (hl : Γ.length = ps.length)
    (body : ∀ (cdv : Value) (A : Around) (outer : List Env) (s : Shared) (H : Hp) (E : XK), Room k (A.deeper (envOfC qual (defScope st) s.heap.objs.size f cdv)) →
      PSs (cxOf (L2N.CX P w) P w K mg base N qual (defScope st) f cdv A outer s H E) (defBody st) (tT ⟨wd, Sl.all N.length, fun cls d _ H => E cls d H⟩ kr Γ m)) : FnOk P w K mg base (L2N.CX P w) (k + 1) f fd ps (spF wd kr Γ m) := by
  have hpl : ps.length ≤ N.length := by have := congrArg List.length S.pre; rw [List.length_take] at this; omega
  refine okN F S (fun vs H Q E h => h.1.trans hl) (fun cdv A outer s H vs Q E hr h => ⟨_, body cdv A outer s H E hr, ?_⟩)
  obtain ⟨h1, G, γ, gh, ra, p⟩ := h
  refine ⟨H, G, G, [], γ, ⟨?_, Fr.refl gh, List.nodup_nil, fun _ z => (by cases z), RA.r (fun k v e => start_get e) ra⟩, ?_⟩
  · refine ⟨?_, trivial⟩
    show _ = N.length
    unfold L2.start
    rw [List.length_append, List.length_map, List.length_replicate]
    omega
  · cases e : m γ with
    | no => rw [e] at p; exact p
    | ex x => rw [e] at p; exact fun d σ H' G' _ => p d H' G'
    | ok r => rw [e] at p; exact fun H' G' v f q => p H' G' v f q
/-- .. whose body only falls off its end -/
theorem fn_okN {wd : Wd} {Γ c' : Ctx} {m : Ctx.T Γ → Rs (Ctx.T c')} {x qual : Str} {st : Stmt} {f : Addr} {fd : FuncData} {N ps : List Str} {k : Nat} (F : Fun K x qual st f fd) (S : FnScope N ps (defScope st)) (hl : Γ.length = ps.length)
    (body : ∀ (cdv : Value) (A : Around) (outer : List Env) (s : Shared) (H : Hp) (E : XK), Room k (A.deeper (envOfC qual (defScope st) s.heap.objs.size f cdv)) →
      PSs (cxOf (L2N.CX P w) P w K mg base N qual (defScope st) f cdv A outer s H E) (defBody st) (tS ⟨wd, Sl.all N.length, fun cls d _ H => E cls d H⟩ Γ c' m)) : FnOk P w K mg base (L2N.CX P w) (k + 1) f fd ps (spF wd (kF (α := Unit)) Γ fun γ => (m γ).bind fun _ => .ok ()) := by
  have hpl : ps.length ≤ N.length := by have := congrArg List.length S.pre; rw [List.length_take] at this; omega
  refine okN F S (fun vs H Q E h => h.1.trans hl) (fun cdv A outer s H vs Q E hr h => ⟨_, body cdv A outer s H E hr, ?_⟩)
  obtain ⟨h1, G, γ, gh, ra, p⟩ := h
  refine ⟨H, G, G, [], γ, ⟨?_, Fr.refl gh, List.nodup_nil, fun _ z => (by cases z), RA.r (fun k v e => start_get e) ra⟩, ?_⟩
  · refine ⟨?_, trivial⟩
    show _ = N.length
    unfold L2.start
    rw [List.length_append, List.length_map, List.length_replicate]
    omega
  · dsimp only at p
    cases e : m γ with
    | no => rw [e] at p; exact p
    | ex x => rw [e] at p; exact fun d σ H' G' _ => p d H' G'
    | ok r => rw [e] at p; exact fun σ' H' G' os st => p H' G' .non st.f rfl
end
section
variable {X : Cx} {F : Fx} {c : Ctx} {α β δ ρ : Type} {e : Expr} {es : List Expr}
theorem sp_of {kr : Kd F.wd ρ} {Γ : Ctx} {m : Ctx.T Γ → Rs ρ} {ma : Ctx.T c → Rs (Ctx.T Γ)} {σ : L2.St} {H : Hp} {Q : VK} (h : tX F kr c (fun γ => (ma γ).bind m) σ H Q) : tA F c 0 Γ ma σ H fun vs H1 => spF F.wd kr Γ m vs H1 Q (WE F.W σ) :=
  tM_post h fun vs H1 G1 g gh r p => ⟨r.len, G1, g, gh, r, by
    cases e : m g with
    | no => rw [e] at p; exact p
    | ex x => rw [e] at p; exact p
    | ok z => rw [e] at p; exact p⟩
theorem e_call {kr : Kd F.wd ρ} {Γ : Ctx} {m : Ctx.T Γ → Rs ρ} {ma : Ctx.T c → Rs (Ctx.T Γ)} {x : Str} {p pos : Pos} {f : Addr} {fd : FuncData} {ps : List Str} {k : Nat} (tk : L2N.Takes X F.W) (Fn : FnOk X.prog X.w X.K X.mg X.base (L2N.CX X.prog X.w) k f fd ps (spF F.wd kr Γ m)) (hr : Room k X.A) (hm : X.mg x = some (.ref f)) (hk : PySem.W.keepIn X.K (.ref f) = true) (hb : Binds X.K fd ps [])
    (ha : PA X (e :: es) (tA F c 0 Γ ma)) (hg : Gl X x := by rfl) (hdb : (x == ("__debug__" : Str)) = false := by decide) (he : starEach (e :: es) X.env = (false, eval e X.env) :: starEach es X.env := by rfl) (hpl : (backTo pos (starEach es X.env)).any (·.1) = false := by rfl) :
    PE X (.Call (.Name x p) (e :: es) [] pos) (tX F kr c fun γ => (ma γ).bind m) :=
  pe_mono (pe_callS Fn hr hg hm hk hb (fun σ => L2N.passAt tk σ) ha hdb he hpl) fun σ H Q h => sp_of h
end
end Wm
set_option Elab.async false
set_option linter.all false
set_option maxRecDepth 100000
set_option maxHeartbeats 4000000
namespace Wm
open PySem PySem.Spec PyProof.Rows L2
open Rep (rep)
open Own (own)
/-! ### texts -/
theorem Str.len_toList (a : Str) : a.length = a.cps.toList.length := by simp [Str.length]
theorem SOk.len {a : Str} (h : SOk a) : a.length ≤ sizeLine := by rw [Str.len_toList, sizeLine_eq]; exact h.1
theorem SOk.strOk {a : Str} (h : SOk a) : PyData.strOk a = true := by
  unfold PyData.strOk
  rw [Array.all_eq_true']
  intro c hc
  exact decide_eq_true (h.2 c (by simpa using hc))
/-! ### == by data -/
class PyEq (α : Type) [Rep α] [DecidableEq α] where
  d : α → PyData
  dep : Nat
  dp : ∀ {wd : Wd} {K : PySem.W.Frag} {H G : Hp} {v : V} {a : α}, Same G H → rep wd G v a → Dp K H v (d a)
  lay : ∀ {wd : Wd} {G : Hp} {v : V} {a : α}, rep wd G v a → (d a).canLay0 = true
  depth : ∀ a, (d a).depth ≤ dep
  eqv : ∀ a b, PyData.eqv (d a) (d b) = decide (a = b)
instance : PyEq Int where
  d := .int
  dep := 0
  dp := fun _ h => by rw [show _ = V.int _ from h]; exact .int _
  lay := fun _ => by unfold PyData.canLay0; rfl
  depth := fun a => by unfold PyData.depth; exact Nat.le_refl _
  eqv := fun a b => by unfold PyData.eqv; rw [Bool.beq_eq_decide_eq]
instance : PyEq Bool where
  d := .bool
  dep := 0
  dp := fun _ h => by rw [show _ = V.bl _ from h]; exact .bl _
  lay := fun _ => by unfold PyData.canLay0; rfl
  depth := fun a => by unfold PyData.depth; exact Nat.le_refl _
  eqv := fun a b => by unfold PyData.eqv; rw [Bool.beq_eq_decide_eq]
instance : PyEq Str where
  d := .str
  dep := 0
  dp := fun _ h => by rw [show _ = V.str _ from h.1]; exact .str _
  lay := fun h => by unfold PyData.canLay0; exact h.2.strOk
  depth := fun a => by unfold PyData.depth; exact Nat.le_refl _
  eqv := fun a b => by unfold PyData.eqv; rfl
section
variable {α β : Type} [Rep α] [DecidableEq α] [PyEq α] [Rep β] [DecidableEq β] [PyEq β]
theorem dpAll {wd : Wd} {K : PySem.W.Frag} {H G : Hp} (s : Same G H) : ∀ {vs : List V} {as : List α}, reps wd G vs as → DpAll K H vs (as.map PyEq.d)
  | [], [], _ => .nil
  | _ :: _, _ :: _, ⟨h, t⟩ => .cons (PyEq.dp s h) (dpAll s t)
  | [], _ :: _, h => h.elim
  | _ :: _, [], h => h.elim
theorem layAll {wd : Wd} {G : Hp} : ∀ {vs : List V} {as : List α}, reps wd G vs as → PyData.canLayAll0 (as.map PyEq.d) = true
  | [], [], _ => by unfold PyData.canLayAll0; rfl
  | _ :: _, _ :: _, ⟨h, t⟩ => by
    show PyData.canLayAll0 (PyEq.d _ :: _) = true
    unfold PyData.canLayAll0
    rw [PyEq.lay h, layAll t]
    rfl
  | [], _ :: _, h => h.elim
  | _ :: _, [], h => h.elim
theorem depthAll_le : ∀ as : List α, PyData.depthAll (as.map PyEq.d) ≤ PyEq.dep α
  | [] => by show PyData.depthAll [] ≤ _; unfold PyData.depthAll; exact Nat.zero_le _
  | a :: as => by
    show PyData.depthAll (PyEq.d a :: as.map PyEq.d) ≤ _
    unfold PyData.depthAll
    exact Nat.max_le.mpr ⟨PyEq.depth a, depthAll_le as⟩
theorem eqvAll_of : ∀ as bs : List α, PyData.eqvAll (as.map PyEq.d) (bs.map PyEq.d) = decide (as = bs)
  | [], [] => by show PyData.eqvAll [] [] = _; unfold PyData.eqvAll; rfl
  | [], b :: bs => by show PyData.eqvAll [] (_ :: _) = _; unfold PyData.eqvAll; rfl
  | a :: as, [] => by show PyData.eqvAll (_ :: _) [] = _; unfold PyData.eqvAll; rfl
  | a :: as, b :: bs => by
    show PyData.eqvAll (PyEq.d a :: as.map PyEq.d) (PyEq.d b :: bs.map PyEq.d) = _
    unfold PyData.eqvAll
    rw [PyEq.eqv, eqvAll_of as bs]
    by_cases h1 : a = b
    · by_cases h2 : as = bs
      · rw [decide_eq_true h1, decide_eq_true h2, decide_eq_true (by rw [h1, h2])]; rfl
      · rw [decide_eq_true h1, decide_eq_false h2, decide_eq_false fun z => h2 (List.cons.inj z).2]; rfl
    · rw [decide_eq_false h1, decide_eq_false fun z => h1 (List.cons.inj z).1]; rfl
instance : PyEq (List α) where
  d := fun as => .list (as.map PyEq.d)
  dep := PyEq.dep α + 1
  dp := fun s ⟨p, o, e1, e2, vs, e3, e4, r⟩ => by
    subst e1; subst e3
    exact .lst (.of (s _ _ e2)) (dpAll s r)
  lay := fun ⟨p, o, e1, e2, vs, e3, e4, r⟩ => by unfold PyData.canLay0; exact layAll r
  depth := fun as => by unfold PyData.depth; exact Nat.succ_le_succ (depthAll_le as)
  eqv := fun as bs => by unfold PyData.eqv; exact eqvAll_of as bs
instance {α : Type} [DecidableEq α] : DecidableEq (Tup α) := fun a b => if h : a.items = b.items then .isTrue (by cases a; cases b; congr) else .isFalse fun z => h (by rw [z])
instance : PyEq (Tup α) where
  d := fun as => .tuple (as.items.map PyEq.d)
  dep := PyEq.dep α + 1
  dp := fun s ⟨p, o, e1, e2, vs, e3, e4, r⟩ => by
    subst e1; subst e3
    exact .tup (.of (s _ _ e2)) (dpAll s r)
  lay := fun ⟨p, o, e1, e2, vs, e3, e4, r⟩ => by unfold PyData.canLay0; exact layAll r
  depth := fun as => by unfold PyData.depth; exact Nat.succ_le_succ (depthAll_le as.items)
  eqv := fun as bs => by
    unfold PyData.eqv
    rw [eqvAll_of]
    by_cases h : as.items = bs.items
    · rw [decide_eq_true h, decide_eq_true (by cases as; cases bs; congr)]
    · rw [decide_eq_false h, decide_eq_false fun z => h (by rw [z])]
instance : PyEq (α × β) where
  d := fun x => .tuple [PyEq.d x.1, PyEq.d x.2]
  dep := max (PyEq.dep α) (PyEq.dep β) + 1
  dp := fun s ⟨p, o, e1, e2, v, w, e3, r1, r2⟩ => by
    subst e1; subst e3
    exact .tup (.of (s _ _ e2)) (.cons (PyEq.dp s r1) (.cons (PyEq.dp s r2) .nil))
  lay := fun ⟨p, o, e1, e2, v, w, e3, r1, r2⟩ => by
    unfold PyData.canLay0 PyData.canLayAll0 PyData.canLayAll0 PyData.canLayAll0
    rw [PyEq.lay r1, PyEq.lay r2]; rfl
  depth := fun x => by
    unfold PyData.depth PyData.depthAll PyData.depthAll PyData.depthAll
    have h1 := PyEq.depth x.1
    have h2 := PyEq.depth x.2
    omega
  eqv := fun x y => by
    unfold PyData.eqv PyData.eqvAll PyData.eqvAll PyData.eqvAll
    rw [PyEq.eqv, PyEq.eqv]
    obtain ⟨a, b⟩ := x
    obtain ⟨a', b'⟩ := y
    by_cases h1 : a = a'
    · by_cases h2 : b = b'
      · rw [decide_eq_true h1, decide_eq_true h2, decide_eq_true (by rw [h1, h2])]; rfl
      · rw [decide_eq_true h1, decide_eq_false h2, decide_eq_false fun z => h2 (Prod.mk.inj z).2]; rfl
    · rw [decide_eq_false h1, decide_eq_false fun z => h1 (Prod.mk.inj z).1]; rfl
theorem shaped_of {wd : Wd} {G : Hp} {v : V} {a : α} (h : rep wd G v a) (hd : PyEq.dep α ≤ 64) : SeqAt.shaped (PyEq.d a) = true := by
  unfold SeqAt.shaped
  rw [PyEq.lay h, decide_eq_true (Nat.le_trans (PyEq.depth a) hd)]
  rfl
theorem m_eqD {wd : Wd} {K : PySem.W.Frag} (hd : PyEq.dep α ≤ 64 := by decide) : Sem2 (wd := wd) (α := α) (β := α) kF kF kF (rEqD K) (fun a b => .ok (decide (a = b))) := by
  intro W σ B1 B2 H G x y a b Q gh hx hy p
  refine ⟨_, _, PyEq.dp gh hx, PyEq.dp gh hy, shaped_of hx hd, shaped_of hy hd, ?_⟩
  rw [PyEq.eqv]
  exact p H G _ (Fr.refl gh) rfl
theorem m_neD {wd : Wd} {K : PySem.W.Frag} (hd : PyEq.dep α ≤ 64 := by decide) : Sem2 (wd := wd) (α := α) (β := α) kF kF kF (rNeD K) (fun a b => .ok (!decide (a = b))) := by
  intro W σ B1 B2 H G x y a b Q gh hx hy p
  refine ⟨_, _, PyEq.dp gh hx, PyEq.dp gh hy, shaped_of hx hd, shaped_of hy hd, ?_⟩
  rw [PyEq.eqv]
  exact p H G _ (Fr.refl gh) rfl
/-- lists that are only read: the cells in the heap, the items frozen -/
theorem dpB {wd : Wd} {K : PySem.W.Frag} {B H G : Hp} {v : V} {as : List α} (s : Same G H) (h : (kB (wd := wd)).rel B H G v as) : Dp K H v (PyEq.d as) ∧ (PyEq.d as).canLay0 = true := by
  obtain ⟨p, o, e1, e2, vs, e3, e4, r⟩ := h
  subst e1; subst e3
  exact ⟨.lst (.of e2) (dpAll s r), by show PyData.canLay0 (.list _) = true; unfold PyData.canLay0; exact layAll r⟩
theorem shapedB {as : List α} (h : (PyEq.d as).canLay0 = true) (hd : PyEq.dep (List α) ≤ 64) : SeqAt.shaped (PyEq.d as) = true := by
  unfold SeqAt.shaped
  rw [h, decide_eq_true (Nat.le_trans (PyEq.depth as) hd)]
  rfl
theorem m_eqB {wd : Wd} {K : PySem.W.Frag} (hd : PyEq.dep (List α) ≤ 64 := by decide) : Sem2 (wd := wd) (α := List α) (β := List α) kB kB kF (rEqD K) (fun a b => .ok (decide (a = b))) := by
  intro W σ B1 B2 H G x y a b Q gh hx hy p
  obtain ⟨h1, h2⟩ := dpB (K := K) gh hx
  obtain ⟨h3, h4⟩ := dpB (K := K) gh hy
  refine ⟨_, _, h1, h3, shapedB h2 hd, shapedB h4 hd, ?_⟩
  rw [PyEq.eqv]
  exact p H G _ (Fr.refl gh) rfl
theorem m_neB {wd : Wd} {K : PySem.W.Frag} (hd : PyEq.dep (List α) ≤ 64 := by decide) : Sem2 (wd := wd) (α := List α) (β := List α) kB kB kF (rNeD K) (fun a b => .ok (!decide (a = b))) := by
  intro W σ B1 B2 H G x y a b Q gh hx hy p
  obtain ⟨h1, h2⟩ := dpB (K := K) gh hx
  obtain ⟨h3, h4⟩ := dpB (K := K) gh hy
  refine ⟨_, _, h1, h3, shapedB h2 hd, shapedB h4 hd, ?_⟩
  rw [PyEq.eqv]
  exact p H G _ (Fr.refl gh) rfl
end
/-! ### ints, bools, texts -/
section
variable {wd : Wd} {K : PySem.W.Frag} {α β : Type}
theorem m_eqI : Sem2 (wd := wd) kF kF kF rEq (fun (a b : Int) => .ok (decide (a = b))) := by
  intro W σ B1 B2 H G x y a b Q gh hx hy p
  rw [show x = .int a from hx, show y = .int b from hy]
  refine ⟨rfl, ?_⟩
  rw [dec_int, Bool.beq_eq_decide_eq]
  exact p H G _ (Fr.refl gh) rfl
theorem m_neI : Sem2 (wd := wd) kF kF kF rNe (fun (a b : Int) => .ok (!decide (a = b))) := by
  intro W σ B1 B2 H G x y a b Q gh hx hy p
  rw [show x = .int a from hx, show y = .int b from hy]
  refine ⟨rfl, ?_⟩
  rw [dec_int, Bool.beq_eq_decide_eq]
  exact p H G _ (Fr.refl gh) rfl
theorem m_eqL : Sem2 (wd := wd) kF kF kF rEq (fun (a b : Bool) => .ok (decide (a = b))) := by
  intro W σ B1 B2 H G x y a b Q gh hx hy p
  rw [show x = .bl a from hx, show y = .bl b from hy]
  refine ⟨rfl, ?_⟩
  rw [dec_bl, Bool.beq_eq_decide_eq]
  exact p H G _ (Fr.refl gh) rfl
theorem m_neL : Sem2 (wd := wd) kF kF kF rNe (fun (a b : Bool) => .ok (!decide (a = b))) := by
  intro W σ B1 B2 H G x y a b Q gh hx hy p
  rw [show x = .bl a from hx, show y = .bl b from hy]
  refine ⟨rfl, ?_⟩
  rw [dec_bl, Bool.beq_eq_decide_eq]
  exact p H G _ (Fr.refl gh) rfl
theorem m_eqS : Sem2 (wd := wd) kF kF kF rEq (fun (a b : Str) => .ok (decide (a = b))) := by
  intro W σ B1 B2 H G x y a b Q gh hx hy p
  rw [show x = .str a from hx.1, show y = .str b from hy.1]
  refine ⟨rfl, ?_⟩
  rw [dec_str, show (a == b) = decide (a = b) from rfl]
  exact p H G _ (Fr.refl gh) rfl
theorem m_neS : Sem2 (wd := wd) kF kF kF rNe (fun (a b : Str) => .ok (!decide (a = b))) := by
  intro W σ B1 B2 H G x y a b Q gh hx hy p
  rw [show x = .str a from hx.1, show y = .str b from hy.1]
  refine ⟨rfl, ?_⟩
  rw [dec_str, show (a == b) = decide (a = b) from rfl]
  exact p H G _ (Fr.refl gh) rfl
theorem m_lt : Sem2 (wd := wd) kF kF kF (rI0 fun i j => .bl (decide (i < j))) (fun (a b : Int) => .ok (decide (a < b))) := m_I0 (f := fun a b => decide (a < b)) fun _ _ _ => rfl
theorem m_le : Sem2 (wd := wd) kF kF kF (rI0 fun i j => .bl (decide (i ≤ j))) (fun (a b : Int) => .ok (decide (a ≤ b))) := m_I0 (f := fun a b => decide (a ≤ b)) fun _ _ _ => rfl
theorem m_gt : Sem2 (wd := wd) kF kF kF (rI0 fun i j => .bl (decide (j < i))) (fun (a b : Int) => .ok (decide (b < a))) := m_I0 (f := fun a b => decide (b < a)) fun _ _ _ => rfl
theorem m_ge : Sem2 (wd := wd) kF kF kF (rI0 fun i j => .bl (decide (j ≤ i))) (fun (a b : Int) => .ok (decide (b ≤ a))) := m_I0 (f := fun a b => decide (b ≤ a)) fun _ _ _ => rfl
theorem m_add : Sem2 (wd := wd) kF kF kF (rI0 fun i j => .int (i + j)) (fun (a b : Int) => .ok (a + b)) := m_I0 fun _ _ _ => rfl
theorem m_sub : Sem2 (wd := wd) kF kF kF (rI0 fun i j => .int (i - j)) (fun (a b : Int) => .ok (a - b)) := m_I0 fun _ _ _ => rfl
theorem m_mul : Sem2 (wd := wd) kF kF kF (rI CMul fun i j => .int (i * j)) (fun (a b : Int) => if CMul a b then .ok (a * b) else .no) := m_I fun _ _ _ => rfl
theorem m_mulW : Sem2 (wd := wd) kF kF kF (rI CMulW fun i j => .int (i * j)) (fun (a b : Int) => if CMulW a b then .ok (a * b) else .no) := m_I fun _ _ _ => rfl
theorem m_div : Sem2 (wd := wd) kF kF kF (rI CDiv fun i j => .int (i / j)) (fun (a b : Int) => if CDiv a b then .ok (a / b) else .no) := m_I fun _ _ _ => rfl
theorem m_divW : Sem2 (wd := wd) kF kF kF (rI CDivW fun i j => .int (i / j)) (fun (a b : Int) => if CDivW a b then .ok (a / b) else .no) := m_I fun _ _ _ => rfl
theorem m_mod : Sem2 (wd := wd) kF kF kF (rI (fun _ j => 0 < j) fun i j => .int (i % j)) (fun (a b : Int) => if 0 < b then .ok (a % b) else .no) := m_I (C := fun _ j => 0 < j) (f := fun a b => a % b) fun _ _ _ => rfl
theorem m_pow : Sem2 (wd := wd) kF kF kF (rI CPow fun i j => .int (i ^ j.toNat)) (fun (a b : Int) => if CPow a b then .ok (a ^ b.toNat) else .no) := m_I (f := fun a b => a ^ b.toNat) fun _ _ _ => rfl
theorem m_and : Sem2 (wd := wd) kF kF kF (rI0 fun i j => .int (Builtin.bitAnd i j)) (fun (a b : Int) => .ok (Builtin.bitAnd a b)) := m_I0 fun _ _ _ => rfl
theorem m_neg : Sem1 (wd := wd) kF kF (rU fun i => .int (-i)) (fun (a : Int) => .ok (-a)) := m_U fun _ _ => rfl
theorem m_isN [Rep α] (h : ∀ {G v} {a : α}, rep wd G v a → v ≠ .non) : Sem2 (wd := wd) kF kF kF (fun x y H Q => y = .non ∧ Q (.bl (decide (x = .non))) H) (fun (a : Option α) (_ : Unit) => .ok a.isNone) := by
  intro W σ B1 B2 H G x y a b Q gh hx hy p
  refine ⟨hy, ?_⟩
  have e : decide (x = .non) = a.isNone := by
    cases a with
    | none => exact decide_eq_true hx
    | some a => exact decide_eq_false (h (a := a) hx)
  rw [e]
  exact p H G _ (Fr.refl gh) rfl
theorem m_notN [Rep α] (h : ∀ {G v} {a : α}, rep wd G v a → v ≠ .non) : Sem2 (wd := wd) kF kF kF (fun x y H Q => y = .non ∧ Q (.bl (!decide (x = .non))) H) (fun (a : Option α) (_ : Unit) => .ok a.isSome) := by
  intro W σ B1 B2 H G x y a b Q gh hx hy p
  refine ⟨hy, ?_⟩
  have e : (!decide (x = .non)) = a.isSome := by
    cases a with
    | none => rw [decide_eq_true (show x = .non from hx)]; rfl
    | some a => rw [decide_eq_false (h (a := a) hx)]; rfl
  rw [e]
  exact p H G _ (Fr.refl gh) rfl
theorem nn_int {G v} {a : Int} (h : rep wd G v a) : v ≠ .non := by rw [show v = .int a from h]; exact nofun
theorem nn_str {G v} {a : Str} (h : rep wd G v a) : v ≠ .non := by rw [show v = .str a from h.1]; exact nofun
theorem nn_own [Own α] {G v} {a : α} (h : rep wd G v a) : v ≠ .non := by
  obtain ⟨p, o, e, _⟩ := h
  rw [e]; exact nofun
/-- int(..), bool(..), len(..) -/
theorem m_int : Sem1 (wd := wd) kF kF (fun x => (fun xs H Q => (∃ i, xs = [V.int i] ∧ Q (.int i) H) ∨ ∃ k, xs = [V.bl k] ∧ Q (.int (if k then 1 else 0)) H : List V → Hp → VK → Prop) [x]) (fun (a : Int) => .ok a) := by
  intro W σ B H G x a Q gh hx p
  rw [show x = .int a from hx]
  exact .inl ⟨a, rfl, p H G _ (Fr.refl gh) rfl⟩
theorem m_intB : Sem1 (wd := wd) kF kF (fun x => (fun xs H Q => (∃ i, xs = [V.int i] ∧ Q (.int i) H) ∨ ∃ k, xs = [V.bl k] ∧ Q (.int (if k then 1 else 0)) H : List V → Hp → VK → Prop) [x]) (fun (a : Bool) => .ok (if a = true then (1 : Int) else 0)) := by
  intro W σ B H G x a Q gh hx p
  rw [show x = .bl a from hx]
  exact .inr ⟨a, rfl, p H G _ (Fr.refl gh) (by cases a <;> rfl)⟩
theorem m_boolB : Sem1 (wd := wd) kF kF (fun x => (fun xs H Q => (∃ i, xs = [V.int i] ∧ Q (.bl (i != 0)) H) ∨ ∃ k, xs = [V.bl k] ∧ Q (.bl k) H : List V → Hp → VK → Prop) [x]) (fun (a : Bool) => .ok a) := by
  intro W σ B H G x a Q gh hx p
  rw [show x = .bl a from hx]
  exact .inr ⟨a, rfl, p H G _ (Fr.refl gh) rfl⟩
theorem m_lenL [Rep α] : Sem1 (wd := wd) kB kF (fun x => (fun xs H Q => ∃ p ys, xs = [V.ref p] ∧ (SqL K H p ys ∨ SqT K H p ys) ∧ Q (.int ys.length) H : List V → Hp → VK → Prop) [x]) (fun (a : List α) => .ok (a.length : Int)) := by
  intro W σ B H G x a Q gh ⟨q, o, e1, e2, vs, e3, e4, r⟩ p
  subst e1; subst e3
  exact ⟨q, vs, rfl, .inl (.of e2), p H G _ (Fr.refl gh) (by show V.int _ = V.int _; rw [r.len])⟩
theorem m_lenT [Rep α] : Sem1 (wd := wd) kF kF (fun x => (fun xs H Q => ∃ p ys, xs = [V.ref p] ∧ (SqL K H p ys ∨ SqT K H p ys) ∧ Q (.int ys.length) H : List V → Hp → VK → Prop) [x]) (fun (a : Tup α) => .ok (a.items.length : Int)) := by
  intro W σ B H G x a Q gh ⟨q, o, e1, e2, vs, e3, e4, r⟩ p
  subst e1; subst e3
  exact ⟨q, vs, rfl, .inr (.of (gh _ _ e2)), p H G _ (Fr.refl gh) (by show V.int _ = V.int _; rw [r.len])⟩
theorem m_lenS : Sem1 (wd := wd) kF kF (fun x => (fun xs H Q => ∃ z : Str, xs = [V.str z] ∧ z.length ≤ sizeLine ∧ Q (.int z.length) H : List V → Hp → VK → Prop) [x]) (fun (a : Str) => .ok (a.length : Int)) := by
  intro W σ B H G x a Q gh hx p
  rw [show x = .str a from hx.1]
  exact ⟨a, rfl, hx.2.len, p H G _ (Fr.refl gh) rfl⟩
theorem m_lenScript {cm : String → Addr} : Sem1 (wd := ⟨K, cm⟩) kF kF (fun x => (fun xs H Q => ∃ p ys, xs = [V.ref p] ∧ (SqL K H p ys ∨ SqT K H p ys) ∧ Q (.int ys.length) H : List V → Hp → VK → Prop) [x]) (fun (a : Script) => .ok (a.ns.length : Int)) := by
  intro W σ B H G x a Q gh ⟨q, e1, e2⟩ p
  subst e1
  exact ⟨q, _, rfl, .inl (gh.seq e2), p H G _ (Fr.refl gh) (by show V.int _ = V.int _; rw [List.length_map])⟩
/-! ### items -/
def getI (xs : List α) (k : Int) : Rs α := match atI xs k with
  | some a => .ok a
  | none => .no
theorem atI_rep [Rep α] {G : Hp} {vs : List V} {as : List α} {k : Int} {a : α} (r : reps wd G vs as) (h : atI as k = some a) : ∃ v, atI vs k = some v ∧ rep wd G v a := by
  unfold atI at h ⊢
  rw [r.len]
  cases e : ixN as.length k with
  | none => rw [e] at h; cases h
  | some j =>
    rw [e] at h
    obtain ⟨v, h1, h2⟩ := r.get h
    exact ⟨v, h1, h2⟩
theorem m_ixL [Rep α] : Sem2 (wd := wd) kB kF kF (rIxL K) (fun (a : List α) (k : Int) => getI a k) := by
  intro W σ B1 B2 H G x y a k Q gh ⟨q, o, e1, e2, vs, e3, e4, r⟩ hy p
  subst e1; subst e3
  have p' : Post W kF σ H G Q (getI a k) := p
  unfold getI at p'
  cases e : atI a k with
  | none => rw [e] at p'; exact p'.elim
  | some z =>
    rw [e] at p'
    obtain ⟨v, h1, h2⟩ := atI_rep r e
    exact ⟨q, vs, k, v, rfl, hy, .of e2, h1, p' H G _ (Fr.refl gh) h2⟩
theorem m_ixT [Rep α] : Sem2 (wd := wd) kF kF kF (rIxT K) (fun (a : Tup α) (k : Int) => getI a.items k) := by
  intro W σ B1 B2 H G x y a k Q gh ⟨q, o, e1, e2, vs, e3, e4, r⟩ hy p
  subst e1; subst e3
  have p' : Post W kF σ H G Q (getI a.items k) := p
  unfold getI at p'
  cases e : atI a.items k with
  | none => rw [e] at p'; exact p'.elim
  | some z =>
    rw [e] at p'
    obtain ⟨v, h1, h2⟩ := atI_rep r e
    exact ⟨q, vs, k, v, rfl, hy, .of (gh _ _ e2), h1, p' H G _ (Fr.refl gh) h2⟩
theorem m_ixScript {cm : String → Addr} : Sem2 (wd := ⟨K, cm⟩) kF kF kF (rIxL K) (fun (a : Script) (k : Int) => getI a.ns k) := by
  intro W σ B1 B2 H G x y a k Q gh ⟨q, e1, e2⟩ hy p
  subst e1
  have p' : Post W kF σ H G Q (getI a.ns k) := p
  unfold getI at p'
  cases e : atI a.ns k with
  | none => rw [e] at p'; exact p'.elim
  | some z =>
    rw [e] at p'
    obtain ⟨v, h1, h2⟩ := atI_rep (wd := ⟨K, cm⟩) (G := G) (reps.of_ints (as := a.ns)) e
    exact ⟨q, _, k, v, rfl, hy, gh.seq e2, h1, p' H G _ (Fr.refl gh) h2⟩
theorem m_ixS : Sem2 (wd := wd) kF kF kF rIxS (fun (a : Str) (k : Int) => getI (chars a) k) := by
  intro W σ B1 B2 H G x y a k Q gh hx hy p
  have p' : Post W kF σ H G Q (getI (chars a) k) := p
  unfold getI at p'
  cases e : atI (chars a) k with
  | none => rw [e] at p'; exact p'.elim
  | some z =>
    rw [e] at p'
    unfold chars atI at e
    rw [List.length_map] at e
    cases e2 : ixN a.cps.toList.length k with
    | none => rw [e2] at e; cases e
    | some j =>
      rw [e2] at e
      have e' : (a.cps.toList.map fun c => (⟨#[c]⟩ : Str))[j]? = some z := e
      rw [List.getElem?_map] at e'
      cases e3 : a.cps.toList[j]? with
      | none => rw [e3] at e'; cases e'
      | some ch =>
        rw [e3] at e'
        have ez : z = ⟨#[ch]⟩ := (Option.some.inj e').symm
        refine ⟨a, k, ch, hx.1, hy, hx.2.len, ?_, p' H G _ (Fr.refl gh) ?_⟩
        · unfold atI
          rw [e2]
          exact e3
        · rw [ez]
          exact ⟨rfl, SOk.one (hx.2.2 ch (List.mem_of_getElem? e3))⟩
end
end Wm
set_option Elab.async false
set_option linter.all false
set_option maxRecDepth 100000
set_option maxHeartbeats 4000000
namespace Wm
open PySem PySem.Spec PyProof.Rows L2
open Rep (rep)
open Own (own)
theorem SOk.app {a b : Str} (h : SOk a) (k : SOk b) (l : a.length + b.length ≤ 16777216) : SOk (a ++ b) := by
  have e : (a ++ b).cps.toList = a.cps.toList ++ b.cps.toList := by show (a.cps ++ b.cps).toList = _; simp
  refine ⟨?_, ?_⟩
  · rw [e, List.length_append, ← Str.len_toList, ← Str.len_toList]; exact l
  · rw [e]
    intro c hc
    rcases List.mem_append.mp hc with z | z
    · exact h.2 c z
    · exact k.2 c z
theorem SOk.cut {a : Str} (h : SOk a) (lo hi : Option Int) : SOk (cutS a lo hi) := by
  unfold cutS
  refine ⟨?_, fun c hc => ?_⟩
  · show (List.toArray _).toList.length ≤ _
    rw [List.toList_toArray, List.length_take, List.length_drop]
    have := h.1
    omega
  · have hc' : c ∈ (List.toArray _).toList := hc
    rw [List.toList_toArray] at hc'
    exact h.2 c (List.mem_of_mem_drop (List.mem_of_mem_take hc'))
def oneCp (a : Str) : Option Nat := match a.cps.toList with
  | [c] => some c
  | _ => none
theorem oneCp_eq {a : Str} {c : Nat} (h : oneCp a = some c) : a = ⟨#[c]⟩ := by
  unfold oneCp at h
  split at h
  · rename_i d e
    cases h
    obtain ⟨x⟩ := a
    have : x = #[c] := by
      apply Array.ext'
      exact e
    rw [this]
  · cases h
/-! ### slices -/
def cutI {α : Type} (xs : List α) (lo hi : Option Int) : List α := (xs.drop (HT.sIx xs.length 0 lo)).take (HT.sIx xs.length xs.length hi - HT.sIx xs.length 0 lo)
def tP (F : Fx) (c : Ctx) (m : Ctx.T c → Rs (Option Int)) : TO := fun σ H Q => ∃ H0 G0 G os γ, Stt F.wd F.n H0 G0 σ H G os c γ ∧ match m γ with
  | .ok a => ∀ H' G', Fr H G H' G' → Q a H'
  | .ex x => ∀ d H' G', Fr H G H' G' → RepX G' d x → F.W (.ref (F.wd.cm x.cls)) d σ H'
  | .no => False
theorem po_mono {X : Cx} {e : Option Expr} {t t' : TO} (h : PO X e t) (i : ∀ σ H Q, t' σ H Q → t σ H Q) : PO X e t' := ⟨fun pins s σ H Q I q => h.run pins s σ H Q I (i σ H Q q)⟩
section
variable {X : Cx} {F : Fx} {c : Ctx} {α β δ : Type} {e : Expr} {pos : Pos}
theorem p_none : PO X none (tP F c fun _ => .ok none) := po_mono po_none fun σ H Q ⟨H0, G0, G, os, γ, st, p⟩ => p H G (Fr.refl st.f.gh)
theorem p_some {m : Ctx.T c → Rs Int} (h : PE X e (tX F kF c m)) : PO X (some e) (tP F c fun γ => (m γ).bind fun i => .ok (some i)) :=
  po_mono (po_some h) fun σ H Q ⟨H0, G0, G, os, γ, st, p⟩ => ⟨H0, G0, G, os, γ, st, by
    dsimp only at p
    cases e : m γ with
    | no => rw [e] at p; exact p
    | ex x => rw [e] at p; exact p
    | ok a => rw [e] at p; exact fun H' G' v f r => ⟨a, r, p H' G' f⟩⟩
theorem e_sl {k1 : Kd F.wd α} {k3 : Kd F.wd δ} {r : V → Option Int → Option Int → Hp → VK → Prop} {f : α → Option Int → Option Int → Rs δ} {lo hi : Option Expr} {m : Ctx.T c → Rs α} {ml mh : Ctx.T c → Rs (Option Int)} {p2 : Pos} (hr : SlR X r)
    (hs : ∀ {W : WX} {σ : L2.St} {B H G : Hp} {x : V} {a : α} {l h : Option Int} {Q : VK}, Same G H → k1.rel B H G x a → Post W k3 σ H G Q (f a l h) → r x l h H Q) (he : PE X e (tX F k1 c m)) (hl : PO X lo (tP F c ml)) (hu : PO X hi (tP F c mh)) :
    PE X (.Subscript e (.Slice lo hi none p2) pos) (tX F k3 c fun γ => (m γ).bind fun x => (ml γ).bind fun l => (mh γ).bind fun h => f x l h) :=
  pe_mono (pe_slice hr he hl hu) fun σ H Q ⟨H0, G0, G, os, γ, st, p⟩ => ⟨H0, G0, G, os, γ, st, p.step k1 fun v H1 G1 a f1 r1 p1 => ⟨H0, G0, G1, os, γ, st.ext f1, by
    cases e : ml γ with
    | no => rw [e] at p1; exact p1
    | ex x => rw [e] at p1; exact p1
    | ok l =>
      rw [e] at p1
      refine fun H2 G2 f2 => ⟨H0, G0, G2, os, γ, (st.ext f1).ext f2, ?_⟩
      have p2 := Post.ext p1 f2
      cases e2 : mh γ with
      | no => rw [e2] at p2; exact p2
      | ex x => rw [e2] at p2; exact p2
      | ok h =>
        rw [e2] at p2
        exact fun H3 G3 f3 => hs f3.gh (k1.stay r1 (f2.trans f3)) (Post.ext p2 f3)⟩⟩
theorem m_slL [Rep α] {K : PySem.W.Frag} {W : WX} {σ : L2.St} {B H G : Hp} {x : V} {a : List α} {l h : Option Int} {Q : VK} (gh : Same G H) (hx : (kB (wd := F.wd)).rel B H G x a) (p : Post W (kO (wd := F.wd)) σ H G Q (.ok (cutI a l h))) : rSlL K x l h H Q := by
  obtain ⟨q, o, e1, e2, vs, e3, e4, r⟩ := hx
  subst e1; subst e3
  refine ⟨q, vs, rfl, .of e2, fun d nd => p _ _ _ (Fr.alloc gh nd) ⟨d, _, rfl, nd, gh.free nd, upd_same, _, rfl, ?_, ?_⟩⟩
  · exact Nat.le_trans (cutV_length vs l h) e4
  · unfold cutV cutI
    rw [r.len]
    exact (r.drop _).take _
theorem e_slL [Rep α] {lo hi : Option Expr} {m : Ctx.T c → Rs (List α)} {ml mh : Ctx.T c → Rs (Option Int)} {p2 : Pos} (he : PE X e (tX F kB c m)) (hl : PO X lo (tP F c ml)) (hu : PO X hi (tP F c mh)) :
    PE X (.Subscript e (.Slice lo hi none p2) pos) (tX F kO c fun γ => (m γ).bind fun x => (ml γ).bind fun l => (mh γ).bind fun h => .ok (cutI x l h)) :=
  e_sl sl_list (fun gh hx p => m_slL gh hx p) he hl hu
theorem m_slS {W : WX} {σ : L2.St} {B H G : Hp} {x : V} {a : Str} {l h : Option Int} {Q : VK} (gh : Same G H) (hx : (kF (wd := F.wd)).rel B H G x a) (p : Post W (kF (wd := F.wd)) σ H G Q (.ok (cutS a l h))) : rSlS x l h H Q :=
  ⟨a, hx.1, hx.2.len, p H G _ (Fr.refl gh) ⟨rfl, hx.2.cut l h⟩⟩
theorem e_slS {lo hi : Option Expr} {m : Ctx.T c → Rs Str} {ml mh : Ctx.T c → Rs (Option Int)} {p2 : Pos} (he : PE X e (tX F kF c m)) (hl : PO X lo (tP F c ml)) (hu : PO X hi (tP F c mh)) :
    PE X (.Subscript e (.Slice lo hi none p2) pos) (tX F kF c fun γ => (m γ).bind fun x => (ml γ).bind fun l => (mh γ).bind fun h => .ok (cutS x l h)) :=
  e_sl sl_str (fun gh hx p => m_slS gh hx p) he hl hu
end
/-! ### further operations -/
def catI {α : Type} (xs ys : List α) : Rs (List α) := if xs.length + ys.length ≤ 16777216 then .ok (xs ++ ys) else .no
def repI {α : Type} (xs : List α) (k : Int) : Rs (List α) := if k < 9223372036854775808 ∧ -9223372036854775808 ≤ k ∧ xs.length * k.toNat ≤ 16777216 then .ok (List.replicate k.toNat xs).flatten else .no
def catS (a b : Str) : Rs Str := if a.length + b.length ≤ 16777216 then .ok (a ++ b) else .no
def joinS (a : Str) (xs : List Str) : Rs Str := if (xs.map (·.length)).sum + xs.length * a.length ≤ 16777216 ∧ SOk (Txt.join a xs) then .ok (Txt.join a xs) else .no
def maxI (xs : List Int) : Rs Int := match xs.max? with | some m => .ok m | none => .no
def minI (xs : List Int) : Rs Int := match xs.min? with | some m => .ok m | none => .no
def inS (a z : Str) : Rs Bool := match oneCp a with | some c => .ok (decide (c ∈ z.cps.toList)) | none => .no
def notInS (a z : Str) : Rs Bool := match oneCp a with | some c => .ok (!decide (c ∈ z.cps.toList)) | none => .no
section
variable {wd : Wd} {K : PySem.W.Frag} {α β : Type}
theorem reps.rep_flat [Rep α] {G : Hp} {vs : List V} {as : List α} (r : reps wd G vs as) : ∀ k : Nat, reps wd G (List.replicate k vs).flatten (List.replicate k as).flatten
  | 0 => trivial
  | k + 1 => by
    rw [List.replicate_succ, List.replicate_succ, List.flatten_cons, List.flatten_cons]
    exact r.app (reps.rep_flat r k)
theorem m_cat [Rep α] : Sem2 (wd := wd) kB kB kO rCat (fun (a b : List α) => catI a b) := by
  intro W σ B1 B2 H G x y a b Q gh ⟨q, o, e1, e2, vs, e3, e4, r⟩ ⟨q', o', d1, d2, ws, d3, d4, r'⟩ p
  subst e1; subst e3; subst d1; subst d3
  have p' : Post W kO σ H G Q (catI a b) := p
  unfold catI at p'
  by_cases h : a.length + b.length ≤ 16777216
  · rw [if_pos h] at p'
    have hz : vs.length + ws.length ≤ sizeLine := by rw [r.len, r'.len, sizeLine_eq]; exact h
    exact ⟨q, q', vs, ws, rfl, rfl, e2, d2, hz, fun d nd => p' _ _ _ (Fr.alloc gh nd) ⟨d, _, rfl, nd, gh.free nd, upd_same, _, rfl, by rw [List.length_append]; exact hz, r.app r'⟩⟩
  · rw [if_neg h] at p'
    exact p'.elim
theorem m_rep [Rep α] : Sem2 (wd := wd) kB kF kO rRep (fun (a : List α) (k : Int) => repI a k) := by
  intro W σ B1 B2 H G x y a k Q gh ⟨q, o, e1, e2, vs, e3, e4, r⟩ hy p
  subst e1; subst e3
  have p' : Post W kO σ H G Q (repI a k) := p
  unfold repI at p'
  by_cases h : k < 9223372036854775808 ∧ -9223372036854775808 ≤ k ∧ a.length * k.toNat ≤ 16777216
  · rw [if_pos h] at p'
    have hz : vs.length * k.toNat ≤ sizeLine := by rw [r.len, sizeLine_eq]; exact h.2.2
    refine ⟨q, k, vs, rfl, hy, e2, by omega, by omega, hz, fun d nd => p' _ _ _ (Fr.alloc gh nd) ⟨d, _, rfl, nd, gh.free nd, upd_same, _, rfl, ?_, r.rep_flat k.toNat⟩⟩
    rw [List.length_flatten, List.map_replicate, List.sum_replicate_nat, Nat.mul_comm]
    exact hz
  · rw [if_neg h] at p'
    exact p'.elim
theorem m_catS : Sem2 (wd := wd) kF kF kF (fun x y H Q => ∃ i j : Str, x = .str i ∧ y = .str j ∧ i.length + j.length ≤ sizeLine ∧ Q (.str (i ++ j)) H) (fun (a b : Str) => catS a b) := by
  intro W σ B1 B2 H G x y a b Q gh hx hy p
  have p' : Post W kF σ H G Q (catS a b) := p
  unfold catS at p'
  by_cases h : a.length + b.length ≤ 16777216
  · rw [if_pos h] at p'
    exact ⟨a, b, hx.1, hy.1, by rw [sizeLine_eq]; exact h, p' H G _ (Fr.refl gh) ⟨rfl, hx.2.app hy.2 h⟩⟩
  · rw [if_neg h] at p'
    exact p'.elim
theorem m_max : Sem1 (wd := wd) kB kF (fun x => rMax K [x]) maxI := by
  intro W σ B H G x a Q gh ⟨q, o, e1, e2, vs, e3, e4, r⟩ p
  subst e1; subst e3
  unfold maxI at p
  cases e : a.max? with
  | none => rw [e] at p; exact p.elim
  | some m =>
    rw [e] at p
    obtain ⟨h1, h2⟩ := List.max?_eq_some_iff.mp e
    refine ⟨q, a, rfl, ?_, ?_, fun m' h3 h4 => ?_⟩
    · rw [← r.ints]; exact .of e2
    · cases a with
      | nil => cases h1
      | cons _ _ => exact Nat.succ_pos _
    · have : m' = m := Int.le_antisymm (h2 m' h3) (h4 m h1)
      rw [this]
      exact p H G _ (Fr.refl gh) rfl
theorem m_min : Sem1 (wd := wd) kB kF (fun x => rMin K [x]) minI := by
  intro W σ B H G x a Q gh ⟨q, o, e1, e2, vs, e3, e4, r⟩ p
  subst e1; subst e3
  unfold minI at p
  cases e : a.min? with
  | none => rw [e] at p; exact p.elim
  | some m =>
    rw [e] at p
    obtain ⟨h1, h2⟩ := List.min?_eq_some_iff.mp e
    refine ⟨q, a, rfl, ?_, ?_, fun m' h3 h4 => ?_⟩
    · rw [← r.ints]; exact .of e2
    · cases a with
      | nil => cases h1
      | cons _ _ => exact Nat.succ_pos _
    · have : m' = m := Int.le_antisymm (h4 m h1) (h2 m' h3)
      rw [this]
      exact p H G _ (Fr.refl gh) rfl
theorem m_sum : Sem1 (wd := wd) kB kF (fun x => rSum K [x]) (fun (a : List Int) => .ok a.sum) := by
  intro W σ B H G x a Q gh ⟨q, o, e1, e2, vs, e3, e4, r⟩ p
  subst e1; subst e3
  exact ⟨q, a, rfl, by rw [← r.ints]; exact .of e2, p H G _ (Fr.refl gh) rfl⟩
theorem m_list [Rep α] : Sem1 (wd := wd) kB kO (fun x => (fun xs H Q => ∃ p ys, xs = [V.ref p] ∧ (SqL K H p ys ∨ SqT K H p ys) ∧ ∀ l, H l = none → Q (.ref l) (upd H l (.lst ys)) : List V → Hp → VK → Prop) [x]) (fun (a : List α) => .ok a) := by
  intro W σ B H G x a Q gh ⟨q, o, e1, e2, vs, e3, e4, r⟩ p
  subst e1; subst e3
  exact ⟨q, vs, rfl, .inl (.of e2), fun d nd => p _ _ _ (Fr.alloc gh nd) ⟨d, _, rfl, nd, gh.free nd, upd_same, _, rfl, e4, r⟩⟩
theorem m_listT [Rep α] : Sem1 (wd := wd) kF kO (fun x => (fun xs H Q => ∃ p ys, xs = [V.ref p] ∧ (SqL K H p ys ∨ SqT K H p ys) ∧ ∀ l, H l = none → Q (.ref l) (upd H l (.lst ys)) : List V → Hp → VK → Prop) [x]) (fun (a : Tup α) => .ok a.items) := by
  intro W σ B H G x a Q gh ⟨q, o, e1, e2, vs, e3, e4, r⟩ p
  subst e1; subst e3
  exact ⟨q, vs, rfl, .inr (.of (gh _ _ e2)), fun d nd => p _ _ _ (Fr.alloc gh nd) ⟨d, _, rfl, nd, gh.free nd, upd_same, _, rfl, e4, r⟩⟩
theorem m_tuple [Rep α] : Sem1 (wd := wd) kB kF (fun x => (fun xs H Q => ∃ p ys, xs = [V.ref p] ∧ ((SqL K H p ys ∧ ∀ l, H l = none → Q (.ref l) (upd H l (.tup ys))) ∨ (SqT K H p ys ∧ Q (.ref p) H)) : List V → Hp → VK → Prop) [x]) (fun (a : List α) => .ok (Tup.mk a)) := by
  intro W σ B H G x a Q gh ⟨q, o, e1, e2, vs, e3, e4, r⟩ p
  subst e1; subst e3
  exact ⟨q, vs, rfl, .inl ⟨.of e2, fun d nd => p _ _ _ ((Fr.alloc gh nd).freeze nd (gh.free nd) upd_same) ⟨d, _, rfl, upd_same, _, rfl, e4, r.mono (Same.upd' (Same.refl _) (gh.free nd))⟩⟩⟩
theorem m_in : Sem2 (wd := wd) kF kF kF (fun x y H Q => ∃ (c : Nat) (z : Str), x = .str ⟨#[c]⟩ ∧ y = .str z ∧ Q (.bl (decide (c ∈ z.cps.toList))) H) inS := by
  intro W σ B1 B2 H G x y a b Q gh hx hy p
  unfold inS at p
  cases e : oneCp a with
  | none => rw [e] at p; exact p.elim
  | some ch =>
    rw [e] at p
    exact ⟨ch, b, by rw [hx.1, oneCp_eq e], hy.1, p H G _ (Fr.refl gh) rfl⟩
theorem m_notin : Sem2 (wd := wd) kF kF kF (fun x y H Q => ∃ (c : Nat) (z : Str), x = .str ⟨#[c]⟩ ∧ y = .str z ∧ Q (.bl (!decide (c ∈ z.cps.toList))) H) notInS := by
  intro W σ B1 B2 H G x y a b Q gh hx hy p
  unfold notInS at p
  cases e : oneCp a with
  | none => rw [e] at p; exact p.elim
  | some ch =>
    rw [e] at p
    exact ⟨ch, b, by rw [hx.1, oneCp_eq e], hy.1, p H G _ (Fr.refl gh) rfl⟩
theorem flat_ints : ∀ as : List Int, (as.map V.int).all flatV = true
  | [] => rfl
  | _ :: as => flat_ints as
theorem inV_ints (a : Int) : ∀ as : List Int, inV (.int a) (as.map V.int) = decide (a ∈ as)
  | [] => rfl
  | b :: as => by
    show ((b == a) || inV (.int a) (as.map V.int)) = _
    rw [inV_ints a as, Bool.beq_eq_decide_eq]
    by_cases h : b = a
    · rw [decide_eq_true h, decide_eq_true (show a ∈ b :: as by rw [← h]; exact List.mem_cons_self)]; rfl
    · rw [decide_eq_false h]
      by_cases h2 : a ∈ as
      · rw [decide_eq_true h2, decide_eq_true (List.mem_cons_of_mem _ h2)]; rfl
      · rw [decide_eq_false h2, decide_eq_false fun z => (List.mem_cons.mp z).elim (fun q => h q.symm) h2]; rfl
theorem flat_strs : ∀ as : List Str, (as.map V.str).all flatV = true
  | [] => rfl
  | _ :: as => flat_strs as
theorem inV_strs (a : Str) : ∀ as : List Str, inV (.str a) (as.map V.str) = decide (a ∈ as)
  | [] => rfl
  | b :: as => by
    show ((b == a) || inV (.str a) (as.map V.str)) = _
    rw [inV_strs a as, show (b == a) = decide (b = a) from rfl]
    by_cases h : b = a
    · rw [decide_eq_true h, decide_eq_true (show a ∈ b :: as by rw [← h]; exact List.mem_cons_self)]; rfl
    · rw [decide_eq_false h]
      by_cases h2 : a ∈ as
      · rw [decide_eq_true h2, decide_eq_true (List.mem_cons_of_mem _ h2)]; rfl
      · rw [decide_eq_false h2, decide_eq_false fun z => (List.mem_cons.mp z).elim (fun q => h q.symm) h2]; rfl
theorem m_inI : Sem2 (wd := wd) kF kB kF (rIn K false) (fun (a : Int) (as : List Int) => .ok (decide (a ∈ as))) := by
  intro W σ B1 B2 H G x y a as Q gh hx ⟨q, o, e1, e2, vs, e3, e4, r⟩ p
  subst e1; subst e3
  rw [r.ints] at e2
  rw [show x = .int a from hx]
  refine ⟨q, _, rfl, .inl (.of e2), rfl, flat_ints as, ?_⟩
  show Q (.bl (inV _ _)) H
  rw [inV_ints]
  exact p H G _ (Fr.refl gh) rfl
theorem m_niI : Sem2 (wd := wd) kF kB kF (rIn K true) (fun (a : Int) (as : List Int) => .ok (!decide (a ∈ as))) := by
  intro W σ B1 B2 H G x y a as Q gh hx ⟨q, o, e1, e2, vs, e3, e4, r⟩ p
  subst e1; subst e3
  rw [r.ints] at e2
  rw [show x = .int a from hx]
  refine ⟨q, _, rfl, .inl (.of e2), rfl, flat_ints as, ?_⟩
  show Q (.bl (!inV _ _)) H
  rw [inV_ints]
  exact p H G _ (Fr.refl gh) rfl
theorem m_inStr : Sem2 (wd := wd) kF kB kF (rIn K false) (fun (a : Str) (as : List Str) => .ok (decide (a ∈ as))) := by
  intro W σ B1 B2 H G x y a as Q gh hx ⟨q, o, e1, e2, vs, e3, e4, r⟩ p
  subst e1; subst e3
  rw [r.strs] at e2
  rw [show x = .str a from hx.1]
  refine ⟨q, _, rfl, .inl (.of e2), rfl, flat_strs as, ?_⟩
  show Q (.bl (inV _ _)) H
  rw [inV_strs]
  exact p H G _ (Fr.refl gh) rfl
theorem m_niStr : Sem2 (wd := wd) kF kB kF (rIn K true) (fun (a : Str) (as : List Str) => .ok (!decide (a ∈ as))) := by
  intro W σ B1 B2 H G x y a as Q gh hx ⟨q, o, e1, e2, vs, e3, e4, r⟩ p
  subst e1; subst e3
  rw [r.strs] at e2
  rw [show x = .str a from hx.1]
  refine ⟨q, _, rfl, .inl (.of e2), rfl, flat_strs as, ?_⟩
  show Q (.bl (!inV _ _)) H
  rw [inV_strs]
  exact p H G _ (Fr.refl gh) rfl
end
section
variable {X : Cx} {F : Fx} {c : Ctx} {α : Type} {e : Expr} {pos : Pos}
theorem e_join {s : Expr} {ms : Ctx.T c → Rs Str} {m : Ctx.T c → Rs (List Str)} {apos : Pos} (ho : PE X s (tX F kF c ms)) (h : PE X e (tX F kB c m)) (hs : starEach [e] X.env = [(false, eval e X.env)] := by rfl) (hbase : attributeBase s "join" X.env (eval s X.env) = eval s X.env := by rfl) (hline : (apos.endLine == pos.line) = true := by rfl) :
    PE X (.Call (.Attribute s "join" apos) [e] [] pos) (tX F kF c fun γ => (ms γ).bind fun a => (m γ).bind fun xs => joinS a xs) :=
  pe_mono (pe_join ho h hs hbase hline) fun σ H Q ⟨H0, G0, G, os, γ, st, p⟩ => ⟨H0, G0, G, os, γ, st, p.step kF fun v H1 G1 a f1 r1 p1 => ⟨⟨a, r1.1⟩, H0, G0, G1, os, γ, st.ext f1, p1.step kB fun w H2 G2 xs f2 ⟨q, o, e1, e2, vs, e3, e4, r⟩ p2 => by
    subst e1; subst e3
    rw [r.strs] at e2
    unfold joinS at p2
    by_cases hz : (xs.map (·.length)).sum + xs.length * a.length ≤ 16777216 ∧ SOk (Txt.join a xs)
    · rw [if_pos hz] at p2
      exact ⟨a, q, xs, r1.1, rfl, .inl (.of e2), hz.1, p2 _ _ _ (Fr.refl f2.gh) ⟨rfl, hz.2⟩⟩
    · rw [if_neg hz] at p2
      exact p2.elim⟩⟩
/-- list(range(..)) -/
def RngL (lo hi : Int) : Rs (List Int) := if -4611686018427387904 ≤ lo ∧ lo ≤ 4611686018427387903 ∧ -4611686018427387904 ≤ hi ∧ hi ≤ 4611686018427387903 ∧ (hi - lo).toNat ≤ 16777216 then .ok (rng lo hi) else .no
theorem rgV_rng (a b : Int) : rgV a b = (rng a b).map V.int := by
  unfold rgV rng
  rw [List.map_map]
  rfl
theorem e_listR2 {a b : Expr} {ma mb : Ctx.T c → Rs Int} {p p2 pos2 : Pos} (hc : X.calm = true) (hl : X.mg "list" = none) (hm : X.mg "range" = none) (ha : PE X a (tX F kF c ma)) (hb : PE X b (tX F kF c mb)) (hgl : Gl X "list" := by rfl) (hg : Gl X "range" := by rfl)
    (na : starEach [a, b] X.env = (false, eval a X.env) :: starEach [b] X.env := by rfl) (nb : starEach [b] X.env = (false, eval b X.env) :: starEach [] X.env := by rfl) (hp : (backTo pos2 (starEach [b] X.env)).any (·.1) = false := by rfl) (ne : starEach [.Call (.Name "range" p2) [a, b] [] pos2] X.env = (false, eval (.Call (.Name "range" p2) [a, b] [] pos2) X.env) :: starEach [] X.env := by rfl) :
    PE X (.Call (.Name "list" p) [.Call (.Name "range" p2) [a, b] [] pos2] [] pos) (tX F kO c fun γ => (ma γ).bind fun x => (mb γ).bind fun y => RngL x y) :=
  pe_mono (pe_listRg hc hgl hl (prg_2 hg hm ha hb na nb hp) ne) fun σ H Q ⟨H0, G0, G, os, γ, st, p⟩ => ⟨H0, G0, G, os, γ, st, p.step kF fun v H1 G1 x f1 r1 p1 => ⟨H0, G0, G1, os, γ, st.ext f1, p1.step kF fun w H2 G2 y f2 r2 p2 => by
    unfold RngL at p2
    by_cases hz : -4611686018427387904 ≤ x ∧ x ≤ 4611686018427387903 ∧ -4611686018427387904 ≤ y ∧ y ≤ 4611686018427387903 ∧ (y - x).toNat ≤ 16777216
    · rw [if_pos hz] at p2
      refine ⟨x, y, r1, r2, ⟨by omega, by omega, by omega, by omega, by omega⟩, fun d nd => p2 _ _ _ (Fr.alloc f2.gh nd) ⟨d, _, rfl, nd, f2.gh.free nd, upd_same, _, rfl, by rw [rgV_length, sizeLine_eq]; exact hz.2.2.2.2, ?_⟩⟩
      rw [rgV_rng]
      exact reps.of_ints
    · rw [if_neg hz] at p2
      exact p2.elim⟩⟩
theorem e_listR1 {a : Expr} {ma : Ctx.T c → Rs Int} {p p2 pos2 : Pos} (hc : X.calm = true) (hl : X.mg "list" = none) (hm : X.mg "range" = none) (ha : PE X a (tX F kF c ma)) (hgl : Gl X "list" := by rfl) (hg : Gl X "range" := by rfl)
    (na : starEach [a] X.env = (false, eval a X.env) :: starEach [] X.env := by rfl) (ne : starEach [.Call (.Name "range" p2) [a] [] pos2] X.env = (false, eval (.Call (.Name "range" p2) [a] [] pos2) X.env) :: starEach [] X.env := by rfl) :
    PE X (.Call (.Name "list" p) [.Call (.Name "range" p2) [a] [] pos2] [] pos) (tX F kO c fun γ => (ma γ).bind fun y => RngL 0 y) :=
  pe_mono (pe_listRg hc hgl hl (prg_1 hg hm ha na) ne) fun σ H Q ⟨H0, G0, G, os, γ, st, p⟩ => ⟨H0, G0, G, os, γ, st, p.step kF fun v H1 G1 y f1 r1 p1 => by
    unfold RngL at p1
    by_cases hz : -4611686018427387904 ≤ (0 : Int) ∧ (0 : Int) ≤ 4611686018427387903 ∧ -4611686018427387904 ≤ y ∧ y ≤ 4611686018427387903 ∧ (y - 0).toNat ≤ 16777216
    · rw [if_pos hz] at p1
      refine ⟨y, r1, ⟨by omega, by omega, by omega, by omega, by omega⟩, fun d nd => p1 _ _ _ (Fr.alloc f1.gh nd) ⟨d, _, rfl, nd, f1.gh.free nd, upd_same, _, rfl, by rw [rgV_length, sizeLine_eq]; exact hz.2.2.2.2, ?_⟩⟩
      rw [rgV_rng]
      exact reps.of_ints
    · rw [if_neg hz] at p1
      exact p1.elim⟩
/-! ### built-ins -/
theorem bt_len : bootBuiltins "len" = some (.builtin "len") := by decide +kernel
theorem bt_max : bootBuiltins "max" = some (.builtin "max") := by decide +kernel
theorem bt_min : bootBuiltins "min" = some (.builtin "min") := by decide +kernel
theorem bt_sum : bootBuiltins "sum" = some (.builtin "sum") := by decide +kernel
theorem bt_int : bootBuiltins "int" = some (.type "int") := by decide +kernel
theorem bt_bool : bootBuiltins "bool" = some (.type "bool") := by decide +kernel
theorem bt_str : bootBuiltins "str" = some (.type "str") := by decide +kernel
theorem bt_list : bootBuiltins "list" = some (.type "list") := by decide +kernel
theorem bt_tuple : bootBuiltins "tuple" = some (.type "tuple") := by decide +kernel
theorem bt_dict : bootBuiltins "dict" = some (.type "dict") := by decide +kernel
/-! ### isinstance -/
theorem e_isi {k : Kd F.wd α} {m : Ctx.T c → Rs α} {t : α → Value} {b : α → Bool} {x y : Str} {u : Value} {cv : V} {p p2 : Pos} (hm : X.mg x = none) (ha : PE X e (tX F k c m)) (hc : PE X (.Name y p2) (tC cv)) (hu : ClsV cv u) (ht : ∀ {B H G v a}, Same G H → k.rel B H G v a → TyX X.K H v (t a)) (hb : ∀ a, PySem.W.kitOne X.K (t a) u = some (b a)) (hx : x = "isinstance" := by rfl) (hg : Gl X x := by rfl) (hv : bootBuiltins x = some (.builtin "isinstance") := by decide +kernel) (hn : x ≠ "__name__" := by decide) (hdb : (x == ("__debug__" : Str)) = false := by decide)
    (he : starEach (e :: .Name y p2 :: []) X.env = (false, eval e X.env) :: starEach (.Name y p2 :: []) X.env := by rfl) (he2 : starEach (.Name y p2 :: []) X.env = (false, eval (.Name y p2) X.env) :: starEach [] X.env := by rfl) (hpl : (backTo pos (starEach (.Name y p2 :: []) X.env)).any (·.1) = false := by rfl) :
    PE X (.Call (.Name x p) [e, .Name y p2] [] pos) (tX F kF c fun γ => (m γ).bind fun a => .ok (b a)) :=
  pe_mono (pe_callB call_isi hg hm hv (pa_cons ha (pa_cons hc pa_nil he2) he) hn hdb he hpl) fun σ H Q ⟨H0, G0, G, os, γ, st, p⟩ => ⟨H0, G0, G, os, γ, st, p.step k fun v H1 G1 a f1 r1 p1 =>
    ⟨v, cv, t a, u, b a, rfl, hu, ht f1.gh r1, hb a, p1 _ _ _ (Fr.refl f1.gh) rfl⟩⟩
theorem ty_int {wd : Wd} {K : PySem.W.Frag} {B H G : Hp} {v : V} {a : Int} (_ : Same G H) (h : (kF (wd := wd)).rel B H G v a) : TyX K H v (.type "int") := by rw [show v = .int a from h]; exact .base (.int a)
theorem ty_bool {wd : Wd} {K : PySem.W.Frag} {B H G : Hp} {v : V} {a : Bool} (_ : Same G H) (h : (kF (wd := wd)).rel B H G v a) : TyX K H v (.type "bool") := by rw [show v = .bl a from h]; exact .base (.bl a)
theorem ty_str {wd : Wd} {K : PySem.W.Frag} {B H G : Hp} {v : V} {a : Str} (_ : Same G H) (h : (kF (wd := wd)).rel B H G v a) : TyX K H v (.type "str") := by rw [show v = .str a from h.1]; exact .base (.str a)
theorem ty_listB {wd : Wd} {K : PySem.W.Frag} [Rep α] {B H G : Hp} {v : V} {a : List α} (_ : Same G H) (h : (kB (wd := wd)).rel B H G v a) : TyX K H v (.type "list") := by
  obtain ⟨q, o, e1, e2, vs, e3, e4, r⟩ := h
  subst e1; subst e3
  exact .base (.lst e2)
theorem ty_tup {wd : Wd} {K : PySem.W.Frag} [Rep α] {B H G : Hp} {v : V} {a : Tup α} (s : Same G H) (h : (kF (wd := wd)).rel B H G v a) : TyX K H v (.type "tuple") := by
  obtain ⟨q, o, e1, e2, vs, e3, e4, r⟩ := h
  subst e1; subst e3
  exact .base (.tup (s _ _ e2))
theorem ty_pair {wd : Wd} {K : PySem.W.Frag} {β : Type} [Rep α] [Rep β] {B H G : Hp} {v : V} {a : α × β} (s : Same G H) (h : (kF (wd := wd)).rel B H G v a) : TyX K H v (.type "tuple") := by
  obtain ⟨q, o, e1, e2, v1, v2, e3, r1, r2⟩ := h
  subst e1; subst e3
  exact .base (.tup (s _ _ e2))
end
end Wm
set_option Elab.async false
set_option linter.all false
set_option maxRecDepth 100000
set_option maxHeartbeats 4000000
namespace Wm
open PySem PySem.Spec PyProof.Rows L2
/-! ### plain laws of the mirrors' words -/
section
variable {α β γ ρ : Type}
/-- not a rfl-law: simp then builds its proof by congruence, and the kernel never unfolds a Rng -/
theorem Rs.bo (a : α) (f : α → Rs β) : (Rs.ok a).bind f = f a := Eq.trans (Eq.refl _) (Eq.refl _)
theorem Rs.bind_is {r : Rs α} {a : α} {f : α → Rs β} (h : r = .ok a) : r.bind f = f a := by rw [h]; rfl
theorem fold_inv {f : γ → α → Rs γ} {xs : List α} {g : γ} (I : Nat → γ → Prop) (h0 : I 0 g) (hs : ∀ i a g, xs[i]? = some a → I i g → ∃ g', f g a = .ok g' ∧ I (i + 1) g') : ∃ g', Rs.fold f g xs = .ok g' ∧ I xs.length g' := by
  induction xs generalizing g I with
  | nil => exact ⟨g, rfl, h0⟩
  | cons x xs ih =>
    obtain ⟨g1, e1, i1⟩ := hs 0 x g rfl h0
    obtain ⟨g2, e2, i2⟩ := ih (fun i g => I (i + 1) g) i1 fun i a g ha hi => hs (i + 1) a g ha hi
    exact ⟨g2, by show (f g x).bind _ = _; rw [e1]; exact e2, i2⟩
theorem foldR_inv {f : γ → α → Rs (γ ⊕ ρ)} {xs : List α} {g : γ} (I : Nat → γ → Prop) (h0 : I 0 g) (hs : ∀ i a g, xs[i]? = some a → I i g → ∃ g', f g a = .ok (.inl g') ∧ I (i + 1) g') : ∃ g', Rs.foldR f g xs = .ok (.inl g') ∧ I xs.length g' := by
  induction xs generalizing g I with
  | nil => exact ⟨g, rfl, h0⟩
  | cons x xs ih =>
    obtain ⟨g1, e1, i1⟩ := hs 0 x g rfl h0
    obtain ⟨g2, e2, i2⟩ := ih (fun i g => I (i + 1) g) i1 fun i a g ha hi => hs (i + 1) a g ha hi
    exact ⟨g2, by simp only [Rs.foldR]; rw [e1]; exact e2, i2⟩
/-- a loop that looks for the first item at which it returns -/
theorem foldR_find {f : γ → α → Rs (γ ⊕ ρ)} {xs : List α} {g : γ} {p : α → Bool} {r : α → ρ} (ht : ∀ x ∈ xs, p x = true → f g x = .ok (.inr (r x))) (hf : ∀ x ∈ xs, p x = false → f g x = .ok (.inl g)) :
    Rs.foldR f g xs = .ok (match xs.find? p with | some x => .inr (r x) | none => .inl g) := by
  induction xs with
  | nil => rfl
  | cons x xs ih =>
    simp only [Rs.foldR]
    cases e : p x with
    | true => rw [ht x List.mem_cons_self e, List.find?_cons_of_pos e]; rfl
    | false =>
      rw [hf x List.mem_cons_self e, List.find?_cons_of_neg (by rw [e]; exact Bool.false_ne_true)]
      exact ih (fun y hy => ht y (List.mem_cons_of_mem _ hy)) fun y hy => hf y (List.mem_cons_of_mem _ hy)
theorem comp_map {t : α → Rs Bool} {f : α → Rs β} {g : α → β} : ∀ {xs : List α}, (∀ x ∈ xs, t x = .ok true) → (∀ x ∈ xs, f x = .ok (g x)) → Rs.comp t f xs = .ok (xs.map g)
  | [], _, _ => rfl
  | x :: xs, ht, hf => by
    simp only [Rs.comp]
    rw [ht x List.mem_cons_self, hf x List.mem_cons_self, comp_map (fun y hy => ht y (List.mem_cons_of_mem _ hy)) fun y hy => hf y (List.mem_cons_of_mem _ hy)]
    rfl
theorem comp_filter {t : α → Rs Bool} {f : α → Rs β} {p : α → Bool} {g : α → β} : ∀ {xs : List α}, (∀ x ∈ xs, t x = .ok (p x)) → (∀ x ∈ xs, p x = true → f x = .ok (g x)) → Rs.comp t f xs = .ok ((xs.filter p).map g)
  | [], _, _ => rfl
  | x :: xs, ht, hf => by
    have ih := comp_filter (xs := xs) (fun y hy => ht y (List.mem_cons_of_mem _ hy)) fun y hy => hf y (List.mem_cons_of_mem _ hy)
    simp only [Rs.comp]
    rw [ht x List.mem_cons_self]
    cases e : p x with
    | true => rw [hf x List.mem_cons_self e, ih, List.filter_cons_of_pos e]; rfl
    | false => rw [List.filter_cons_of_neg (by rw [e]; exact Bool.false_ne_true)]; exact ih
theorem comp_ex {t : α → Rs Bool} {f : α → Rs β} (P : Nat → β → Prop) : ∀ {xs : List α} (ht : ∀ x ∈ xs, t x = .ok true) (hf : ∀ i x, xs[i]? = some x → ∃ y, f x = .ok y ∧ P i y), ∃ ys, Rs.comp t f xs = .ok ys ∧ ys.length = xs.length ∧ ∀ i y, ys[i]? = some y → P i y
  | [], _, _ => ⟨[], rfl, rfl, fun i y h => by simp at h⟩
  | x :: xs, ht, hf => by
    obtain ⟨y, e, hy⟩ := hf 0 x rfl
    obtain ⟨ys, e2, l, h⟩ := comp_ex (fun i => P (i + 1)) (xs := xs) (fun z hz => ht z (List.mem_cons_of_mem _ hz)) fun i z hz => hf (i + 1) z hz
    refine ⟨y :: ys, ?_, congrArg (· + 1) l, fun i z hz => ?_⟩
    · simp only [Rs.comp]
      rw [ht x List.mem_cons_self, e, e2]
      rfl
    · cases i with
      | zero => cases hz; exact hy
      | succ i => exact h i z hz
theorem ixN_nat {n i : Nat} (h : i < n) : ixN n (i : Int) = some i := by
  unfold ixN
  rw [if_pos (by omega), if_pos (by omega)]
  simp
theorem getI_nat {xs : List α} {i : Nat} {a : α} (h : xs[i]? = some a) : getI xs (i : Int) = .ok a := by
  unfold getI
  rw [atI_nat h]
theorem getI_int {xs : List α} {k : Int} {a : α} (h0 : 0 ≤ k) (h : xs[k.toNat]? = some a) : getI xs k = .ok a := by
  have : k = ((k.toNat : Nat) : Int) := by omega
  rw [this]
  exact getI_nat h
theorem getI_ex {xs : List α} {k : Int} (h0 : 0 ≤ k) (h : k < xs.length) : ∃ a, xs[k.toNat]? = some a ∧ getI xs k = .ok a :=
  ⟨xs[k.toNat]'(by omega), List.getElem?_eq_getElem (by omega), getI_int h0 (List.getElem?_eq_getElem (by omega))⟩
theorem setI_nat {xs : List α} {i : Nat} {a : α} (h : i < xs.length) : setI xs (i : Int) a = .ok (xs.set i a) := by
  unfold setI
  rw [ixN_nat h]
theorem appI_ok {xs : List α} {a : α} (h : xs.length < 16777216) : appI xs a = .ok (xs ++ [a]) := if_pos h
theorem catI_ok {xs ys : List α} (h : xs.length + ys.length ≤ 16777216) : catI xs ys = .ok (xs ++ ys) := if_pos h
theorem repI_ok {xs : List α} {k : Int} (h0 : 0 ≤ k) (h1 : k ≤ 16777216) (h : xs.length * k.toNat ≤ 16777216) : repI xs k = .ok (List.replicate k.toNat xs).flatten := if_pos ⟨by omega, by omega, h⟩
theorem repI_one {a : α} {k : Int} (h0 : 0 ≤ k) (h1 : k ≤ 16777216) : repI [a] k = .ok (List.replicate k.toNat a) := by
  rw [repI_ok h0 h1 (by show 1 * k.toNat ≤ _; omega)]
  congr 1
  induction k.toNat with
  | zero => rfl
  | succ n ih => rw [List.replicate_succ, List.replicate_succ, List.flatten_cons, ih]; rfl
theorem Rng_ok {lo hi : Int} (h0 : -4611686018427387904 ≤ lo) (h1 : lo ≤ 4611686018427387903) (h2 : -4611686018427387904 ≤ hi) (h3 : hi ≤ 4611686018427387903) : Rng lo hi = .ok (rng lo hi) := if_pos ⟨h0, h1, h2, h3⟩
theorem Rng_nat {n : Nat} (h : n ≤ 16777216) : Rng 0 (n : Int) = .ok (rng 0 n) := Rng_ok (by decide) (by decide) (by omega) (by omega)
theorem RngL_ok {lo hi : Int} (h0 : -4611686018427387904 ≤ lo) (h1 : lo ≤ 4611686018427387903) (h2 : -4611686018427387904 ≤ hi) (h3 : hi ≤ 4611686018427387903) (h : (hi - lo).toNat ≤ 16777216) : RngL lo hi = .ok (rng lo hi) := if_pos ⟨h0, h1, h2, h3, h⟩
theorem rng0_len (n : Nat) : (rng 0 (n : Int)).length = n := by rw [rng_len]; omega
theorem rng_at {lo hi : Int} {i : Nat} (h : i < (hi - lo).toNat) : (rng lo hi)[i]? = some (lo + i) := by
  unfold rng
  rw [List.getElem?_map, List.getElem?_range h]
  rfl
theorem mem_rng {lo hi a : Int} : a ∈ rng lo hi ↔ lo ≤ a ∧ a < hi := by
  unfold rng
  rw [List.mem_map]
  constructor
  · rintro ⟨i, hi', rfl⟩
    rw [List.mem_range] at hi'
    omega
  · rintro ⟨h1, h2⟩
    exact ⟨(a - lo).toNat, by rw [List.mem_range]; omega, by omega⟩
theorem CMul_l {i j : Int} (h0 : -1000000000000 ≤ i) (h1 : i ≤ 1000000000000) : CMul i j := .inl ⟨by omega, by omega⟩
theorem CMul_r {i j : Int} (h0 : -1000000000000 ≤ j) (h1 : j ≤ 1000000000000) : CMul i j := .inr ⟨by omega, by omega⟩
theorem CDiv_of {i j : Int} (h0 : 0 < j) (h1 : j < 1000000000) : CDiv i j := ⟨h0, by omega⟩
theorem chars_get {z : Str} {i : Nat} {c : Nat} (h : z.cps.toList[i]? = some c) : (chars z)[i]? = some ⟨#[c]⟩ := by
  unfold chars
  rw [List.getElem?_map, h]
  rfl
theorem chars_len (z : Str) : (chars z).length = z.length := by unfold chars; rw [List.length_map, Str.len_toList]
theorem oneCp_one (c : Nat) : oneCp ⟨#[c]⟩ = some c := rfl
theorem left_inl {r : Rs (γ ⊕ ρ)} {g : γ} {f : γ → Rs ρ} (h : r = .ok (.inl g)) : Rs.left r f = f g := by rw [h]; rfl
theorem left_inr {r : Rs (γ ⊕ ρ)} {x : ρ} {f : γ → Rs ρ} (h : r = .ok (.inr x)) : Rs.left r f = .ok x := by rw [h]; rfl
theorem leftG_inl {δ : Type} {r : Rs (γ ⊕ ρ)} {g : γ} {f : γ → Rs (δ ⊕ ρ)} (h : r = .ok (.inl g)) : Rs.leftG r f = f g := by rw [h]; rfl
theorem Str.ext' {a b : Str} (h : a.cps.toList = b.cps.toList) : a = b := by
  obtain ⟨x⟩ := a
  obtain ⟨y⟩ := b
  congr 1
  exact Array.ext' h
theorem app_list (a b : Str) : (a ++ b).cps.toList = a.cps.toList ++ b.cps.toList := by
  show (a.cps ++ b.cps).toList = _
  exact Array.toList_append
theorem app_len (a b : Str) : (a ++ b).length = a.length + b.length := by
  rw [Str.len_toList, Str.len_toList, Str.len_toList, app_list, List.length_append]
theorem join_e : ∀ xs : List Str, (Str.join "" xs).cps.toList = xs.flatMap fun x => x.cps.toList
  | [] => rfl
  | [x] => by rw [List.flatMap_cons, List.flatMap_nil, List.append_nil]; rfl
  | x :: y :: r => by
    rw [show Str.join "" (x :: y :: r) = x ++ "" ++ Str.join "" (y :: r) from rfl, app_list, app_list, join_e (y :: r), List.flatMap_cons (x := x)]
    rw [show ("" : Str).cps.toList = [] from rfl, List.append_nil]
theorem flat_len (xs : List Str) : (xs.flatMap fun x => x.cps.toList).length = (xs.map (·.length)).sum := by
  rw [List.length_flatMap]
  congr 1
theorem joinS_e {xs : List Str} (h : ∀ x ∈ xs, SOk x) (hl : (xs.map (·.length)).sum ≤ 16777216) : joinS "" xs = .ok ⟨(xs.flatMap fun x => x.cps.toList).toArray⟩ := by
  have e : Txt.join "" xs = ⟨(xs.flatMap fun x => x.cps.toList).toArray⟩ := by
    apply Str.ext'
    rw [TL.join_eq, join_e]
  unfold joinS
  rw [e, if_pos]
  refine ⟨?_, ?_, fun c hc => ?_⟩
  · rw [show ("" : Str).length = 0 from rfl]; omega
  · show (List.toArray _).toList.length ≤ _
    rw [List.toList_toArray, flat_len]; exact hl
  · have hc' : c ∈ (List.toArray _).toList := hc
    rw [List.toList_toArray, List.mem_flatMap] at hc'
    obtain ⟨x, hx, hcx⟩ := hc'
    exact (h x hx).2 c hcx
/-- one sign each -/
def One (x : Str) : Prop := ∃ c : Nat, x = ⟨#[c]⟩ ∧ c < 1114112
theorem one_chars {z : Str} (hz : ∀ c ∈ z.cps.toList, c < 1114112) {x : Str} (h : x ∈ chars z) : One x := by
  unfold chars at h
  rw [List.mem_map] at h
  obtain ⟨c, hc, rfl⟩ := h
  exact ⟨c, rfl, hz c hc⟩
theorem sum_ones : ∀ xs : List Str, (∀ x ∈ xs, One x) → (xs.map (·.length)).sum = xs.length
  | [], _ => rfl
  | x :: xs, h => by
    obtain ⟨c, e, _⟩ := h x List.mem_cons_self
    rw [List.map_cons, List.sum_cons, sum_ones xs fun y hy => h y (List.mem_cons_of_mem _ hy), e, List.length_cons]
    show 1 + _ = _
    omega
theorem joinS_ones {xs : List Str} (h : ∀ x ∈ xs, One x) (hl : xs.length ≤ 16777216) : ∃ t, joinS "" xs = .ok t ∧ t.length = xs.length ∧ t.cps.toList = xs.flatMap (fun x => x.cps.toList) ∧ SOk t := by
  have hs : ∀ x ∈ xs, SOk x := fun x hx => by
    obtain ⟨c, rfl, hc⟩ := h x hx
    exact SOk.one hc
  have hn := sum_ones xs h
  have e1 := flat_len xs
  rw [hn] at e1
  refine ⟨_, joinS_e hs (by rw [hn]; exact hl), ?_, ?_, ?_⟩
  · rw [Str.len_toList]
    show (List.toArray _).toList.length = _
    rw [List.toList_toArray]; exact e1
  · show (List.toArray _).toList = _
    rw [List.toList_toArray]
  · refine ⟨?_, fun c hc => ?_⟩
    · show (List.toArray _).toList.length ≤ _
      rw [List.toList_toArray]; omega
    · have hc' : c ∈ (List.toArray _).toList := hc
      rw [List.toList_toArray, List.mem_flatMap] at hc'
      obtain ⟨x, hx, hcx⟩ := hc'
      exact (hs x hx).2 c hcx
theorem cut_len (a : Str) (lo hi : Option Int) : (cutS a lo hi).length ≤ a.length := by
  rw [Str.len_toList, Str.len_toList]
  unfold cutS
  show (List.toArray _).toList.length ≤ _
  rw [List.toList_toArray, List.length_take, List.length_drop]
  omega
theorem catS_ok {a b : Str} (h : a.length + b.length ≤ 16777216) : catS a b = .ok (a ++ b) := if_pos h
theorem foldR_test {f : γ → α → Rs (γ ⊕ ρ)} {xs : List α} {g : γ} (p : α → Bool) {r : ρ} (h : ∀ x ∈ xs, f g x = .ok (if p x = true then .inr r else .inl g)) :
    Rs.foldR f g xs = .ok (if xs.any p = true then .inr r else .inl g) := by
  induction xs with
  | nil => rfl
  | cons x xs ih =>
    simp only [Rs.foldR]
    rw [h x List.mem_cons_self]
    cases e : p x with
    | true => simp [Rs.bind, e]
    | false => simpa [Rs.bind, e] using ih fun y hy => h y (List.mem_cons_of_mem _ hy)
theorem notInS_one (c : Nat) (z : Str) : notInS ⟨#[c]⟩ z = .ok (!decide (c ∈ z.cps.toList)) := rfl
theorem inS_one (c : Nat) (z : Str) : inS ⟨#[c]⟩ z = .ok (decide (c ∈ z.cps.toList)) := rfl
/-- is some sign of x missing in z? -/
def misses (z : Str) (x : Str) : Bool := match oneCp x with | some c => !decide (c ∈ z.cps.toList) | none => false
theorem misses_chars {t z x : Str} (h : x ∈ chars t) : notInS x z = .ok (misses z x) := by
  unfold chars at h
  rw [List.mem_map] at h
  obtain ⟨c, hc, rfl⟩ := h
  rfl
theorem left_if {b : Bool} {r : ρ} {g : γ} {f : γ → Rs ρ} : Rs.left (.ok (if b = true then .inr r else .inl g)) f = if b = true then .ok r else f g := by cases b <;> rfl
theorem ok_if {b : Bool} {x y : α} : (if b = true then Rs.ok x else Rs.ok y) = Rs.ok (if b = true then x else y) := by cases b <;> rfl
end
end Wm
set_option Elab.async false
set_option linter.all false
set_option maxRecDepth 100000
set_option maxHeartbeats 4000000
namespace Wm
open PySem PySem.Spec PyProof.Rows L2
open Rep (rep)
open Own (own)
/-! ### none, or an object of one's own -/
def kQ {wd : Wd} {β : Type} [Own β] : Kd wd (Option β) :=
  ⟨fun B H G v b => match b with | none => v = .non | some b => ∃ p o, v = .ref p ∧ B p = none ∧ G p = none ∧ H p = some o ∧ own wd G o b,
   fun {B H G H' G' v a} h f => by
     cases a with
     | none => exact h
     | some b =>
       obtain ⟨p, o, e, n, g, h, w⟩ := h
       exact ⟨p, o, e, n, f.out h g, f.h _ _ h, Own.mono f.g w⟩,
   fun {B B' H G v a} s h => by
     cases a with
     | none => exact h
     | some b =>
       obtain ⟨p, o, e, n, g, h, w⟩ := h
       exact ⟨p, o, e, s.free n, g, h, w⟩⟩
def kN {wd : Wd} {β : Type} [Own β] : Kd wd (Option β) :=
  ⟨fun _ H G v b => match b with | none => v = .non | some b => ∃ p o, v = .ref p ∧ H p = some o ∧ own wd G o b,
   fun {B H G H' G' v a} h f => by
     cases a with
     | none => exact h
     | some b =>
       obtain ⟨p, o, e, h, w⟩ := h
       exact ⟨p, o, e, f.h _ _ h, Own.mono f.g w⟩,
   fun _ h => h⟩
def theI {α : Type} (o : Option α) : Rs α := match o with | some a => .ok a | none => .no
section
variable {X : Cx} {F : Fx} {c c' : Ctx} {α β ρ : Type} {e : Expr} {pos : Pos}
/-- from one kind to another, where the results agree -/
theorem e_kk {k1 : Kd F.wd α} {k2 : Kd F.wd α} {m : Ctx.T c → Rs α} (i : ∀ {H' G' H G : Hp} {v a}, Fr H G H' G' → k1.rel H H' G' v a → ∃ G2, Fr H G H' G2 ∧ k2.rel H H' G2 v a) (h : PE X e (tX F k1 c m)) : PE X e (tX F k2 c m) :=
  pe_mono h fun σ H Q ⟨H0, G0, G, os, γ, st, p⟩ => ⟨H0, G0, G, os, γ, st, by
    cases e : m γ with
    | no => rw [e] at p; exact p
    | ex x => rw [e] at p; exact p
    | ok b =>
      rw [e] at p
      exact fun H' G' v f r => by
        obtain ⟨G2, f2, r2⟩ := i f r
        exact p H' G2 v f2 r2⟩
theorem e_qn [Own β] {m : Ctx.T c → Rs (Option β)} (h : PE X e (tX F kQ c m)) : PE X e (tX F kN c m) := e_kk (fun {H' G' H G v a} f r => ⟨G', f, by
  cases a with
  | none => exact r
  | some b =>
    obtain ⟨p, o, e, n, g, h, w⟩ := r
    exact ⟨p, o, e, h, w⟩⟩) h
theorem e_qf [Own β] {m : Ctx.T c → Rs (Option β)} (h : PE X e (tX F kQ c m)) : PE X e (tX F kF c m) := e_kk (fun {H' G' H G v a} f r => by
  cases a with
  | none => exact ⟨G', f, r⟩
  | some b =>
    obtain ⟨q, o, e1, e2, e3, e4, e5⟩ := r
    exact ⟨upd G' q o, f.freeze e2 e3 e4, q, o, e1, upd_same, Own.mono (Same.upd' (Same.refl G') e3) e5⟩) h
theorem e_fn [Own β] {m : Ctx.T c → Rs (Option β)} (h : PE X e (tX F kF c m)) : PE X e (tX F kN c m) := e_kk (fun {H' G' H G v a} f r => ⟨G', f, by
  cases a with
  | none => exact r
  | some b =>
    obtain ⟨p, o, e, h, w⟩ := r
    exact ⟨p, o, e, f.gh _ _ h, w⟩⟩) h
theorem e_nonQ [Own β] {j pos} : PE X (.Constant .none j pos) (tX F kQ c fun _ => .ok (none : Option β)) := pe_mono pe_non fun σ H Q ⟨H0, G0, G, os, γ, st, p⟩ => p H G .non (Fr.refl st.f.gh) rfl
theorem e_someQ [Own β] {m : Ctx.T c → Rs β} (h : PE X e (tX F kO c m)) : PE X e (tX F kQ c fun γ => (m γ).bind fun a => .ok (some a)) :=
  pe_mono h fun σ H Q ⟨H0, G0, G, os, γ, st, p⟩ => ⟨H0, G0, G, os, γ, st, by
    dsimp only at p
    cases e : m γ with
    | no => rw [e] at p; exact p
    | ex x => rw [e] at p; exact p
    | ok b => rw [e] at p; exact fun H' G' v f r => p H' G' v f r⟩
theorem e_varQ [Own β] {i : Nat} (v : Var c (.oo i β)) {x : Str} (hN : X.N[i]? = some x := by rfl) (hv : Vis X.env.scope x := by first | exact Or.inl rfl | exact Or.inr (Or.inl rfl) | exact Or.inr (Or.inr rfl))
    (hd : (x == ("__debug__" : Str)) = false := by decide) (hcd : (x == ("__classdict__" : Str)) = false := by decide) : PE X (.Name x pos) (tX F kN c fun γ => .ok (v.get γ)) :=
  pe_mono (pe_var hN hv hd hcd) fun σ H Q ⟨H0, G0, G, os, γ, st, p⟩ => by
    dsimp only at p
    rcases v.oo st.r with ⟨e, h1⟩ | ⟨b, q, o, e, _, h1, h2, h3⟩
    · rw [e] at p
      exact ⟨.non, h1, p H G _ (Fr.refl st.f.gh) rfl⟩
    · rw [e] at p
      exact ⟨.ref q, h1, p H G _ (Fr.refl st.f.gh) ⟨q, o, rfl, h2, h3⟩⟩
/-- what is there -/
theorem e_nar [Own β] {m : Ctx.T c → Rs (Option β)} (h : PE X e (tX F kN c m)) : PE X e (tX F kB c fun γ => (m γ).bind theI) :=
  pe_mono h fun σ H Q ⟨H0, G0, G, os, γ, st, p⟩ => ⟨H0, G0, G, os, γ, st, p.step kN fun v H1 G1 a fr ra p1 => by
    cases a with
    | none => exact p1.elim
    | some b => exact p1 H1 G1 v (Fr.refl fr.gh) ra⟩
theorem e_narF [Rep α] {m : Ctx.T c → Rs (Option α)} (h : PE X e (tX F kF c m)) : PE X e (tX F kF c fun γ => (m γ).bind theI) :=
  pe_mono h fun σ H Q ⟨H0, G0, G, os, γ, st, p⟩ => ⟨H0, G0, G, os, γ, st, p.step kF fun v H1 G1 a fr ra p1 => by
    cases a with
    | none => exact p1.elim
    | some b => exact p1 H1 G1 v (Fr.refl fr.gh) ra⟩
theorem m_isNN {wd : Wd} [Own β] : Sem2 (wd := wd) kN kF kF (fun x y H Q => y = .non ∧ Q (.bl (decide (x = .non))) H) (fun (a : Option β) (_ : Unit) => .ok a.isNone) := by
  intro W σ B1 B2 H G x y a b Q gh hx hy p
  refine ⟨hy, ?_⟩
  have e : decide (x = .non) = a.isNone := by
    cases a with
    | none => exact decide_eq_true hx
    | some a =>
      obtain ⟨p, o, e, _⟩ := hx
      exact decide_eq_false (by rw [e]; exact nofun)
  rw [e]
  exact p H G _ (Fr.refl gh) rfl
theorem m_notNN {wd : Wd} [Own β] : Sem2 (wd := wd) kN kF kF (fun x y H Q => y = .non ∧ Q (.bl (!decide (x = .non))) H) (fun (a : Option β) (_ : Unit) => .ok a.isSome) := by
  intro W σ B1 B2 H G x y a b Q gh hx hy p
  refine ⟨hy, ?_⟩
  have e : (!decide (x = .non)) = a.isSome := by
    cases a with
    | none => rw [decide_eq_true (show x = .non from hx)]; rfl
    | some a =>
      obtain ⟨p, o, e, _⟩ := hx
      rw [decide_eq_false (by rw [e]; exact nofun)]; rfl
  rw [e]
  exact p H G _ (Fr.refl gh) rfl
theorem ty_optN {wd : Wd} {K : PySem.W.Frag} [Rep α] {B H G : Hp} {v : V} {a : Option (List α)} (_ : Same G H) (h : (kN (wd := wd)).rel B H G v a) : TyX K H v (if a.isSome then .type "list" else .type "NoneType") := by
  cases a with
  | none => rw [show v = .non from h]; exact .base .non
  | some b =>
    obtain ⟨q, o, e1, e2, vs, e3, e4, r⟩ := h
    subst e1; subst e3
    exact .base (.lst e2)
theorem kit_optL {K : PySem.W.Frag} : ∀ o : Option (List α), PySem.W.kitOne K (if o.isSome then .type "list" else .type "NoneType") (.type "list") = some o.isSome
  | none => kit_ty (a := "NoneType") (b := "list") (r := false) (by decide +kernel)
  | some _ => kit_ty (a := "list") (b := "list") (r := true) (by decide +kernel)
theorem R.pushQ {wd : Wd} {H0 H G : Hp} {σ : L2.St} {os : List Addr} {γ : Ctx.T c'} [Own β] {j : Nat} (hn : Ctx.not j c' = true) (l : j < σ.length) (h : R wd H0 σ H G c' γ os) : R wd H0 (σ.set j (some .non)) H G (.oo j β :: c') (none, γ) os :=
  .inl ⟨rfl, List.getElem?_set_self l, h.set hn⟩
theorem s_setTQ [Own β] {st : Stmt} {te : TE} {m : Ctx.T c → Rs (Option β)} {j : Nat} (h : PS X st (tAsg te (gName j))) (he : ∀ σ H Q, tX F kQ c m σ H Q → te σ H Q) (s : Sub c c') (hj : F.n.lt j) (hn : Ctx.not j c' = true) : PS X st (tS F c (.oo j β :: c') fun γ => (m γ).bind fun a => .ok (a, s.proj γ)) :=
  ps_mono h fun D σ H ⟨H0, G0, G, os, γ, st, p⟩ => he _ _ _ ⟨H0, G0, G, os, γ, st, p.step st kQ fun v H1 G1 a fr ra p1 => by
    obtain ⟨os', hs, st'⟩ := (st.ext fr).sub s
    cases a with
    | none =>
      rw [show v = .non from ra]
      exact p1 _ _ _ _ ⟨st'.len.set hj, st'.f, st'.nd, st'.fr, R.pushQ hn (by rw [st'.len.1]; exact hj.1) st'.r⟩
    | some b =>
      obtain ⟨q, o, ev, n, g, hq, w⟩ := ra
      subst ev
      have nq : q ∉ os' := fun z => by
        obtain ⟨o2, h2⟩ := st.r.there q (hs.subset z)
        rw [n] at h2
        cases h2
      refine p1 _ _ _ (q :: os') ⟨st'.len.set hj, st'.f, List.nodup_cons.mpr ⟨nq, st'.nd⟩, fun r hr => ?_, .inr ⟨b, q, o, os', rfl, rfl, List.getElem?_set_self (by rw [st'.len.1]; exact hj.1), hq, w, st'.r.set hn⟩⟩
      rcases List.mem_cons.mp hr with e | e
      · rw [e]; exact ⟨g, st.f.h.free n⟩
      · exact st'.fr r e⟩
theorem s_setQ [Own β] {m : Ctx.T c → Rs (Option β)} {j : Nat} {x : Str} {pos pos' : Pos} (hN : X.N.Nodup) (h : PE X e (tX F kQ c m)) (s : Sub c c') (hj : F.n.lt j) (hn : Ctx.not j c' = true) (hi : X.N[j]? = some x := by rfl) (hx : Loc X.env.scope x := by first | exact .inl rfl | exact .inr rfl) (hs : swapsWith e (some (.Name x pos')) pos.line X.env = pure false := by rfl) (hf : X.fn x = true ∨ X.env.scope.names.lookup x = some .local := by first | exact .inl rfl | exact .inr rfl) :
    PS X (.Assign [.Name x pos'] e pos) (tS F c (.oo j β :: c') fun γ => (m γ).bind fun a => .ok (a, s.proj γ)) := s_setTQ (ps_set hN hi hx h hs hf) (fun _ _ _ q => q) s hj hn
end
section
variable {X : Cx} {F : Fx} {c c' c1 : Ctx} {ρ : Type} {kr : Kd F.wd ρ} {sts : List Stmt}
theorem Nar.noex : ∀ {c c' : Ctx} (s : Nar c c') {γ : Ctx.T c} {x : Exc}, s.go γ ≠ .ex x
  | _, _, .z, (none, γ), x, e => by cases e
  | _, _, .z, (some b, γ), x, e => by cases e
  | _, _, .s n, γ, x, e => by
    have e' : (n.go γ.2).bind (fun g => .ok (γ.1, g)) = .ex x := e
    cases e2 : n.go γ.2 with
    | no => rw [e2] at e'; cases e'
    | ex y => exact n.noex e2
    | ok g => rw [e2] at e'; cases e'
theorem b_narT {m : Ctx.T c1 → Rs ρ} (s : Nar c c1) (h : PSs X sts (tT F kr c1 m)) : PSs X sts (tT F kr c fun γ => (s.go γ).bind m) :=
  pss_mono h fun D σ H ⟨H0, G0, G, os, γ, st, p⟩ => by
    dsimp only at p
    cases e : s.go γ with
    | no => rw [e] at p; exact p.elim
    | ex x => exact (s.noex e).elim
    | ok g => rw [e] at p; exact ⟨H0, G0, G, os, g, st.nar s e, p⟩
theorem b_narS {m : Ctx.T c1 → Rs (Ctx.T c')} (s : Nar c c1) (h : PSs X sts (tS F c1 c' m)) : PSs X sts (tS F c c' fun γ => (s.go γ).bind m) :=
  pss_mono h fun D σ H ⟨H0, G0, G, os, γ, st, p⟩ => by
    dsimp only at p
    cases e : s.go γ with
    | no => rw [e] at p; exact p.elim
    | ex x => exact (s.noex e).elim
    | ok g => rw [e] at p; exact ⟨H0, G0, G, os, g, st.nar s e, p⟩
theorem b_narG {m : Ctx.T c1 → Rs (Ctx.T c' ⊕ ρ)} (s : Nar c c1) (h : PSs X sts (tG F kr c1 c' m)) : PSs X sts (tG F kr c c' fun γ => (s.go γ).bind m) :=
  pss_mono h fun D σ H ⟨H0, G0, G, os, γ, st, p⟩ => by
    dsimp only at p
    cases e : s.go γ with
    | no => rw [e] at p; exact p.elim
    | ex x => exact (s.noex e).elim
    | ok g => rw [e] at p; exact ⟨H0, G0, G, os, g, st.nar s e, p⟩
theorem t_retWQ {β : Type} [Own β] {i : Nat} {pos pos' : Pos} (v : Var c (.ow i β)) {x : Str} (hN : X.N[i]? = some x := by rfl) (hv : Vis X.env.scope x := by first | exact Or.inl rfl | exact Or.inr (Or.inl rfl) | exact Or.inr (Or.inr rfl))
    (hd : (x == ("__debug__" : Str)) = false := by decide) (hcd : (x == ("__classdict__" : Str)) = false := by decide) : PSs X [.Return (some (.Name x pos')) pos] (tT F kQ c fun γ => .ok (some (v.get γ))) :=
  pss_mono (pss_one (ps_ret (pe_var hN hv hd hcd))) fun D σ H ⟨H0, G0, G, os, γ, st, p⟩ => by
    obtain ⟨q, o, h0, h1, h2, h3⟩ := v.ow st.r
    exact ⟨.ref q, h1, p H G _ st.f ⟨q, o, rfl, (st.fr q h0).2, (st.fr q h0).1, h2, h3⟩⟩
theorem t_retQ {β : Type} [Own β] {i : Nat} {pos pos' : Pos} (v : Var c (.oo i β)) {x : Str} (hN : X.N[i]? = some x := by rfl) (hv : Vis X.env.scope x := by first | exact Or.inl rfl | exact Or.inr (Or.inl rfl) | exact Or.inr (Or.inr rfl))
    (hd : (x == ("__debug__" : Str)) = false := by decide) (hcd : (x == ("__classdict__" : Str)) = false := by decide) : PSs X [.Return (some (.Name x pos')) pos] (tT F kQ c fun γ => .ok (v.get γ)) :=
  pss_mono (pss_one (ps_ret (pe_var hN hv hd hcd))) fun D σ H ⟨H0, G0, G, os, γ, st, p⟩ => by
    dsimp only at p
    rcases v.oo st.r with ⟨e, h1⟩ | ⟨b, q, o, e, h0, h1, h2, h3⟩
    · rw [e] at p
      exact ⟨.non, h1, p H G _ st.f rfl⟩
    · rw [e] at p
      exact ⟨.ref q, h1, p H G _ st.f ⟨q, o, rfl, (st.fr q h0).2, (st.fr q h0).1, h2, h3⟩⟩
end
end Wm
set_option Elab.async false
set_option linter.all false
set_option maxRecDepth 100000
set_option maxHeartbeats 4000000
namespace Wm
open PySem PySem.Spec PyProof.Rows L2
/-! ### more plain laws -/
section
variable {α β γ ρ : Type}
theorem theI_some (a : α) : theI (some a) = .ok a := rfl
theorem getI_last {xs : List α} {a : α} : getI (xs ++ [a]) (-1) = .ok a := by
  unfold getI atI ixN
  rw [if_neg (by decide), if_pos (by rw [List.length_append]; simp only [List.length_cons, List.length_nil]; omega)]
  simp only [List.length_append, List.length_cons, List.length_nil, Option.bind_some]
  rw [show ((-1 : Int) + ((xs.length + (0 + 1) : Nat) : Int)).toNat = xs.length by omega]
  rw [List.getElem?_append_right (Nat.le_refl _), Nat.sub_self]
  rfl
theorem cutI_take {xs : List α} {k : Int} (h : 0 ≤ k) : cutI xs none (some k) = xs.take k.toNat := by
  unfold cutI
  have : k = ((k.toNat : Nat) : Int) := by omega
  rw [this, HT.sIx_nat, HT.sIx_none, List.drop_zero, Nat.sub_zero, Int.toNat_natCast]
  rcases Nat.le_total k.toNat xs.length with h1 | h1
  · rw [Nat.min_eq_left h1]
  · rw [Nat.min_eq_right h1, List.take_of_length_le (Nat.le_refl _), List.take_of_length_le h1]
theorem cutI_drop {xs : List α} {k : Int} (h : 0 ≤ k) : cutI xs (some k) none = xs.drop k.toNat := by
  unfold cutI
  have : k = ((k.toNat : Nat) : Int) := by omega
  rw [this, HT.sIx_nat, HT.sIx_none, Int.toNat_natCast]
  rcases Nat.le_total k.toNat xs.length with h1 | h1
  · rw [Nat.min_eq_left h1, List.take_of_length_le (by rw [List.length_drop]; omega)]
  · rw [Nat.min_eq_right h1, List.drop_of_length_le h1, List.drop_of_length_le (Nat.le_refl _), List.take_nil]
theorem maxI_two (a b : Int) : maxI [a, b] = .ok (max a b) := by
  unfold maxI
  rw [show [a, b].max? = some (max a b) from rfl]
theorem minI_two (a b : Int) : minI [a, b] = .ok (min a b) := by
  unfold minI
  rw [show [a, b].min? = some (min a b) from rfl]
/-- sums of the first ones -/
def pre (xs : List Int) (k : Nat) : Int := (xs.take k).sum
theorem pre_zero (xs : List Int) : pre xs 0 = 0 := rfl
theorem sum_app (xs ys : List Int) : (xs ++ ys).sum = xs.sum + ys.sum := by
  induction xs with
  | nil => simp
  | cons x xs ih => rw [List.cons_append, List.sum_cons, List.sum_cons, ih]; omega
theorem pre_succ {xs : List Int} {k : Nat} {c : Int} (h : xs[k]? = some c) : pre xs (k + 1) = pre xs k + c := by
  unfold pre
  rw [List.take_succ, h, sum_app]
  simp
theorem pre_all (xs : List Int) : pre xs xs.length = xs.sum := by
  unfold pre
  rw [List.take_of_length_le (Nat.le_refl _)]
theorem pre_ge {xs : List Int} {a : Int} (h : ∀ c ∈ xs, a ≤ c) : ∀ k, k ≤ xs.length → a * k ≤ pre xs k
  | 0, _ => by rw [pre_zero]; simp
  | k + 1, hk => by
    have := pre_ge h k (by omega)
    rw [pre_succ (List.getElem?_eq_getElem (show k < xs.length by omega))]
    have h2 := h _ (List.getElem_mem (show k < xs.length by omega))
    rw [Int.natCast_add, Int.mul_add]
    simp only [Int.natCast_one, Int.mul_one]
    omega
theorem pre_le {xs : List Int} {a : Int} (h : ∀ c ∈ xs, c ≤ a) : ∀ k, k ≤ xs.length → pre xs k ≤ a * k
  | 0, _ => by rw [pre_zero]; simp
  | k + 1, hk => by
    have := pre_le h k (by omega)
    rw [pre_succ (List.getElem?_eq_getElem (show k < xs.length by omega))]
    have h2 := h _ (List.getElem_mem (show k < xs.length by omega))
    rw [Int.natCast_add, Int.mul_add]
    simp only [Int.natCast_one, Int.mul_one]
    omega
/-- a comprehension whose test is plain -/
theorem comp_none {t : α → Rs Bool} {f : α → Rs β} {xs : List α} (h : ∀ x ∈ xs, t x = .ok false) : Rs.comp t f xs = .ok [] := by
  induction xs with
  | nil => rfl
  | cons x xs ih =>
    simp only [Rs.comp]
    rw [h x List.mem_cons_self]
    exact ih fun y hy => h y (List.mem_cons_of_mem _ hy)
theorem rng_nil {lo hi : Int} (h : hi ≤ lo) : rng lo hi = [] := by
  unfold rng
  rw [show (hi - lo).toNat = 0 by omega]
  rfl
/-! ### signs, names -/
abbrev LET : Str := ("abcdefghijklmnopqrstuvwxyz0123456789" : Str)
/-- only the signs of a record -/
def Sg (t : Str) : Prop := ∀ c ∈ t.cps.toList, c ∈ LET.cps.toList
theorem Sg.app {a b : Str} (h : Sg a) (k : Sg b) : Sg (a ++ b) := fun c hc => by
  rw [app_list] at hc
  rcases List.mem_append.mp hc with z | z
  · exact h c z
  · exact k c z
theorem Sg.cut {a : Str} (h : Sg a) (lo hi : Option Int) : Sg (cutS a lo hi) := fun c hc => by
  unfold cutS at hc
  have hc' : c ∈ (List.toArray _).toList := hc
  rw [List.toList_toArray] at hc'
  exact h c (List.mem_of_mem_drop (List.mem_of_mem_take hc'))
theorem one_len (c : Nat) : (⟨#[c]⟩ : Str).length = 1 := rfl
theorem let_get {k : Int} (h0 : 0 ≤ k) (h1 : k < 36) : ∃ y, getI (chars LET) k = .ok y ∧ y.length = 1 ∧ Sg y := by
  obtain ⟨y, e, h'⟩ := getI_ex (xs := chars LET) h0 (by rw [chars_len]; exact h1)
  have hy := List.mem_of_getElem? e
  unfold chars at hy
  obtain ⟨c, hc, rfl⟩ := List.mem_map.mp hy
  exact ⟨_, h', rfl, fun d hd => by
    have : d = c := by simpa using hd
    rw [this]; exact hc⟩
theorem cut_to {a : Str} {k : Int} (h0 : 0 ≤ k) : (cutS a none (some k)).length ≤ k.toNat := by
  rw [Str.len_toList]
  unfold cutS
  show (List.toArray _).toList.length ≤ _
  have : k = ((k.toNat : Nat) : Int) := by omega
  rw [List.toList_toArray, List.length_take, this, HT.sIx_nat, HT.sIx_none]
  omega
/-- a record's text -/
structure IsRec (t : Str) : Prop where
  sg : Sg t
  lo : 1 ≤ t.length
  hi : t.length ≤ 8
theorem rep_get {xs : List α} : ∀ (n i : Nat), i < n * xs.length → ((List.replicate n xs).flatten)[i]? = xs[i % xs.length]?
  | 0, i, h => by omega
  | n + 1, i, h => by
    rw [List.replicate_succ, List.flatten_cons]
    by_cases hi : i < xs.length
    · rw [List.getElem?_append_left hi, Nat.mod_eq_of_lt hi]
    · rw [List.getElem?_append_right (by omega), rep_get n (i - xs.length) (by rw [Nat.add_mul] at h; omega), ← Nat.mod_eq_sub_mod (by omega)]
theorem rep_mem {xs : List α} {n : Nat} {a : α} (h : a ∈ (List.replicate n xs).flatten) : a ∈ xs := by
  obtain ⟨l, hl, ha⟩ := List.mem_flatten.mp h
  rw [(List.mem_replicate.mp hl).2] at ha
  exact ha
theorem rep_flen {xs : List α} (n : Nat) : ((List.replicate n xs).flatten).length = n * xs.length := by
  induction n with
  | zero => simp
  | succ n ih => rw [List.replicate_succ, List.flatten_cons, List.length_append, ih, Nat.add_mul]; omega
theorem getI_at {xs : List α} {k : Int} {i : Nat} {a : α} (hk : k = (i : Int)) (h : xs[i]? = some a) : getI xs k = .ok a := by rw [hk]; exact getI_nat h
/-- step by step: what is known behind the first part -/
theorem Rs.exb {r : Rs α} {f : α → Rs β} {P : β → Prop} (Q : α → Prop) (h : ∃ a, r = .ok a ∧ Q a) (k : ∀ a, Q a → ∃ b, f a = .ok b ∧ P b) : ∃ b, r.bind f = .ok b ∧ P b := by
  obtain ⟨a, rfl, q⟩ := h
  exact k a q
theorem Rs.exi {b : Bool} {x y : Rs α} {P : α → Prop} (h1 : b = true → ∃ a, x = .ok a ∧ P a) (h2 : b = false → ∃ a, y = .ok a ∧ P a) : ∃ a, (if b = true then x else y) = .ok a ∧ P a := by
  cases b with
  | true => exact h1 rfl
  | false => exact h2 rfl
theorem maxI_spec {xs : List Int} {m : Int} : maxI xs = .ok m ↔ m ∈ xs ∧ ∀ x ∈ xs, x ≤ m := by
  unfold maxI
  cases e : xs.max? with
  | none =>
    rw [List.max?_eq_none_iff] at e
    subst e
    simp
  | some a =>
    have h := List.max?_eq_some_iff.mp e
    constructor
    · intro h2; cases h2; exact h
    · rintro ⟨h1, h2⟩
      have q1 : m ≤ a := h.2 m h1
      have q2 : a ≤ m := h2 a h.1
      have q : a = m := by omega
      rw [q]
theorem minI_spec {xs : List Int} {m : Int} : minI xs = .ok m ↔ m ∈ xs ∧ ∀ x ∈ xs, m ≤ x := by
  unfold minI
  cases e : xs.min? with
  | none =>
    rw [List.min?_eq_none_iff] at e
    subst e
    simp
  | some a =>
    have h := List.min?_eq_some_iff.mp e
    constructor
    · intro h2; cases h2; exact h
    · rintro ⟨h1, h2⟩
      have q1 : a ≤ m := h.2 m h1
      have q2 : m ≤ a := h2 a h.1
      have q : a = m := by omega
      rw [q]
theorem maxI_ok {xs : List Int} (h : xs ≠ []) : ∃ m, maxI xs = .ok m ∧ m ∈ xs ∧ ∀ x ∈ xs, x ≤ m := by
  cases e : maxI xs with
  | ok m => exact ⟨m, rfl, maxI_spec.mp e⟩
  | no =>
    unfold maxI at e
    cases e2 : xs.max? with
    | none => exact absurd (List.max?_eq_none_iff.mp e2) h
    | some a => rw [e2] at e; cases e
  | ex x =>
    unfold maxI at e
    cases e2 : xs.max? with
    | none => exact absurd (List.max?_eq_none_iff.mp e2) h
    | some a => rw [e2] at e; cases e
theorem minI_ok {xs : List Int} (h : xs ≠ []) : ∃ m, minI xs = .ok m ∧ m ∈ xs ∧ ∀ x ∈ xs, m ≤ x := by
  cases e : minI xs with
  | ok m => exact ⟨m, rfl, minI_spec.mp e⟩
  | no =>
    unfold minI at e
    cases e2 : xs.min? with
    | none => exact absurd (List.min?_eq_none_iff.mp e2) h
    | some a => rw [e2] at e; cases e
  | ex x =>
    unfold minI at e
    cases e2 : xs.min? with
    | none => exact absurd (List.min?_eq_none_iff.mp e2) h
    | some a => rw [e2] at e; cases e
/-- how many are below x -/
def below (s : List Int) (x : Int) : Int := ((s.filter fun y => decide (y < x)).length : Int)
/-- the low end of s, with a top t -/
structure IsFt (s : List Int) (t m : Int) : Prop where
  here : m = t - below s t ∨ ∃ x ∈ s, m = x - below s x
  top : t - below s t ≤ m
  all : ∀ x ∈ s, x - below s x ≤ m
theorem IsFt.uniq {s : List Int} {t m m' : Int} (h : IsFt s t m) (k : IsFt s t m') : m = m' := by
  have a : m ≤ m' := by
    rcases h.here with e | ⟨x, hx, e⟩
    · have := k.top; omega
    · have := k.all x hx; omega
  have b : m' ≤ m := by
    rcases k.here with e | ⟨x, hx, e⟩
    · have := h.top; omega
    · have := h.all x hx; omega
  omega
theorem IsFt.of_max {s : List Int} {t m : Int} {xs : List Int} (hx : ∀ z, z ∈ xs ↔ z = t ∨ z ∈ s) (h : maxI (xs.map fun x => x - below s x) = .ok m) : IsFt s t m := by
  obtain ⟨h1, h2⟩ := maxI_spec.mp h
  obtain ⟨z, hz, e⟩ := List.mem_map.mp h1
  refine ⟨?_, h2 _ (List.mem_map.mpr ⟨t, (hx t).mpr (.inl rfl), rfl⟩), fun x hxs => h2 _ (List.mem_map.mpr ⟨x, (hx x).mpr (.inr hxs), rfl⟩)⟩
  rcases (hx z).mp hz with k | k
  · exact .inl (by rw [← e, k])
  · exact .inr ⟨z, k, e.symm⟩
/-- what stands at the places that are not set aside -/
def spareL (L X : List Int) : List Int := ((rng 0 (L.length : Int)).filter fun k => !decide (k ∈ X)).map fun k => L.getD k.toNat 0
theorem spareL_mem {L X : List Int} {x : Int} (h : x ∈ spareL L X) : x ∈ L := by
  unfold spareL at h
  obtain ⟨k, hk, rfl⟩ := List.mem_map.mp h
  have hk' := mem_rng.mp (List.mem_filter.mp hk).1
  rw [List.getD_eq_getElem?_getD, List.getElem?_eq_getElem (show k.toNat < L.length by omega)]
  exact List.getElem_mem _
theorem spareL_len (L X : List Int) : (spareL L X).length ≤ L.length := by
  unfold spareL
  rw [List.length_map]
  exact Nat.le_trans (List.length_filter_le _ _) (by rw [rng0_len]; exact Nat.le_refl _)
theorem spareL_nil (L : List Int) : spareL L [] = L := by
  unfold spareL
  have e : (rng 0 (L.length : Int)).filter (fun k => !decide (k ∈ ([] : List Int))) = rng 0 (L.length : Int) := List.filter_eq_self.mpr (fun a _ => by simp)
  rw [e]
  apply List.ext_getElem?
  intro i
  rw [List.getElem?_map]
  by_cases h : i < L.length
  · rw [rng_at (by omega)]
    simp [List.getD_eq_getElem?_getD, List.getElem?_eq_getElem h]
  · rw [List.getElem?_eq_none (by rw [rng0_len]; omega), List.getElem?_eq_none (by omega)]
    rfl
theorem getD_at {L : List Int} {k : Int} (h0 : 0 ≤ k) (h1 : k < L.length) : getI L k = .ok (L.getD k.toNat 0) := by
  obtain ⟨a, e, h⟩ := getI_ex h0 h1
  rw [h, List.getD_eq_getElem?_getD, e]
  rfl
theorem comp_count {t : Int → Rs Bool} {p : Int → Bool} {xs : List Int} (ht : ∀ x ∈ xs, t x = .ok (p x)) (f : Int → Rs Int) (hf : ∀ x ∈ xs, f x = .ok x) : Rs.comp t f xs = .ok (xs.filter p) := by
  rw [comp_filter (p := p) (g := fun x => x) ht (fun x hx _ => hf x hx), List.map_id']
/-- the highest stand of x - below, looked for at all heights -/
theorem IsFt.heights {s : List Int} {lo t m : Int} (hlo : ∀ x ∈ s, lo ≤ x) (ht : ∀ x ∈ s, x ≤ t) (hlt : lo ≤ t) (h1 : m = lo ∨ ∃ x, lo ≤ x ∧ x ≤ t ∧ m = x - below s x) (h2 : ∀ x, lo ≤ x → x ≤ t → x - below s x ≤ m) : IsFt s t m := by
  have bmono : ∀ x y, x ≤ y → (∀ z ∈ s, z < y → z < x) → below s y = below s x := by
    intro x y hxy hz
    unfold below
    congr 2
    apply List.filter_congr
    intro z hzs
    rw [decide_eq_decide]
    exact ⟨hz z hzs, fun h => by omega⟩
  have b0 : below s lo = 0 := by
    unfold below
    rw [List.filter_eq_nil_iff.mpr (fun x hx => by have := hlo x hx; simp; omega)]
    rfl
  have key : ∀ (n : Nat) (x : Int), lo ≤ x → x ≤ t → (t - x).toNat = n → ∃ y, (y = t ∨ y ∈ s) ∧ x - below s x ≤ y - below s y := by
    intro n
    induction n with
    | zero => intro x h3 h4 h5; exact ⟨t, .inl rfl, by rw [show x = t by omega]; exact Int.le_refl _⟩
    | succ n ih =>
      intro x h3 h4 h5
      by_cases hx : x ∈ s
      · exact ⟨x, .inr hx, Int.le_refl _⟩
      · obtain ⟨y, hy, hy2⟩ := ih (x + 1) (by omega) (by omega) (by omega)
        refine ⟨y, hy, Int.le_trans ?_ hy2⟩
        rw [bmono x (x + 1) (by omega) (fun z hz h => by
          have : z ≠ x := fun e => hx (e ▸ hz)
          omega)]
        omega
  have mg : ∃ y, (y = t ∨ y ∈ s) ∧ m ≤ y - below s y := by
    rcases h1 with e | ⟨x, h3, h4, e⟩
    · obtain ⟨y, hy, hy2⟩ := key _ lo (Int.le_refl _) hlt rfl
      exact ⟨y, hy, by rw [b0] at hy2; omega⟩
    · obtain ⟨y, hy, hy2⟩ := key _ x h3 h4 rfl
      exact ⟨y, hy, by omega⟩
  refine ⟨?_, h2 t hlt (Int.le_refl _), fun x hx => h2 x (hlo x hx) (ht x hx)⟩
  obtain ⟨y, hy, hy2⟩ := mg
  rcases hy with e | hy
  · subst e
    exact .inl (by have := h2 y hlt (Int.le_refl _); omega)
  · exact .inr ⟨y, hy, by have := h2 y (hlo y hy) (ht y hy); omega⟩
end
end Wm
set_option Elab.async false
set_option linter.all false
set_option maxRecDepth 100000
set_option maxHeartbeats 4000000
namespace Wm
open PySem PySem.Spec PyProof.Rows L2
open Rep (rep)
open Own (own)
/-! ### own classes: calls of a method, making, where what is raised is wished for at the caller's slots -/
section
variable {X : Cx} {CX : CXT} {k : Nat} {f C : Addr} {fd : FuncData} {ps : List Str} {sp : Sp} {E : L2.St → XK} {x m : Str} {p pos apos : Pos} {e o : Expr} {es : List Expr} {ta : TE} {t : TA}
def tMethW (C : Addr) (m : Str) (sp : Sp) (E : L2.St → XK) (ta : TE) (t : TA) : TE := fun σ H Q => ta σ H fun x H1 => ∃ a dx fs, x = .ref a ∧ H1 a = some (.ins C dx fs) ∧ fs.lookup m = none ∧ t σ H1 fun vs H2 => sp (x :: vs) H2 Q (E σ)
theorem pe_methW {pl : Sem Bool} (he : PE X o ta) (c : Cls X.K C) (hm : Meth X.K C m f) (Fn : FnOk X.prog X.w X.K X.mg X.base CX k f fd ps sp) (room : Room k X.A) (hb : Binds X.K fd ps []) (hx : ∀ σ, PassesAt CX X σ (E σ)) (ha : PA X (e :: es) t)
    (hst : starEach (e :: es) X.env = (false, eval e X.env) :: starEach es X.env := by rfl) (hpl : (backTo pos (starEach es X.env)).any (·.1) = false := by rfl)
    (ht : eval (.Call (.Attribute o m apos) (e :: es) [] pos) X.env = (do let ov ← eval o X.env; standAt apos.atName; let (f, first) ← holding [ov] (getMethod ov m pl); callWith pos f first (backTo pos (starEach (e :: es) X.env)) (backToKw pos (keywordEach [] X.env))) := by rfl) :
    PE X (.Call (.Attribute o m apos) (e :: es) [] pos) (tMethW C m sp E ta t) := ⟨fun pins s σ H Q I h => by
  refine PySem.W.methodCall_KW (pl := pl) (thn (he.run pins s σ H _ I h) fun u s1 ⟨y, H1, I1, ry, a, dx, fs, ey, ea, l, q⟩ => ?_) ht
  subst ey; obtain rfl : u = Value.ref a := ry
  refine getmeth_ok I1 ea c hm l (PySem.W.callWith_K (first := [.ref a]) (h₀ := X.base) I1.ok.mod.kin hm.kp (thn (ha.run pos pins s1 σ H1 _ I1 q) fun us s2 ⟨vs, H2, I2, r, q2⟩ => ⟨I2.kIn, ?_⟩) hst hpl)
  exact run_fnSD (us := .ref a :: us) (vs := .ref a :: vs) (dvs := []) (ds := []) Fn room hb .nil (hx σ) I2 (.cons rfl r) (by rw [List.append_nil]; exact q2)⟩
theorem pe_methW0 {pl : Sem Bool} (he : PE X o ta) (c : Cls X.K C) (hm : Meth X.K C m f) (Fn : FnOk X.prog X.w X.K X.mg X.base CX k f fd ps sp) (room : Room k X.A) (hb : Binds X.K fd ps []) (hx : ∀ σ, PassesAt CX X σ (E σ))
    (ht : eval (.Call (.Attribute o m apos) [] [] pos) X.env = (do let ov ← eval o X.env; standAt apos.atName; let (f, first) ← holding [ov] (getMethod ov m pl); callWith pos f first (backTo pos (starEach [] X.env)) (backToKw pos (keywordEach [] X.env))) := by rfl) :
    PE X (.Call (.Attribute o m apos) [] [] pos) (tMethW C m sp E ta tNil) := ⟨fun pins s σ H Q I h => by
  refine PySem.W.methodCall_KW (pl := pl) (thn (he.run pins s σ H _ I h) fun u s1 ⟨y, H1, I1, ry, a, dx, fs, ey, ea, l, q⟩ => ?_) ht
  subst ey; obtain rfl : u = Value.ref a := ry
  exact getmeth_ok I1 ea c hm l (PySem.W.callWith_K0 (first := [.ref a]) I1.kIn hm.kp (run_fnSD (us := [.ref a]) (vs := [.ref a]) (dvs := []) (ds := []) Fn room hb .nil (hx σ) I1 (.cons rfl .nil) q))⟩
def tMakeW (C : Addr) (sp : Sp) (E : L2.St → XK) (t : TA) : TE := fun σ H Q => t σ H fun vs H1 => ∀ x dx, H1 x = none → H1 dx = none → dx ≠ x →
  sp (.ref x :: vs) (upd (upd H1 dx (.own x)) x (.ins C dx [])) (fun v H2 => v = .non ∧ Q (.ref x) H2) (E σ)
theorem run_makeW {pins : List (Addr × Obj)} {σ : L2.St} {H : Hp} {s : Shared} {Q : VK} {us : List Value} {vs : List V} {E : XK} (M : Mk X.K C f) (Fn : FnOk X.prog X.w X.K X.mg X.base CX k f fd ps sp) (room : Room (k + 1) X.A) (hb : Binds X.K fd ps [])
    (hx : PassesAt CX X σ E) (I : Inv X pins σ H s) (r : Vals vs us) (h : ∀ x dx, H x = none → H dx = none → dx ≠ x → sp (.ref x :: vs) (upd (upd H dx (.own x)) x (.ins C dx [])) (fun v H2 => v = .non ∧ Q (.ref x) H2) E) :
    wpAny (model X.prog X.w) X.A (call (.ref C) us) (EP X pins σ Q) X.xe s := by
  have hq := h (s.heap.objs.size + 1) s.heap.objs.size (I.hok.fresh (Nat.le_succ _)) (I.hok.fresh (Nat.le_refl _)) (Nat.ne_of_lt (Nat.lt_succ_self _))
  have I2 := Inv.made (C := C) I
  have r2 : Vals (V.ref (s.heap.objs.size + 1) :: vs) (Value.ref (s.heap.objs.size + 1) :: us) := .cons rfl r
  have hl : (Value.ref (s.heap.objs.size + 1) :: us ++ []).length = ps.length := by rw [List.append_nil, ← r2.length]; exact Fn.len _ _ _ _ hq
  have bd := hb _ (Value.ref (s.heap.objs.size + 1) :: us) I2.kIn hl
  rw [List.append_nil] at bd
  refine wpAny_call (make_map (f := f) I.kIn M.makes M.init (beq_iff_eq.mp M.fn) (codeAny_mono (Fn.run _ X.stack _ _ ⟨Value.ref (s.heap.objs.size + 1) :: us, []⟩ _ _ _ E (room.make C us []) (I2.env0.make C us []) bd r2 hq) fun r s' hq' => ?_))
  match r, hq' with
  | .error e, hq' => exact hx pins _ _ e s' I2 hq'
  | .ok (.ret u), hq' =>
    obtain ⟨v, H', I3, rv, ev, q3⟩ := I2.after hq'
    subst ev; exact ⟨rv, ⟨V.ref (s.heap.objs.size + 1), H', I3, rfl, q3⟩⟩
theorem pe_makeW (M : Mk X.K C f) (Fn : FnOk X.prog X.w X.K X.mg X.base CX k f fd ps sp) (room : Room (k + 1) X.A) (hg : Gl X x) (hm : X.mg x = some (.ref C)) (hb : Binds X.K fd ps []) (hx : ∀ σ, PassesAt CX X σ (E σ)) (ha : PA X (e :: es) t) (hdb : (x == ("__debug__" : Str)) = false := by decide)
    (he : starEach (e :: es) X.env = (false, eval e X.env) :: starEach es X.env := by rfl) (hpl : (backTo pos (starEach es X.env)).any (·.1) = false := by rfl) : PE X (.Call (.Name x p) (e :: es) [] pos) (tMakeW C sp E t) := ⟨fun pins s σ H Q I h => by
  refine wpAny_Call_Name_kw (ld_glob I hg hm ?_ hdb)
  exact PySem.W.callWith_K (h₀ := X.base) I.ok.mod.kin M.kp (thn (ha.run pos pins s σ H _ I h) fun us s1 ⟨vs, H1, I1, r, q⟩ => ⟨I1.kIn, run_makeW M Fn room hb (hx σ) I1 r q⟩) he hpl⟩
end
/-! ### objects of an own class -/
/-- the objects that stand for b are instances of the class C with these attributes -/
structure IsIns (C : String) (β : Type) [Own β] (fl : List Str) : Prop where
  ins : ∀ {wd G o} {b : β}, own wd G o b → ∃ dx fs, o = .ins (wd.cm C) dx fs ∧ fs.map (·.1) = fl
theorem lookup_no {fs : List (Str × V)} {fl : List Str} {m : Str} (h : fs.map (·.1) = fl) (n : fl.contains m = false) : fs.lookup m = none := by
  subst h
  induction fs with
  | nil => rfl
  | cons p fs ih =>
    obtain ⟨a, v⟩ := p
    rw [List.map_cons, List.contains_cons, Bool.or_eq_false_iff] at n
    rw [List.lookup_cons, n.1]
    exact ih n.2
section
variable {X : Cx} {F : Fx} {c : Ctx} {α β ρ : Type} {e o : Expr} {es : List Expr} {pos apos : Pos}
/-- an attribute is read -/
theorem e_fld [Own β] [Rep α] {C : String} {a : Addr} {f : Str} {g : β → α} {m : Ctx.T c → Rs β} (hC : F.wd.cm C = a) (hc : Cls X.K a) (hn : NoAttr X.K a f) (hf : ∀ {wd G o} {b : β}, own wd G o b → ∃ dx fs v, o = .ins (wd.cm C) dx fs ∧ fs.lookup f = some v ∧ rep wd G v (g b))
    (h : PE X e (tX F kB c m)) (hb : attributeBase e f X.env (eval e X.env) = eval e X.env := by rfl) : PE X (.Attribute e f pos) (tX F kF c fun γ => (m γ).bind fun b => .ok (g b)) :=
  pe_mono (pe_fld h hb) fun σ H Q ⟨H0, G0, G, os, γ, st, p⟩ => ⟨H0, G0, G, os, γ, st, p.step kB fun v H1 G1 b f1 ⟨q, o, e1, e2, e3⟩ p1 => by
    obtain ⟨dx, fs, u, e4, e5, e6⟩ := hf e3
    subst e4; subst hC
    exact ⟨q, _, dx, fs, u, e1, e2, hc, hn, e5, p1 _ _ _ (Fr.refl f1.gh) e6⟩⟩
/-- a method is called -/
theorem e_meth [Own β] {C : String} {fl : List Str} {a f : Addr} {m : Str} {fd : FuncData} {ps : List Str} {k : Nat} {kr : Kd F.wd ρ} {Γ : Ctx} {mf : Ctx.T (.bo 0 β :: Γ) → Rs ρ} {mo : Ctx.T c → Rs β} {ma : Ctx.T c → Rs (Ctx.T Γ)} {pl : Sem Bool} (Ii : IsIns C β fl) (hC : F.wd.cm C = a) (hc : Cls X.K a) (hm : Meth X.K a m f) (hnl : fl.contains m = false) (tk : L2N.Takes X F.W)
    (Fn : FnOk X.prog X.w X.K X.mg X.base (L2N.CX X.prog X.w) k f fd ps (spF F.wd kr (.bo 0 β :: Γ) mf)) (hr : Room k X.A) (hb : Binds X.K fd ps []) (he : PE X o (tX F kB c mo)) (ha : PA X (e :: es) (tA F c 1 Γ ma))
    (hst : starEach (e :: es) X.env = (false, eval e X.env) :: starEach es X.env := by rfl) (hpl : (backTo pos (starEach es X.env)).any (·.1) = false := by rfl)
    (ht : eval (.Call (.Attribute o m apos) (e :: es) [] pos) X.env = (do let ov ← eval o X.env; standAt apos.atName; let (f, first) ← holding [ov] (getMethod ov m pl); callWith pos f first (backTo pos (starEach (e :: es) X.env)) (backToKw pos (keywordEach [] X.env))) := by rfl) :
    PE X (.Call (.Attribute o m apos) (e :: es) [] pos) (tX F kr c fun γ => (mo γ).bind fun s => (ma γ).bind fun g => mf (s, g)) :=
  pe_mono (pe_methW (pl := pl) he hc hm Fn hr hb (fun σ => L2N.passAt tk σ) ha hst hpl ht) fun σ H Q ⟨H0, G0, G, os, γ, st, p⟩ => ⟨H0, G0, G, os, γ, st, p.step kB fun v H1 G1 b f1 ⟨q, o, e1, e2, e3⟩ p1 => by
    obtain ⟨dx, fs, e4, e5⟩ := Ii.ins e3
    subst hC
    refine ⟨q, dx, fs, e1, by rw [e2, e4], lookup_no e5 hnl, H0, G0, G1, os, γ, st.ext f1, ?_⟩
    cases eg : ma γ with
    | no => rw [eg] at p1; exact p1
    | ex z => rw [eg] at p1; exact p1
    | ok g =>
      rw [eg] at p1
      have p2 : Post F.W kr σ H1 G1 Q (mf (b, g)) := p1
      exact fun H2 G2 vs f2 r => by
        have p3 := Post.ext p2 f2
        refine ⟨by rw [List.length_cons, r.len]; rfl, G2, (b, g), f2.gh, ⟨q, o, vs, by rw [e1], rfl, f2.h _ _ e2, Own.mono f2.g e3, r⟩, ?_⟩
        cases em : mf (b, g) with
        | no => rw [em] at p3; exact p3
        | ex z => rw [em] at p3; exact p3
        | ok z => rw [em] at p3; exact p3⟩
theorem e_meth0 [Own β] {C : String} {fl : List Str} {a f : Addr} {m : Str} {fd : FuncData} {ps : List Str} {k : Nat} {kr : Kd F.wd ρ} {mf : Ctx.T [.bo 0 β] → Rs ρ} {mo : Ctx.T c → Rs β} {pl : Sem Bool} (Ii : IsIns C β fl) (hC : F.wd.cm C = a) (hc : Cls X.K a) (hm : Meth X.K a m f) (hnl : fl.contains m = false) (tk : L2N.Takes X F.W)
    (Fn : FnOk X.prog X.w X.K X.mg X.base (L2N.CX X.prog X.w) k f fd ps (spF F.wd kr [.bo 0 β] mf)) (hr : Room k X.A) (hb : Binds X.K fd ps []) (he : PE X o (tX F kB c mo))
    (ht : eval (.Call (.Attribute o m apos) [] [] pos) X.env = (do let ov ← eval o X.env; standAt apos.atName; let (f, first) ← holding [ov] (getMethod ov m pl); callWith pos f first (backTo pos (starEach [] X.env)) (backToKw pos (keywordEach [] X.env))) := by rfl) :
    PE X (.Call (.Attribute o m apos) [] [] pos) (tX F kr c fun γ => (mo γ).bind fun s => mf (s, ())) :=
  pe_mono (pe_methW0 (pl := pl) he hc hm Fn hr hb (fun σ => L2N.passAt tk σ) ht) fun σ H Q ⟨H0, G0, G, os, γ, st, p⟩ => ⟨H0, G0, G, os, γ, st, p.step kB fun v H1 G1 b f1 ⟨q, o, e1, e2, e3⟩ p1 => by
    obtain ⟨dx, fs, e4, e5⟩ := Ii.ins e3
    subst hC
    refine ⟨q, dx, fs, e1, by rw [e2, e4], lookup_no e5 hnl, rfl, G1, (b, ()), f1.gh, ⟨q, o, [], by rw [e1], rfl, e2, e3, rfl⟩, ?_⟩
    cases em : mf (b, ()) with
    | no => rw [em] at p1; exact p1
    | ex z => rw [em] at p1; exact p1
    | ok z => rw [em] at p1; exact p1⟩
/-- a property is read; its getter raises nothing -/
theorem e_prop [Own β] {C : String} {a f p : Addr} {m : Str} {fd : FuncData} {ps : List Str} {k : Nat} {fl : List Str} {kr : Kd F.wd ρ} {mf : Ctx.T [.bo 0 β] → Rs ρ} {mo : Ctx.T c → Rs β} (Ii : IsIns C β fl) (hC : F.wd.cm C = a) (hc : Cls X.K a) (hp : PropOf X.K a m p f) 
    (Fn : FnOk X.prog X.w X.K X.mg X.base (L2N.CX X.prog X.w) k f fd ps (spF F.wd kr [.bo 0 β] mf)) (hr : Room (k + 1) X.A) (hb : Binds X.K fd ps []) (he : PE X o (tX F kB c mo)) (hab : attributeBase o m X.env (eval o X.env) = eval o X.env := by rfl) :
    PE X (.Attribute o m pos) (tX F kr c fun γ => (mo γ).bind fun s => (mf (s, ())).nox) :=
  pe_mono (pe_prop (E := fun _ _ _ => False) he hc hp Fn hr hb .nil (fun pins σ H s e s' I z => by
    obtain ⟨_, _, _, _, _, _, _, _, _, _, _, _, z⟩ := z
    exact z.elim) hab) fun σ H Q ⟨H0, G0, G, os, γ, st, p⟩ => ⟨H0, G0, G, os, γ, st, p.step kB fun v H1 G1 b f1 ⟨q, o, e1, e2, e3⟩ p1 => by
    obtain ⟨dx, fs, e4, e5⟩ := Ii.ins e3
    subst hC
    refine ⟨q, dx, fs, e1, by rw [e2, e4], rfl, G1, (b, ()), f1.gh, ⟨q, o, [], rfl, rfl, e2, e3, rfl⟩, ?_⟩
    cases em : mf (b, ()) with
    | no => rw [em] at p1; exact p1
    | ex z => rw [em] at p1; exact p1.elim
    | ok z => rw [em] at p1; exact p1⟩
end
/-! ### making -/
/-- an object under way: no attribute yet -/
structure Ini (C : String) where
instance {C : String} : Own (Ini C) where
  own := fun wd _ o _ => ∃ dx, o = .ins (wd.cm C) dx []
  mono := fun _ h => h
def spI (wd : Wd) {β : Type} [Own β] (C : String) (Γ : Ctx) (m : Ctx.T Γ → Rs β) : Sp := fun vs H Q E => ∃ x dx vs' H1 G γ, vs = .ref x :: vs' ∧ vs'.length = Γ.length ∧ H = upd (upd H1 dx (.own x)) x (.ins (wd.cm C) dx []) ∧ H1 x = none ∧ H1 dx = none ∧ dx ≠ x ∧ Same G H1 ∧ RA wd H1 G 1 Γ γ vs' ∧
  match m γ with
  | .ok b => ∀ H' G' o, Fr H1 G H' G' → H' x = some o → G' x = none → own wd G' o b → Q .non H'
  | .ex z => ∀ d H' G', Fr H1 G H' G' → RepX G' d z → E (.ref (wd.cm z.cls)) d H'
  | .no => False
section
variable {X : Cx} {F : Fx} {c : Ctx} {α β ρ : Type} {e o : Expr} {es : List Expr} {pos apos p : Pos}
theorem e_make [Own β] {C : String} {a f : Addr} {x : Str} {fd : FuncData} {ps : List Str} {k : Nat} {Γ : Ctx} {mf : Ctx.T Γ → Rs β} {ma : Ctx.T c → Rs (Ctx.T Γ)} (hC : F.wd.cm C = a) (M : Mk X.K a f) (tk : L2N.Takes X F.W)
    (Fn : FnOk X.prog X.w X.K X.mg X.base (L2N.CX X.prog X.w) k f fd ps (spI F.wd C Γ mf)) (hr : Room (k + 1) X.A) (hm : X.mg x = some (.ref a)) (hb : Binds X.K fd ps []) (ha : PA X (e :: es) (tA F c 1 Γ ma)) (hg : Gl X x := by rfl) (hdb : (x == ("__debug__" : Str)) = false := by decide)
    (he : starEach (e :: es) X.env = (false, eval e X.env) :: starEach es X.env := by rfl) (hpl : (backTo pos (starEach es X.env)).any (·.1) = false := by rfl) : PE X (.Call (.Name x p) (e :: es) [] pos) (tX F kO c fun γ => (ma γ).bind mf) :=
  pe_mono (pe_makeW M Fn hr hg hm hb (fun σ => L2N.passAt tk σ) ha hdb he hpl) fun σ H Q h => tM_post h fun vs H1 G1 g gh r p x dx hx hdx hne => by
    subst hC
    refine ⟨x, dx, vs, H1, G1, g, rfl, r.len, rfl, hx, hdx, hne, gh, r, ?_⟩
    cases em : mf g with
    | no => rw [em] at p; exact p
    | ex z => rw [em] at p; exact p
    | ok z => rw [em] at p; exact fun H' G' o f1 h1 h2 w => ⟨rfl, p H' G' _ f1 ⟨x, o, rfl, hx, h2, h1, w⟩⟩
/-- self -/
theorem e_varS [Own β] {i : Nat} {y : Addr} (v : Var c (.sf i β y)) {x : Str} (hN : X.N[i]? = some x := by rfl) (hv : Vis X.env.scope x := by first | exact Or.inl rfl | exact Or.inr (Or.inl rfl) | exact Or.inr (Or.inr rfl))
    (hd : (x == ("__debug__" : Str)) = false := by decide) (hcd : (x == ("__classdict__" : Str)) = false := by decide) : PE X (.Name x pos) (tX F kB c fun γ => .ok (v.get γ)) :=
  pe_mono (pe_var hN hv hd hcd) fun σ H Q ⟨H0, G0, G, os, γ, st, p⟩ => by
    obtain ⟨o, _, h1, h2, h3⟩ := v.sf st.r
    exact ⟨.ref y, h1, p H G _ (Fr.refl st.f.gh) ⟨y, o, rfl, h2, h3⟩⟩
/-- an attribute of self is stored -/
theorem s_fld [Own α] [Own β] [Rep ρ] {C : String} {a y : Addr} {f x : Str} {p1 p2 : Pos} {put : α → ρ → β} {m : Ctx.T (.sf 0 α y :: c) → Rs ρ} (hC : F.wd.cm C = a) (hc : Cls X.K a) (hn : NoAttr X.K a f)
    (hp : ∀ {wd G o} {b : α} {v} {z : ρ}, own wd G o b → rep wd G v z → ∃ dx fs, o = .ins (wd.cm C) dx fs ∧ fs.length < 1000 ∧ own wd G (.ins (wd.cm C) dx (putF f v fs)) (put b z))
    (h : PE X e (tX F kF (.sf 0 α y :: c) m)) (hN : X.N[0]? = some x := by rfl) (hv : Vis X.env.scope x := by first | exact Or.inl rfl | exact Or.inr (Or.inl rfl) | exact Or.inr (Or.inr rfl)) (hd : (x == ("__debug__" : Str)) = false := by decide) (hcd : (x == ("__classdict__" : Str)) = false := by decide)
    (hs : swapsWith e (some (.Attribute (.Name x p1) f p2)) pos.line X.env = pure false := by rfl) : PS X (.Assign [.Attribute (.Name x p1) f p2] e pos) (tS F (.sf 0 α y :: c) (.sf 0 β y :: c) fun γ => (m γ).bind fun z => .ok (put γ.1 z, γ.2)) :=
  ps_mono (ps_fld (pe_var hN hv hd hcd) h hs) fun D σ H ⟨H0, G0, G, os, γ, st, p⟩ => ⟨H0, G0, G, os, γ, st, p.step st kF fun v H1 G1 z f1 r1 p1 => by
    have st1 := st.ext f1
    obtain ⟨o, os', e0, h1, h2, h3, h4⟩ := st1.r
    obtain ⟨dx, fs, e4, e5, e6⟩ := hp h3 r1
    subst hC
    refine ⟨.ref y, h1, y, _, dx, fs, rfl, by rw [h2, e4], hc, hn, e5, ?_⟩
    have fry := st1.fr y (by rw [e0]; exact List.mem_cons_self)
    exact p1 _ _ _ os ⟨st1.len, ⟨Same.upd' st1.f.h fry.2, st1.f.g, fun a u q => by rw [upd_ne (ne_of_none q fry.1)]; exact st1.f.gh a u q, st1.f.new⟩, st1.nd, st1.fr, R.remake st1.nd st1.r e6⟩⟩
end
section
variable {P : Program} {w : World} {K : PySem.W.Frag} {mg : Str → Option Value} {base : Heap}
theorem fn_okI {wd : Wd} {β : Type} [Own β] {C : String} {Γ : Ctx} {m : Ctx.T (.ow 0 (Ini C) :: Γ) → Rs (Ctx.T [.ow 0 β])} {x qual : Str} {st : Stmt} {f : Addr} {fd : FuncData} {N ps : List Str} {k : Nat} (F : Fun K x qual st f fd) (S : FnScope N ps (defScope st)) (hl : Γ.length + 1 = ps.length)
    (body : ∀ (y : Addr) (cdv : Value) (A : Around) (outer : List Env) (s : Shared) (H : Hp) (E : XK), Room k (A.deeper (envOfC qual (defScope st) s.heap.objs.size f cdv)) →
      PSs (cxOf (L2N.CX P w) P w K mg base N qual (defScope st) f cdv A outer s H E) (defBody st) (tS ⟨wd, Sl.all N.length, fun cls d _ H => E cls d H⟩ (.sf 0 (Ini C) y :: Γ) [.sf 0 β y] m)) : FnOk P w K mg base (L2N.CX P w) (k + 1) f fd ps (spI wd C Γ fun γ => (m (⟨⟩, γ)).bind fun g => .ok g.1) := by
  have hpl : ps.length ≤ N.length := by have := congrArg List.length S.pre; rw [List.length_take] at this; omega
  refine okN F S (fun vs H Q E h => ?_) (fun cdv A outer s H vs Q E hr h => ?_)
  · obtain ⟨x, dx, vs', H1, G, γ, e, l, _⟩ := h
    rw [e, List.length_cons, l]; exact hl
  · obtain ⟨y, dx, vs', H1, G, γ, rfl, l, rfl, hy, hdx, hne, gh, ra, p⟩ := h
    have f0 : Fr H1 G (upd H1 dx (.own y)) G := Fr.alloc gh hdx
    have hy' : upd H1 dx (.own y) y = none := by rw [upd_ne (Ne.symm hne)]; exact hy
    have f1 : Fr (upd H1 dx (.own y)) G (upd (upd H1 dx (.own y)) y (.ins (wd.cm C) dx [])) G := Fr.alloc f0.gh hy'
    refine ⟨_, body y cdv A outer s _ E hr, upd H1 dx (.own y), G, G, [y], (⟨⟩, γ), ⟨?_, f1, (by simp), fun q hq => ?_, ?_⟩, ?_⟩
    · refine ⟨?_, trivial⟩
      show _ = N.length
      unfold L2.start
      rw [List.length_append, List.length_map, List.length_replicate]
      rw [List.length_cons] at *
      omega
    · rw [List.mem_singleton.mp hq]
      exact ⟨gh.free hy, hy'⟩
    · have r0 := RA.r (H := upd H1 dx (.own y)) (σ := L2.start N (V.ref y :: vs')) (fun k v e => by
        have := start_get (N := N) (vs := V.ref y :: vs') (k := k + 1) (v := v) e
        rwa [Nat.zero_add, Nat.add_comm k 1] at this) (ra.ext f0.h (Same.refl G))
      exact ⟨_, [], rfl, by have := start_get (N := N) (vs := V.ref y :: vs') (k := 0) (v := V.ref y) rfl; exact this, upd_same, ⟨dx, rfl⟩, r0.mono (Same.refl G) fun q hq => by cases hq⟩
    · dsimp only at p
      cases e : m (⟨⟩, γ) with
      | no => rw [e] at p; exact p
      | ex z => rw [e] at p; exact fun d σ H' G' _ s1 r1 => p d H' G' (f0.trans s1) r1
      | ok g =>
        rw [e] at p
        exact fun σ' H' G' os st => by
          obtain ⟨o, os', e0, h1, h2, h3, h4⟩ := st.r
          exact p H' G' o (f0.trans st.f) h2 (st.fr y (by rw [e0]; exact List.mem_cons_self)).1 h3
end
/-! ### the Sheaf -/
theorem ins_sheaf : IsIns "Sheaf" Sheaf ["_rows"] := ⟨fun {wd G o b} h => by
  obtain ⟨dx, v, e, _⟩ := h
  exact ⟨dx, _, e, rfl⟩⟩
theorem fld_rows {wd : Wd} {G : Hp} {o : HO} {b : Sheaf} (h : own wd G o b) : ∃ dx fs v, o = .ins (wd.cm "Sheaf") dx fs ∧ fs.lookup ("_rows" : Str) = some v ∧ rep wd G v b.rows := by
  obtain ⟨dx, v, e, r⟩ := h
  exact ⟨dx, _, v, e, rfl, r⟩
theorem put_rows {wd : Wd} {G : Hp} {o : HO} {b : Ini "Sheaf"} {v : V} {z : Tup (Int × Str)} (h : own wd G o b) (r : rep wd G v z) : ∃ dx fs, o = .ins (wd.cm "Sheaf") dx fs ∧ fs.length < 1000 ∧ own wd G (.ins (wd.cm "Sheaf") dx (putF ("_rows" : Str) v fs)) (Sheaf.mk z) := by
  obtain ⟨dx, e⟩ := h
  exact ⟨dx, [], e, by decide, dx, v, rfl, r⟩
/-! ### lists: backwards, without the first such item -/
def remI (xs : List Int) (a : Int) : Rs (List Int) := match xs.findIdx? (fun x => x == a) with
  | some j => .ok (xs.eraseIdx j)
  | none => .no
theorem reps.rev {α : Type} [Rep α] {wd : Wd} {G : Hp} : ∀ {vs : List V} {as : List α}, reps wd G vs as → reps wd G vs.reverse as.reverse
  | [], [], _ => trivial
  | _ :: _, _ :: _, ⟨h, t⟩ => by rw [List.reverse_cons, List.reverse_cons]; exact (reps.rev t).snoc h
  | [], _ :: _, h => h.elim
  | _ :: _, [], h => h.elim
section
variable {X : Cx} {F : Fx} {c : Ctx} {α : Type} {e : Expr}
theorem e_rev [Rep α] {m : Ctx.T c → Rs (List α)} {k : Nat} {p1 p2 p3 pos : Pos} (hK : F.wd.K = X.K) (h : PE X e (tX F kB c m)) : PE X (.Subscript e (.Slice none none (some (.UnaryOp .USub (.Constant (.int 1) k p1) p2)) p3) pos) (tX F kO c fun γ => (m γ).bind fun x => .ok x.reverse) :=
  pe_mono (pe_revL h) fun σ H Q ⟨H0, G0, G, os, γ, st, p⟩ => ⟨H0, G0, G, os, γ, st, by
    cases e : m γ with
    | no => dsimp only at p; rw [e] at p; exact p
    | ex x => dsimp only at p; rw [e] at p; exact p
    | ok b =>
      dsimp only at p; rw [e] at p
      exact fun H1 G1 v f1 ⟨q, o, e1, e2, vs, e3, e4, r⟩ => by
        subst e1; subst e3
        refine ⟨q, vs, rfl, .of e2, fun d nd => p _ G1 _ (f1.trans (Fr.alloc f1.gh nd)) ⟨d, _, rfl, f1.h.free nd, f1.gh.free nd, upd_same, _, rfl, by rw [List.length_reverse]; exact e4, (reps.rev r)⟩⟩⟩
theorem s_remove {j : Nat} {m : Ctx.T c → Rs Int} {x : Str} {p1 apos cpos pos : Pos} (v : Var c (.ow j (List Int))) (h : PE X e (tX F kF c m)) (hN : X.N[j]? = some x := by rfl) (hv : Vis X.env.scope x := by first | exact Or.inl rfl | exact Or.inr (Or.inl rfl) | exact Or.inr (Or.inr rfl))
    (hd : (x == ("__debug__" : Str)) = false := by decide) (hcd : (x == ("__classdict__" : Str)) = false := by decide) (he : starEach (e :: []) X.env = (false, eval e X.env) :: starEach [] X.env := by rfl)
    (hbase : attributeBase (.Name x p1) "remove" X.env (eval (.Name x p1) X.env) = eval (.Name x p1) X.env := by rfl)
    (hfew : ((backTo cpos (starEach (e :: []) X.env)).all (fun x => !x.1) && (backToKw cpos (keywordEach [] X.env)).all (fun x => x.1.isSome) && decide ((e :: []).length + ([] : List Keyword).length + (if ([] : List Keyword).isEmpty then 0 else 1) < 30)) = true := by rfl)
    (hline : (apos.endLine == cpos.line) = true := by rfl) (hplain : (backTo cpos (starEach [] X.env)).any (·.1) = false := by rfl) (hs : swapsWith (.Call (.Attribute (.Name x p1) "remove" apos) [e] [] cpos) none pos.line X.env = pure false := by rfl) :
    PS X (.Expr (.Call (.Attribute (.Name x p1) "remove" apos) [e] [] cpos) pos) (tS F c c fun γ => (m γ).bind fun a => (remI (v.get γ) a).bind fun ys => .ok (v.put γ ys)) :=
  ps_mono (ps_expr (pe_bm PySem.F.plainAttrs_list PySem.F.slot_list_remove PySem.F.type_list_remove mt_remove (pe_var hN hv hd hcd) (pa_cons h pa_nil he) hbase hfew hline he hplain) hs) fun D σ H ⟨H0, G0, G, os, γ, st, p⟩ => by
    obtain ⟨q, o, e1, e2, ⟨vs, e3, e5, e6⟩, e4⟩ := st.write v
    subst e3
    refine ⟨.ref q, e1, .inl ⟨rfl, _, .of e2⟩, H0, G0, G, os, γ, st, p.step st kF fun va H1 G1 a f1 r1 p1 => ?_⟩
    have st1 := st.ext f1
    obtain ⟨q2, o2, d1, d2, ⟨vs2, d3, d5, d6⟩, d4⟩ := st1.write v
    subst d3
    have eq : q2 = q := by rw [e1] at d1; injection d1 with d1; injection d1 with d1; injection d1 with d1; exact d1.symm
    subst eq
    have p3 : PostN F H0 G0 c D ((remI (v.get γ) a).bind fun ys => .ok (v.put γ ys)) := p1
    unfold remI at p3
    have ev := d6.ints
    subst ev
    cases ej : (v.get γ).findIdx? (fun x => x == a) with
    | none => rw [ej] at p3; exact p3.elim
    | some k =>
      rw [ej] at p3
      obtain ⟨hk, hk1, hk2⟩ := List.findIdx?_eq_some_iff_getElem.mp ej
      refine ⟨q2, v.get γ, a, k, rfl, by rw [show va = V.int a from r1], d2, by rw [List.getElem?_eq_getElem hk]; exact congrArg some (by simpa using hk1), fun n hn hm => ?_, p3 _ _ _ _ (d4 _ _ ⟨_, rfl, Nat.le_trans (by rw [List.length_map, List.length_map, List.length_eraseIdx]; split <;> omega) d5, reps.of_ints⟩)⟩
      have h2 := hk2 n hn
      rw [List.getElem?_eq_getElem (by omega)] at hm
      exact h2 (by simpa using hm)
end
/-! ### == of an own class -/
section
variable {X : Cx} {CX : CXT} {n : Nat} {f C : Addr} {fd : FuncData} {ps : List Str} {sp : Sp}
def rEqW (C : Addr) (sp : Sp) : R2 := fun x y H Q => ∃ a b dx dy fs gs, x = .ref a ∧ y = .ref b ∧ H a = some (.ins C dx fs) ∧ H b = some (.ins C dy gs) ∧ sp [.ref a, .ref b] H (fun v H' => ∃ r, v = .bl r ∧ Q v H') fun _ _ _ => False
theorem op_eqW (Fn : FnOk X.prog X.w X.K X.mg X.base (L2N.CX X.prog X.w) n f fd ps sp) (hs : PySem.W.findIn X.K (.ref C) "__eq__" = some (some (.ref f))) (hf : PySem.W.isFn X.K (.ref f) = true) (room : Room n X.A) (hb : Binds X.K fd ps []) : OpR X (compareOp .Eq) (rEqW C sp) := by
  intro pins s σ H x y v u Q I rx ry hq
  obtain ⟨a, b, dx, dy, fs, gs, rfl, rfl, ha, hb', hsp⟩ := hq
  cases rx; cases ry
  obtain ⟨mA, J, _⟩ := ins_get I.hok ha
  obtain ⟨mB, J', _⟩ := ins_get I.hok hb'
  obtain ⟨od, J, _⟩ := J.look
  obtain ⟨od', J', _⟩ := J'.look
  obtain ⟨m, hF⟩ := I.fr
  show wpAny (model X.prog X.w) X.A (richCompare .Eq (.ref a) (.ref b)) (EP X pins σ Q) X.xe s
  refine PySem.W.cmp_K (op := .Eq) (tb := .ref C) room.units0 hF I.ok.mod.kin J J'.type (by simp [PySem.W.notFirst]) hs hf ?_
  refine wpAny_mono (run_fnSD (us := [.ref a, .ref b]) (vs := [.ref a, .ref b]) (dvs := []) (ds := []) (E := fun _ _ _ _ => False) Fn room hb .nil (fun pins H s e s' I z => by
    obtain ⟨_, _, _, _, _, _, _, _, _, _, _, _, z⟩ := z
    exact z.elim) I (.cons rfl (.cons rfl .nil)) hsp) (fun r s' z => ?_) fun _ _ x => x
  obtain ⟨v, H', I', rv, r', ev, q⟩ := z
  subst ev
  cases rv
  exact ⟨.bl r', H', I', rfl, q⟩
theorem m_eqW {wd : Wd} {β : Type} [Own β] {Cn : String} {fl : List Str} {mf : Ctx.T [.bo 0 β, .bo 1 β] → Rs Bool} (Ii : IsIns Cn β fl) (hC : wd.cm Cn = C) : Sem2 (wd := wd) kB kB kF (rEqW C (spF wd (kF (α := Bool)) [.bo 0 β, .bo 1 β] mf)) fun a b => (mf (a, b, ())).nox := by
  intro W σ B1 B2 H G x y a b Q gh hx hy p
  obtain ⟨q, o, e1, e2, e3⟩ := hx
  obtain ⟨q', o', d1, d2, d3⟩ := hy
  obtain ⟨dx, fs, e4, e5⟩ := Ii.ins e3
  obtain ⟨dy, gs, d4, d5⟩ := Ii.ins d3
  subst hC
  refine ⟨q, q', dx, dy, fs, gs, e1, d1, by rw [e2, e4], by rw [d2, d4], rfl, G, (a, b, ()), gh, ⟨q, o, _, rfl, rfl, e2, e3, q', o', _, rfl, rfl, d2, d3, rfl⟩, ?_⟩
  dsimp only at p
  cases em : mf (a, b, ()) with
  | no => rw [em] at p; exact p
  | ex z => rw [em] at p; exact p.elim
  | ok r =>
    rw [em] at p
    exact fun H' G' v f1 r1 => ⟨r, r1, p H' G' v f1 r1⟩
structure IsiC (K : PySem.W.Frag) (C : Addr) : Prop where
  cl : Cls K C
  ha : PySem.W.findIn K (.ref C) "__class__" = some (some (.builtin "object.__class__"))
  hn : PySem.W.specialIn K (.builtin "object.__class__") "__get__" = some (some (.builtin "getset_descriptor.__get__"))
  ht : PySem.W.takesIn K (.builtin "object.__class__") = some true
  hm : PySem.W.mroIn K C (.type "object") = some true
theorem ty_insB {wd : Wd} {K : PySem.W.Frag} {β : Type} [Own β] {Cn : String} {fl : List Str} {B H G : Hp} {v : V} {a : β} (Ii : IsIns Cn β fl) (hC : wd.cm Cn = C) (Is : IsiC K C) (_ : Same G H) (h : (kB (wd := wd)).rel B H G v a) : TyX K H v (.ref C) := by
  obtain ⟨q, o, e1, e2, e3⟩ := h
  obtain ⟨dx, fs, e4, e5⟩ := Ii.ins e3
  subst hC
  subst e1
  exact .base (.ins (dx := dx) (fs := fs) (by rw [e2, e4]) Is.cl Is.ha Is.hn Is.ht Is.hm)
theorem kit_self {K : PySem.W.Frag} : PySem.W.kitOne K (.ref C) (.ref C) = some true := by
  unfold PySem.W.kitOne
  exact if_pos (beq_self_eq_true _)
/-- the class itself, by its name -/
theorem e_cls {x : Str} {pos : Pos} (hg : Gl X x) (hm : X.mg x = some (.ref C)) (hd : (x == ("__debug__" : Str)) = false := by decide) : PE X (.Name x pos) (tC (.ref C)) := pe_glob hg hm (v := .ref C) rfl hd
end
/-! ### len of an own class -/
section
variable {X : Cx} {n : Nat} {f C : Addr} {fd : FuncData} {ps : List Str} {sp : Sp}
def rLenW (C : Addr) (sp : Sp) : List V → Hp → VK → Prop := fun xs H Q => ∃ a dx fs, xs = [.ref a] ∧ H a = some (.ins C dx fs) ∧ sp [.ref a] H (fun v H' => ∃ i : Int, v = .int i ∧ 0 ≤ i ∧ i < 4611686018427387904 ∧ Q (.int i) H') fun _ _ _ => False
theorem call_lenW (Fn : FnOk X.prog X.w X.K X.mg X.base (L2N.CX X.prog X.w) n f fd ps sp) (hs : PySem.W.findIn X.K (.ref C) "__len__" = some (some (.ref f))) (hf : PySem.W.isFn X.K (.ref f) = true) (room : Room (n + 1) X.A) (hb : Binds X.K fd ps []) : CallR X (.builtin "len") (rLenW C sp) := by
  intro pins s σ H xs us Q I r h
  obtain ⟨a, dx, fs, rfl, ha, hsp⟩ := h
  obtain ⟨u, rfl, rx⟩ := vals1 r
  cases rx
  obtain ⟨mA, J, _⟩ := ins_get I.hok ha
  obtain ⟨od, J, _⟩ := J.look
  obtain ⟨m, hF⟩ := I.fr
  have hl : ([Value.ref a] ++ []).length = ps.length := by rw [← Fn.len _ _ _ _ hsp]; rfl
  have bd := hb s [.ref a] I.kIn hl
  refine PySem.W.len_K hF I.ok.mod.kin J hs hf (wpAny_call (codeAny_mono (Fn.run X.A.in1 X.stack s H ⟨[.ref a], []⟩ [.ref a] [.ref a] _ _ room.in1 I.env0.in1 bd (.cons rfl .nil) hsp) fun r s' hq => ?_))
  match r, hq with
  | .error e, hq =>
    obtain ⟨_, _, _, _, _, _, _, _, _, _, _, _, z⟩ := hq
    exact z.elim
  | .ok (.ret w), hq =>
    obtain ⟨v, H', I3, rv, i, ev, h0, h1, q3⟩ := I.after hq
    subst ev
    obtain ⟨t, rfl⟩ := rv
    exact ⟨⟨h0, by omega⟩, .int i, H', I3.tok _, ⟨_, rfl⟩, q3⟩
theorem m_lenW {wd : Wd} {β : Type} [Own β] {Cn : String} {fl : List Str} {mf : Ctx.T [.bo 0 β] → Rs Int} (Ii : IsIns Cn β fl) (hC : wd.cm Cn = C) : Sem1 (wd := wd) kB kF (fun x => rLenW C (spF wd (kF (α := Int)) [.bo 0 β] mf) [x]) fun a => (mf (a, ())).nox.bind fun i => if 0 ≤ i ∧ i < 4611686018427387904 then .ok i else .no := by
  intro W σ B H G x a Q gh hx p
  obtain ⟨q, o, e1, e2, e3⟩ := hx
  obtain ⟨dx, fs, e4, e5⟩ := Ii.ins e3
  subst hC
  refine ⟨q, dx, fs, by rw [e1], by rw [e2, e4], rfl, G, (a, ()), gh, ⟨q, o, _, rfl, rfl, e2, e3, rfl⟩, ?_⟩
  dsimp only at p
  cases em : mf (a, ()) with
  | no => rw [em] at p; exact p
  | ex z => rw [em] at p; exact p.elim
  | ok r =>
    rw [em] at p
    have p2 : Post W (kF (wd := wd)) σ H G Q (if 0 ≤ r ∧ r < 4611686018427387904 then .ok r else .no) := p
    by_cases hr : 0 ≤ r ∧ r < 4611686018427387904
    · rw [if_pos hr] at p2
      exact fun H' G' v f1 r1 => ⟨r, r1, hr.1, hr.2, by
        have z := p2 H' G' v f1 r1
        rw [show v = V.int r from r1] at z
        exact z⟩
    · rw [if_neg hr] at p2
      exact p2.elim
end
end Wm
set_option Elab.async false
set_option linter.all false
set_option maxRecDepth 100000
set_option maxHeartbeats 4000000
namespace Wm
open PySem PySem.Spec PyProof.Rows L2
open Rep (rep)
open Own (own)
/-! ### sorted(..) of ints -/
def sortI (xs : List Int) : List Int := xs.mergeSort fun a b => decide (a ≤ b)
theorem sortI_perm (xs : List Int) : (sortI xs).Perm xs := List.mergeSort_perm _ _
theorem sortI_up (xs : List Int) : (sortI xs).Pairwise (· ≤ ·) := by
  have h := List.pairwise_mergeSort (le := fun a b : Int => decide (a ≤ b)) (fun a b c h1 h2 => by simp only [decide_eq_true_eq] at *; omega) (fun a b => by simp only [Bool.or_eq_true, decide_eq_true_eq]; omega) xs
  exact h.imp fun h => of_decide_eq_true h
theorem sortI_is {xs ys : List Int} (p : ys.Perm xs) (u : ys.Pairwise (· ≤ ·)) : ys = sortI xs :=
  List.Perm.eq_of_pairwise (fun a b _ _ h1 h2 => by omega) u (sortI_up xs) (p.trans (sortI_perm xs).symm)
theorem sortI_len (xs : List Int) : (sortI xs).length = xs.length := (sortI_perm xs).length_eq
theorem m_sorted {wd : Wd} {K : PySem.W.Frag} : Sem1 (wd := wd) kB kO (fun x => rSortedI K [x]) (fun (a : List Int) => .ok (sortI a)) := by
  intro W σ B H G x a Q gh ⟨q, o, e1, e2, vs, e3, e4, r⟩ p
  subst e1; subst e3
  refine ⟨q, a, rfl, by rw [← r.ints]; exact .of e2, fun ns' d hp hu nd => ?_⟩
  have e := sortI_is hp hu
  subst e
  exact p _ _ _ (Fr.alloc gh nd) ⟨d, _, rfl, nd, gh.free nd, upd_same, _, rfl, by rw [List.length_map, sortI_len, ← r.len]; exact e4, reps.of_ints⟩
theorem bt_sorted : bootBuiltins "sorted" = some (.builtin "sorted") := by decide +kernel
/-! ### a value's truth as a test -/
section
variable {X : Cx} {F : Fx} {c : Ctx} {α : Type} {e : Expr}
theorem q_tru {k : Kd F.wd α} {m : Ctx.T c → Rs α} {tv : α → Bool} (hv : ∀ {B H G v a}, Same G H → k.rel B H G v a → TruV X.K v H (tv a)) (h : PE X e (tX F k c m)) (he : ∀ whole, isTrue e X.env whole = (do let v ← whole; standAt e.pos; holding [v] (truthy v)) := by intro _; rfl) :
    PT X e (tQ F c fun γ => (m γ).bind fun a => .ok (tv a)) :=
  pt_mono (pt_truth h he) fun σ H Q ⟨H0, G0, G, os, γ, st, p⟩ => ⟨H0, G0, G, os, γ, st, p.step k fun v H1 G1 a f1 r p1 => by
    obtain ⟨b, hb, q⟩ := p1 H1 G1 (.bl (tv a)) (Fr.refl f1.gh) rfl
    cases hb
    exact ⟨_, hv f1.gh r, q⟩⟩
theorem tv_list {wd : Wd} {K : PySem.W.Frag} [Rep α] {B H G : Hp} {v : V} {a : List α} (_ : Same G H) (h : (kB (wd := wd)).rel B H G v a) : TruV K v H (!a.isEmpty) := by
  obtain ⟨q, o, e1, e2, vs, e3, e4, r⟩ := h
  subst e1; subst e3
  refine .inl ⟨vs, .of e2, ?_⟩
  cases a with
  | nil => cases vs with
    | nil => rfl
    | cons => exact r.elim
  | cons => cases vs with
    | nil => exact r.elim
    | cons => rfl
theorem tv_int {wd : Wd} {K : PySem.W.Frag} {B H G : Hp} {v : V} {a : Int} (_ : Same G H) (h : (kF (wd := wd)).rel B H G v a) : TruV K v H (a != 0) := by
  rw [show v = .int a from h]; rfl
end
/-! ### list.index -/
def idxI (xs : List Int) (a : Int) : Rs Int := match xs.findIdx? (fun x => x == a) with
  | some j => .ok (j : Int)
  | none => .no
section
variable {X : Cx} {F : Fx} {c : Ctx} {e o : Expr}
theorem e_index {m : Ctx.T c → Rs (List Int)} {ma : Ctx.T c → Rs Int} {apos cpos : Pos} (ho : PE X o (tX F kB c m)) (h : PE X e (tX F kF c ma)) (he : starEach (e :: []) X.env = (false, eval e X.env) :: starEach [] X.env := by rfl)
    (hbase : attributeBase o "index" X.env (eval o X.env) = eval o X.env := by rfl)
    (hfew : ((backTo cpos (starEach (e :: []) X.env)).all (fun x => !x.1) && (backToKw cpos (keywordEach [] X.env)).all (fun x => x.1.isSome) && decide ((e :: []).length + ([] : List Keyword).length + (if ([] : List Keyword).isEmpty then 0 else 1) < 30)) = true := by rfl)
    (hline : (apos.endLine == cpos.line) = true := by rfl) (hplain : (backTo cpos (starEach [] X.env)).any (·.1) = false := by rfl) :
    PE X (.Call (.Attribute o "index" apos) [e] [] cpos) (tX F kF c fun γ => (m γ).bind fun xs => (ma γ).bind fun a => idxI xs a) :=
  pe_mono (pe_bm PySem.F.plainAttrs_list PySem.F.slot_list_index PySem.F.type_list_index mt_index ho (pa_cons h pa_nil he) hbase hfew hline he hplain) fun σ H Q ⟨H0, G0, G, os, γ, st, p⟩ => ⟨H0, G0, G, os, γ, st, p.step kB fun v H1 G1 xs f1 ⟨q, o, e1, e2, vs, e3, e4, r⟩ p1 => by
    subst e1; subst e3
    refine ⟨.inl ⟨rfl, _, .of e2⟩, H0, G0, G1, os, γ, st.ext f1, p1.step kF fun w H2 G2 a f2 r2 p2 => ?_⟩
    have ev := r.ints
    subst ev
    unfold idxI at p2
    cases ej : xs.findIdx? (fun x => x == a) with
    | none => rw [ej] at p2; exact p2.elim
    | some k =>
      rw [ej] at p2
      obtain ⟨hk, hk1, hk2⟩ := List.findIdx?_eq_some_iff_getElem.mp ej
      refine ⟨q, _, w, k, .int a, rfl, rfl, .of (f2.h _ _ e2), by rw [show w = V.int a from r2]; rfl, by rw [List.all_map]; exact List.all_eq_true.mpr fun _ _ => rfl, by rw [List.getElem?_map, List.getElem?_eq_getElem hk]; exact congrArg (fun z => some (V.int z)) (by simpa using hk1), by rw [show w = V.int a from r2]; simp [eqV], fun n z' hn hz => ?_, p2 _ _ _ (Fr.refl f2.gh) rfl⟩
      rw [List.getElem?_map, List.getElem?_eq_getElem (by omega)] at hz
      cases hz
      have h2 := hk2 n hn
      rw [show w = V.int a from r2]
      simpa [eqV] using h2⟩
end
theorem m_lenP {wd : Wd} {K : PySem.W.Frag} {α β : Type} [Rep α] [Rep β] : Sem1 (wd := wd) kF kF (fun x => (fun xs H Q => ∃ p ys, xs = [V.ref p] ∧ (SqL K H p ys ∨ SqT K H p ys) ∧ Q (.int ys.length) H : List V → Hp → VK → Prop) [x]) (fun (_ : α × β) => .ok (2 : Int)) := by
  intro W σ B H G x a Q gh ⟨q, o, e1, e2, v, w, e3, r1, r2⟩ p
  subst e1; subst e3
  exact ⟨q, [v, w], rfl, .inr (.of (gh _ _ e2)), p H G _ (Fr.refl gh) rfl⟩
end Wm
set_option Elab.async false
set_option linter.all false
set_option maxRecDepth 100000
set_option maxHeartbeats 4000000
namespace Wm
open PySem PySem.Spec PyProof.Rows L2
open Rep (rep)
open Own (own)
/-! ### a last parameter by keyword, with a default -/
def Ctx.snoc {e : Ent} : (c : Ctx) → Ctx.T c → e.T → Ctx.T (c ++ [e])
  | [], _, a => (a, ())
  | _ :: c, g, a => (g.1, Ctx.snoc c g.2 a)
theorem RA.snoc {wd : Wd} {H G : Hp} {α : Type} [Rep α] {v : V} {a : α} : ∀ {j n : Nat} {Γ : Ctx} {g : Ctx.T Γ} {vs : List V}, n = j + Γ.length → RA wd H G j Γ g vs → rep wd G v a → RA wd H G j (Γ ++ [.fz n α]) (Ctx.snoc Γ g a) (vs ++ [v])
  | j, n, [], g, vs, hn, h, r => by
    have e : vs = [] := h
    subst e
    exact ⟨v, [], rfl, hn, r, rfl⟩
  | j, n, @Ent.fz i β _ :: Γ, g, vs, hn, h, r => by
    obtain ⟨w, vs', rfl, e2, e3, h⟩ := h
    exact ⟨w, vs' ++ [v], rfl, e2, e3, RA.snoc (by simp only [List.length_cons] at hn; omega) h r⟩
  | j, n, @Ent.bo i β _ :: Γ, g, vs, hn, h, r => by
    obtain ⟨p, o, vs', rfl, e2, e3, e4, h⟩ := h
    exact ⟨p, o, vs' ++ [v], rfl, e2, e3, e4, RA.snoc (by simp only [List.length_cons] at hn; omega) h r⟩
  | j, n, @Ent.ow i β _ :: Γ, g, vs, hn, h, r => h.elim
  | j, n, @Ent.oo i β _ :: Γ, g, vs, hn, h, r => h.elim
  | j, n, @Ent.sf i β _ x :: Γ, g, vs, hn, h, r => h.elim
section
variable {X : Cx} {F : Fx} {c : Ctx} {α β δ ρ : Type} {e : Expr} {es : List Expr}
theorem sp_snoc [Rep α] {kr : Kd F.wd ρ} {Γ : Ctx} {n : Nat} (hn : n = Γ.length) {d : V} {z : α} (hz : ∀ G, rep F.wd G d z) {m : Ctx.T (Γ ++ [.fz n α]) → Rs ρ} {ma : Ctx.T c → Rs (Ctx.T Γ)} {σ : L2.St} {H : Hp} {Q : VK} (h : tX F kr c (fun γ => (ma γ).bind fun g => m (Ctx.snoc Γ g z)) σ H Q) :
    tA F c 0 Γ ma σ H fun vs H1 => spF F.wd kr (Γ ++ [.fz n α]) m (vs ++ [d]) H1 Q (WE F.W σ) :=
  tM_post h fun vs H1 G1 g gh r p => ⟨(RA.snoc (by rw [Nat.zero_add]; exact hn) r (hz G1)).len, G1, Ctx.snoc Γ g z, gh, RA.snoc (by rw [Nat.zero_add]; exact hn) r (hz G1), by
    cases e : m (Ctx.snoc Γ g z) with
    | no => rw [e] at p; exact p
    | ex x => rw [e] at p; exact p
    | ok z => rw [e] at p; exact p⟩
/-- the default is taken -/
theorem e_callD [Rep α] {kr : Kd F.wd ρ} (Γ : Ctx) {n : Nat} {d : V} {z : α} {m : Ctx.T (Γ ++ [.fz n α]) → Rs ρ} {ma : Ctx.T c → Rs (Ctx.T Γ)} {x : Str} {p pos : Pos} {f : Addr} {fd : FuncData} {ps : List Str} {k : Nat} (tk : L2N.Takes X F.W) (Fn : FnOk X.prog X.w X.K X.mg X.base (L2N.CX X.prog X.w) k f fd ps (spF F.wd kr (Γ ++ [.fz n α]) m)) (hr : Room k X.A) (hm : X.mg x = some (.ref f)) (hk : PySem.W.keepIn X.K (.ref f) = true) (hb : ∃ ds, Vals [d] ds ∧ Binds X.K fd ps ds) (hz : ∀ G, rep F.wd G d z)
    (ha : PA X (e :: es) (tA F c 0 Γ ma)) (hn : n = Γ.length := by rfl) (hg : Gl X x := by rfl) (hdb : (x == ("__debug__" : Str)) = false := by decide) (he : starEach (e :: es) X.env = (false, eval e X.env) :: starEach es X.env := by rfl) (hpl : (backTo pos (starEach es X.env)).any (·.1) = false := by rfl) :
    PE X (.Call (.Name x p) (e :: es) [] pos) (tX F kr c fun γ => (ma γ).bind fun g => m (Ctx.snoc Γ g z)) := by
  obtain ⟨ds, hv, hb⟩ := hb
  exact pe_mono (pe_callSD (dvs := [d]) Fn hr hg hm hk hb hv (fun σ => L2N.passAt tk σ) ha hdb he hpl) fun σ H Q h => sp_snoc hn hz h
/-- it is given by its name -/
theorem a_kw1 [Rep α] {nm : Option Str} {kpos : Pos} {m : Ctx.T c → Rs α} (h : PE X e (tX F kF c m)) : PK X [⟨nm, e, kpos⟩] (tM F (fun _ G vs a => ∃ v, vs = [v] ∧ rep F.wd G v a) c m) := by
  have h2 := pk_cons (kpos := kpos) (nm := nm) h pk_nil
  refine ⟨fun pos pins s σ H Q I q => h2.run pos pins s σ H Q I ?_⟩
  obtain ⟨H0, G0, G, os, γ, st, p⟩ := q
  refine ⟨H0, G0, G, os, γ, st, ?_⟩
  cases e : m γ with
  | no => rw [e] at p; exact p
  | ex x => rw [e] at p; exact p
  | ok a =>
    rw [e] at p
    exact fun H1 G1 v f r => p H1 G1 [v] f ⟨v, rfl, r⟩
def tKwS (n : Nat) (sp : Sp) (E : L2.St → XK) (t t2 : TA) : TE := fun σ H Q => t σ H fun vs H1 => t2 σ H1 fun zs H2 => vs.length = n ∧ zs.length = 1 ∧ sp (vs ++ zs) H2 Q (E σ)
theorem pe_kwS {CX : CXT} {sp : Sp} {E : L2.St → XK} {n k : Nat} {kn : Str} {e2 : Expr} {kpos p pos : Pos} {x : Str} {f : Addr} {fd : FuncData} {ps : List Str} {t t2 : TA} (Fn : FnOk X.prog X.w X.K X.mg X.base CX k f fd ps sp) (room : Room k X.A) (hg : Gl X x) (hm : X.mg x = some (.ref f)) (hk : PySem.W.keepIn X.K (.ref f) = true)
    (hb : KBn X.K fd ps n [kn] (fun us ws => us ++ ws) (fun vs zs => vs ++ zs)) (hx : ∀ σ, PassesAt CX X σ (E σ)) (ha : PA X (e :: es) t) (h2 : PK X [⟨some kn, e2, kpos⟩] t2) (hall : (backToKw pos (keywordEach [⟨some kn, e2, kpos⟩] X.env)).all (·.1.isSome) = true) (hks : (backToKw pos (keywordEach [⟨some kn, e2, kpos⟩] X.env)).filterMap (·.1) = [kn])
    (hdb : (x == ("__debug__" : Str)) = false) (he : starEach (e :: es) X.env = (false, eval e X.env) :: starEach es X.env) (hpl : ((backTo pos (starEach (e :: es) X.env)).any (·.1) || (backToKw pos (keywordEach [⟨some kn, e2, kpos⟩] X.env)).any (·.1.isNone)) = false) :
    PE X (.Call (.Name x p) (e :: es) [⟨some kn, e2, kpos⟩] pos) (tKwS n sp E t t2) := ⟨fun pins s σ H Q I h => by
  refine wpAny_Call_Name_kw (ld_glob I hg hm (PySem.W.callWith_KW (h₀ := X.base) I.ok.mod.kin hk hall (thn (ha.run pos pins s σ H _ I h) fun us s1 ⟨vs, H1, I1, r, q⟩ => ?_) hpl he) hdb)
  refine thn (h2.run pos pins s1 σ H1 _ I1 q) fun ws s2 ⟨zs, H2, I2, rz, l1, l2, q2⟩ => ⟨I2.kIn, ?_⟩
  rw [hks]
  refine wpAny_call (codeAny_mono (Fn.run X.A X.stack s2 H2 ⟨us, [kn].zip ws⟩ (us ++ ws) (vs ++ zs) Q (E σ) room I2.env0 (hb.to s2 us ws I2.kIn (r.length.symm.trans l1) (rz.length.symm.trans l2)) (hb.rel r rz) q2) fun r' s' hq => ?_)
  match r', hq with
  | .error e, hq => exact hx σ pins _ _ e s' I2 hq
  | .ok (.ret u), hq => exact I2.after hq⟩
theorem e_callK [Rep α] {kr : Kd F.wd ρ} (Γ : Ctx) {n : Nat} {kn : Str} {e2 : Expr} {kpos : Pos} {m : Ctx.T (Γ ++ [.fz n α]) → Rs ρ} {ma : Ctx.T c → Rs (Ctx.T Γ)} {mk : Ctx.T c → Rs α} {x : Str} {p pos : Pos} {f : Addr} {fd : FuncData} {ps : List Str} {k : Nat} (tk : L2N.Takes X F.W) (Fn : FnOk X.prog X.w X.K X.mg X.base (L2N.CX X.prog X.w) k f fd ps (spF F.wd kr (Γ ++ [.fz n α]) m)) (hr : Room k X.A) (hm : X.mg x = some (.ref f)) (hk : PySem.W.keepIn X.K (.ref f) = true)
    (hb : KBn X.K fd ps n [kn] (fun us ws => us ++ ws) (fun vs zs => vs ++ zs))
    (ha : PA X (e :: es) (tA F c 0 Γ ma)) (h2 : PE X e2 (tX F kF c mk)) (hn : n = Γ.length := by rfl) (hg : Gl X x := by rfl) (hall : (backToKw pos (keywordEach [⟨some kn, e2, kpos⟩] X.env)).all (·.1.isSome) = true := by rfl) (hks : (backToKw pos (keywordEach [⟨some kn, e2, kpos⟩] X.env)).filterMap (·.1) = [kn] := by rfl) (hdb : (x == ("__debug__" : Str)) = false := by decide) (he : starEach (e :: es) X.env = (false, eval e X.env) :: starEach es X.env := by rfl)
    (hpl : ((backTo pos (starEach (e :: es) X.env)).any (·.1) || (backToKw pos (keywordEach [⟨some kn, e2, kpos⟩] X.env)).any (·.1.isNone)) = false := by rfl) :
    PE X (.Call (.Name x p) (e :: es) [⟨some kn, e2, kpos⟩] pos) (tX F kr c fun γ => (ma γ).bind fun g => (mk γ).bind fun a => m (Ctx.snoc Γ g a)) :=
  pe_mono (pe_kwS Fn hr hg hm hk hb (fun σ => L2N.passAt tk σ) ha (a_kw1 h2) hall hks hdb he hpl) fun σ H Q ⟨H0, G0, G, os, γ, st, p⟩ => ⟨H0, G0, G, os, γ, st, by
    dsimp only at p
    cases e : ma γ with
    | no => rw [e] at p; exact p
    | ex x => rw [e] at p; exact p
    | ok g =>
      rw [e] at p
      refine fun H1 G1 vs f1 r => ⟨H0, G0, G1, os, γ, st.ext f1, ?_⟩
      have p1 := Post.ext (show Post F.W kr σ H G Q ((mk γ).bind fun a => m (Ctx.snoc Γ g a)) from p) f1
      cases e2 : mk γ with
      | no => rw [e2] at p1; exact p1
      | ex x => rw [e2] at p1; exact p1
      | ok a =>
        rw [e2] at p1
        intro H2 G2 zs f2 hz
        obtain ⟨v, rfl, hv⟩ := hz
        have p2 := Post.ext (show Post F.W kr σ H1 G1 Q (m (Ctx.snoc Γ g a)) from p1) f2
        have ra : RA F.wd H2 G2 0 (Γ ++ [.fz n α]) (Ctx.snoc Γ g a) (vs ++ [v]) := RA.snoc (by rw [Nat.zero_add]; exact hn) (r.ext f2.h f2.g) hv
        refine ⟨r.len.trans hn.symm, rfl, ra.len, G2, _, f2.gh, ra, ?_⟩
        cases e3 : m (Ctx.snoc Γ g a) with
        | no => rw [e3] at p2; exact p2
        | ex x => rw [e3] at p2; exact p2
        | ok z => rw [e3] at p2; exact p2⟩
/-! ### how such defs bind -/
section
variable {K : PySem.W.Frag} {x qual : Str} {st : Stmt} {f : Addr} {oc : Value} {od : Option Addr} {D : Addr} {doc pm cdv ct : Value} {an : Option Addr} {osl : Array (Option Value)} {ps : List Str}
abbrev kwFn (x qual : Str) (st : Stmt) (D : Addr) (doc pm : Value) (an : Option Addr) (cdv ct : Value) : FuncData := PySem.W.fnOf x qual (defArgs st) (defBody st) (defScope st) .none (.ref D) doc pm an cdv ct
theorem kw_dflt {kn : Str} {v : V} {u : Value} (n : Nat) (hu : PySem.W.nsIn K D kn = some (some u)) (hv : RelV v u) (hl : ps.length = n + 1)
    (h : ∀ (us : List Value) (u : Value), us.length = n → KwChain D [(kn, u)] (bindArgs (kwFn x qual st D doc pm an cdv ct) ⟨us, []⟩) (ps.zip (us ++ [u]))) : ∃ ds, Vals [v] ds ∧ Binds K (kwFn x qual st D doc pm an cdv ct) ps ds :=
  ⟨[u], .cons hv .nil, fun s us X hlen => BindsTo.of_looks fun M => KwChain.looks X (fun q hq => by
    rw [List.mem_singleton.mp hq]; exact hu) (h us u (by rw [List.length_append, hl] at hlen; simp only [List.length_cons, List.length_nil] at hlen; omega))⟩
theorem kw_given {kn : Str} (n : Nat) (h : ∀ (us : List Value) (w : Value), us.length = n → bindArgs (kwFn x qual st D doc pm an cdv ct) ⟨us, [(kn, w)]⟩ = pure (ps.zip (us ++ [w]))) : KBn K (kwFn x qual st D doc pm an cdv ct) ps n [kn] (fun us ws => us ++ ws) (fun vs zs => vs ++ zs) where
  to := fun s us ws _ l1 l2 => by
    match ws, l2 with
    | [w], _ => exact .of_eq (h us w l1)
  rel := fun r1 r2 => r1.append r2
end
end
end Wm
set_option Elab.async false
set_option linter.all false
set_option maxRecDepth 100000
set_option maxHeartbeats 4000000
namespace Wm
open PySem PySem.Spec PyProof.Rows L2
open Rep (rep)
open Own (own)
section
variable {X : Cx} {F : Fx} {c : Ctx} {α β δ : Type} {tg e : Expr}
/-! ### a < b < c -/
theorem tX_chain {k1 : Kd F.wd α} {k2 : Kd F.wd β} {k3 : Kd F.wd δ} {r r' : R2} {f : α → β → Rs Bool} {f' : β → δ → Rs Bool} (hr : Sem2 k1 k2 kF r f) (hr' : Sem2 k2 k3 kF r' f') {ma : Ctx.T c → Rs α} {mb : Ctx.T c → Rs β} {mc : Ctx.T c → Rs δ} {σ : L2.St} {H : Hp} {Q : VK}
    (h : tX F kF c (fun γ => (ma γ).bind fun x => (mb γ).bind fun y => (f x y).bind fun b => if b = true then (mc γ).bind fun z => f' y z else .ok false) σ H Q) : tChain r r' (tX F k1 c ma) (tX F k2 c mb) (tX F k3 c mc) σ H Q := by
  obtain ⟨H0, G0, G, os, γ, st, p⟩ := h
  exact ⟨H0, G0, G, os, γ, st, p.step k1 fun x H1 G1 a f1 ra p1 => ⟨H0, G0, G1, os, γ, st.ext f1, p1.step k2 fun y H2 G2 b f2 rb p2 => hr f2.gh (k1.stay ra f2) rb (p2.step kF fun z H3 G3 kk f3 rk p3 => ⟨kk, rk, by
    cases kk with
    | false => exact p3 H3 G3 (.bl false) (Fr.refl f3.gh) rfl
    | true => exact ⟨H0, G0, G3, os, γ, (st.ext f1).ext (f2.trans f3), p3.step k3 fun w H4 G4 cc f4 rc p4 => hr' f4.gh (k2.stay rb (f3.trans f4)) rc p4⟩⟩)⟩⟩
theorem e_chain {op op' : CmpOp} {a b d : Expr} {pos : Pos} {k1 : Kd F.wd α} {k2 : Kd F.wd β} {k3 : Kd F.wd δ} {r r' : R2} {f : α → β → Rs Bool} {f' : β → δ → Rs Bool} {ma : Ctx.T c → Rs α} {mb : Ctx.T c → Rs β} {mc : Ctx.T c → Rs δ} (ho : OpR X (compareOp op) r) (hr : Sem2 k1 k2 kF r f) (ho' : OpR X (compareOp op') r') (hr' : Sem2 k2 k3 kF r' f')
    (ha : PE X a (tX F k1 c ma)) (hb : PE X b (tX F k2 c mb)) (hd : PE X d (tX F k3 c mc)) (hm : lastMarks [op, op'] [b, d] = false := by with_unfolding_all rfl) :
    PE X (.Compare a [op, op'] [b, d] pos) (tX F kF c fun γ => (ma γ).bind fun x => (mb γ).bind fun y => (f x y).bind fun b => if b = true then (mc γ).bind fun z => f' y z else .ok false) :=
  pe_mono (pe_chain ho ho' ha hb hd hm) fun σ H Q h => tX_chain hr hr' h
theorem q_chain {op op' : CmpOp} {a b d : Expr} {pos : Pos} {k1 : Kd F.wd α} {k2 : Kd F.wd β} {k3 : Kd F.wd δ} {r r' : R2} {f : α → β → Rs Bool} {f' : β → δ → Rs Bool} {ma : Ctx.T c → Rs α} {mb : Ctx.T c → Rs β} {mc : Ctx.T c → Rs δ} (ho : OpR X (compareOp op) r) (hr : Sem2 k1 k2 kF r f) (ho' : OpR X (compareOp op') r') (hr' : Sem2 k2 k3 kF r' f')
    (ha : PE X a (tX F k1 c ma)) (hb : PE X b (tX F k2 c mb)) (hd : PE X d (tX F k3 c mc)) (hm : lastMarks [op, op'] [b, d] = false := by with_unfolding_all rfl) :
    PT X (.Compare a [op, op'] [b, d] pos) (tQ F c fun γ => (ma γ).bind fun x => (mb γ).bind fun y => (f x y).bind fun b => if b = true then (mc γ).bind fun z => f' y z else .ok false) :=
  pt_mono (pt_chain ho ho' ha hb hd hm) fun σ H Q h => tX_chain hr hr' h
/-! ### enumerate of a borrowed list -/
theorem wk_enum {K : PySem.W.Frag} {wd : Wd} [Rep α] {p : Addr} {vs : List V} {B G1 : Hp} {xs : List α} (hp : B p = some (.lst vs)) (r : reps wd G1 vs xs) : Wk wd (Ite K p) B G1 (enumI xs) where
  stop := fun i H s hi => ⟨vs, .of (s _ _ hp), by rw [r.len]; rw [enumI_len] at hi; exact hi⟩
  go := fun i H a s ha => by
    obtain ⟨v, hv, _⟩ := r.get (enumI_get.mp ha).2
    exact ⟨vs, v, .of (s _ _ hp), hv⟩
  yld := fun i H G x H' a s g gh ha ⟨T, y, ex, nT, eH, hy⟩ => by
    subst eH
    obtain ⟨a1, a2⟩ := enumI_get.mp ha
    obtain ⟨v, hv, hr⟩ := r.get a2
    obtain rfl : v = y := Option.some.inj (hv.symm.trans (hy vs (.of (s _ _ hp))))
    have gT : G T = none := by
      cases e : G T with
      | none => rfl
      | some o => rw [gh _ _ e] at nT; cases nT
    exact ⟨upd G T _, (Fr.alloc gh nT).freeze nT gT upd_same, T, _, ex, upd_same, .int (i : Nat), v, rfl, by rw [a1]; rfl, Rep.mono (Same.upd' g (g.free gT)) hr⟩
theorem i_enumBo [Rep α] {i : Nat} (v : Var c (.bo i (List α))) {x : Str} {p pos tpos npos : Pos} {elts : List Expr} {kk : Nat} (hK : F.wd.K = X.K) (hg : Gl X "enumerate") (hm : X.mg "enumerate" = none) (hN : X.N[i]? = some x := by rfl) (hv : Vis X.env.scope x := by first | exact Or.inl rfl | exact Or.inr (Or.inl rfl) | exact Or.inr (Or.inr rfl))
    (hd : (x == ("__debug__" : Str)) = false := by decide) (hcd : (x == ("__classdict__" : Str)) = false := by decide) (he : starEach ((Expr.Name x npos) :: []) X.env = (false, eval (.Name x npos) X.env) :: starEach [] X.env := by rfl) (hs : starEach [Expr.Name x npos] X.env = [(false, eval (.Name x npos) X.env)] := by rfl) :
    PI X (.Tuple elts kk tpos) (.Call (.Name "enumerate" p) [.Name x npos] [] pos) (tI F .z c fun γ => .ok (enumI (v.get γ))) :=
  pi_mono (pi_enum hg hm (pa_cons (pe_var hN hv hd hcd) pa_nil he) hs) fun σ H Rr ⟨H0, G0, G, os, γ, st, p⟩ => by
    obtain ⟨q, o, h1, h2, vs, e3, e4, r⟩ := v.bo st.r
    subst e3
    exact ⟨.ref q, h1, q, vs, rfl, .of (st.f.h _ _ h2), p H G _ (Fr.refl st.f.gh) (wk_enum h2 r)⟩
theorem i_enumB [Rep α] {m : Ctx.T c → Rs (List α)} {p pos tpos : Pos} {elts : List Expr} {kk : Nat} (hK : F.wd.K = X.K) (hg : Gl X "enumerate") (hm : X.mg "enumerate" = none) (h : PE X e (tX F kB c m)) (he : starEach (e :: []) X.env = (false, eval e X.env) :: starEach [] X.env := by rfl) (hs : starEach [e] X.env = [(false, eval e X.env)] := by rfl) :
    PI X (.Tuple elts kk tpos) (.Call (.Name "enumerate" p) [e] [] pos) (tI F .h c fun γ => (m γ).bind fun xs => .ok (enumI xs)) :=
  pi_mono (pi_enum hg hm (pa_cons h pa_nil he) hs) fun σ H Rr q => tI_of (k := kB) q (fun v H0 H1 G1 b h0 gh ⟨p, o, e1, e2, vs, e3, e4, r⟩ w => by
    subst e3
    exact ⟨p, vs, by rw [e1], .of e2, w _ (wk_enum e2 r)⟩) fun _ _ z => nomatch z
/-! ### range(a, b, -1) -/
def rngD (hi lo : Int) : List Int := (List.range (hi - lo).toNat).map fun (i : Nat) => hi - (i : Int)
theorem rngD_len (hi lo : Int) : (rngD hi lo).length = (hi - lo).toNat := by unfold rngD; rw [List.length_map, List.length_range]
theorem rngD_get {hi lo : Int} {i : Nat} {a : Int} (h : (rngD hi lo)[i]? = some a) : i < (hi - lo).toNat ∧ a = hi - i := by
  unfold rngD at h
  rw [List.getElem?_map] at h
  obtain ⟨j, h1, h2⟩ := Option.map_eq_some_iff.mp h
  have h3 := List.getElem?_eq_some_iff.mp h1
  obtain ⟨h4, h5⟩ := h3
  rw [List.length_range] at h4
  rw [List.getElem_range] at h5
  subst h5
  exact ⟨h4, h2.symm⟩
def RngD (hi lo : Int) : Rs (List Int) := if -4611686018427387904 ≤ hi ∧ hi ≤ 4611686018427387903 ∧ -4611686018427387904 ≤ lo ∧ lo ≤ 4611686018427387903 then .ok (rngD hi lo) else .no
theorem wk_rngD {wd : Wd} {hi lo : Int} {B G1 : Hp} : Wk wd (Itc hi (-1) (hi - lo).toNat) B G1 (rngD hi lo) where
  stop := fun i H s hi' => by rw [rngD_len] at hi'; exact hi'
  go := fun i H a s ha => (rngD_get ha).1
  yld := fun i H G x H' a s g gh ha ⟨e, y⟩ => by
    subst e
    obtain ⟨h1, h2⟩ := rngD_get ha
    refine ⟨G, Fr.refl gh, ?_⟩
    rw [y]
    show V.int _ = V.int a
    rw [h2]
    congr 1
    omega
theorem i_rngD {fr : Bs} {e2 : Expr} {j : Nat} {m m2 : Ctx.T c → Rs Int} {p pos p3 p4 : Pos} (hg : Gl X "range") (hm : X.mg "range" = none) (h : PE X e (tX F kF c m)) (h2 : PE X e2 (tX F kF c m2)) (he : starEach (e :: e2 :: .UnaryOp .USub (.Constant (.int 1) j p3) p4 :: []) X.env = (false, eval e X.env) :: starEach (e2 :: .UnaryOp .USub (.Constant (.int 1) j p3) p4 :: []) X.env := by rfl)
    (he2 : starEach (e2 :: .UnaryOp .USub (.Constant (.int 1) j p3) p4 :: []) X.env = (false, eval e2 X.env) :: starEach (.UnaryOp .USub (.Constant (.int 1) j p3) p4 :: []) X.env := by rfl) (he3 : starEach ((Expr.UnaryOp .USub (.Constant (.int 1) j p3) p4) :: []) X.env = (false, eval (.UnaryOp .USub (.Constant (.int 1) j p3) p4) X.env) :: starEach [] X.env := by rfl)
    (hpl : (backTo pos (starEach [e2, .UnaryOp .USub (.Constant (.int 1) j p3) p4] X.env)).any (·.1) = false := by rfl) :
    PI X tg (.Call (.Name "range" p) [e, e2, .UnaryOp .USub (.Constant (.int 1) j p3) p4] [] pos) (tI F fr c fun γ => (m γ).bind fun a => (m2 γ).bind fun b => RngD a b) :=
  pi_mono (pi_range3 hg hm (pa_cons h (pa_cons h2 (pa_cons (pe_un un_neg pe_int) pa_nil he3) he2) he) he hpl) fun σ H Rr ⟨H0, G0, G, os, γ, st, p⟩ => ⟨H0, G0, G, os, γ, st, by
    dsimp only at p
    cases e1 : m γ with
    | no => rw [e1] at p; exact p
    | ex x => rw [e1] at p; exact p
    | ok a =>
      rw [e1] at p
      refine fun H1 G1 v f1 r1 => ⟨H0, G0, G1, os, γ, st.ext f1, ?_⟩
      dsimp only [Rs.bind] at p
      cases e2 : m2 γ with
      | no => rw [e2] at p; exact p
      | ex x => rw [e2] at p; exact fun d H2 G2 s z => p d H2 G2 (f1.trans s) z
      | ok b =>
        rw [e2] at p
        intro H2 G2 w f2 r2
        obtain rfl : v = .int a := r1
        obtain rfl : w = .int b := r2
        dsimp only [Rs.bind] at p
        unfold RngD at p
        by_cases hz : -4611686018427387904 ≤ a ∧ a ≤ 4611686018427387903 ∧ -4611686018427387904 ≤ b ∧ b ≤ 4611686018427387903
        · rw [if_pos hz] at p
          exact ⟨1, rfl, a, b, -1, _, rfl, RgC.neg (by omega) (by omega) (by omega) (by omega), p H2 G2 _ (f1.trans f2) wk_rngD⟩
        · rw [if_neg hz] at p
          exact p.elim⟩
end
end Wm
set_option Elab.async false
set_option linter.all false
set_option maxRecDepth 100000
set_option maxHeartbeats 4000000
namespace Wm
open PySem PySem.Spec PyProof.Rows L2
/-! ### plain laws for simp -/
section
variable {α β γ ρ : Type}
theorem ite_okk {c : Prop} [Decidable c] (x y : α) : (if c then Rs.ok x else Rs.ok y) = Rs.ok (if c then x else y) := by split <;> rfl
theorem ite_prod {c : Prop} [Decidable c] (x x' : α) (y y' : β) : (if c then (x, y) else (x', y')) = (if c then x else x', if c then y else y') := by split <;> rfl
theorem comp_okk (p : α → Bool) (g : α → β) (xs : List α) : Rs.comp (fun x => Rs.ok (p x)) (fun x => Rs.ok (g x)) xs = Rs.ok ((xs.filter p).map g) := comp_filter (fun _ _ => rfl) fun _ _ _ => rfl
theorem comp_oki (p : α → Bool) (xs : List α) : Rs.comp (fun x => Rs.ok (p x)) (fun x => Rs.ok x) xs = Rs.ok (xs.filter p) := by rw [comp_okk p (fun x => x), List.map_id']
theorem comp_okt (g : α → β) (xs : List α) : Rs.comp (fun _ => Rs.ok true) (fun x => Rs.ok (g x)) xs = Rs.ok (xs.map g) := Wm.comp_map (fun _ _ => rfl) fun _ _ => rfl
theorem comp_okid (xs : List α) : Rs.comp (fun _ => Rs.ok true) (fun x => Rs.ok x) xs = Rs.ok xs := by rw [comp_okt fun x => x, List.map_id']
theorem filter_tt (xs : List α) : (xs.filter fun _ => true) = xs := List.filter_eq_self.mpr fun _ _ => rfl
/-- a comprehension that is known item by item -/
theorem comp_on {t : α → Rs Bool} {f : α → Rs β} {xs : List α} (p : α → Bool) (g : α → β) (h : ∀ x ∈ xs, t x = .ok (p x) ∧ (p x = true → f x = .ok (g x))) : Rs.comp t f xs = .ok ((xs.filter p).map g) := comp_filter (fun x hx => (h x hx).1) fun x hx => (h x hx).2
theorem Rs.okl (r : Rs α) : r.bind Rs.ok = r := by cases r <;> rfl
theorem bind_assoc' (r : Rs α) (f : α → Rs β) (g : β → Rs γ) : (r.bind f).bind g = r.bind fun a => (f a).bind g := by cases r <;> rfl
theorem nox_ok (a : α) : (Rs.ok a).nox = .ok a := rfl
theorem left_okl (g : γ) (f : γ → Rs ρ) : Rs.left (.ok (.inl g)) f = f g := Eq.trans (Eq.refl _) (Eq.refl _)
theorem left_okr (x : ρ) (f : γ → Rs ρ) : Rs.left (.ok (.inr x)) f = .ok x := Eq.trans (Eq.refl _) (Eq.refl _)
theorem bind_ite {c : Prop} [Decidable c] (x y : Rs α) (f : α → Rs β) : (if c then x else y).bind f = if c then x.bind f else y.bind f := by split <;> rfl
theorem getI_d [Inhabited α] {xs : List α} {k : Int} (h0 : 0 ≤ k) (h1 : k < xs.length) : getI xs k = .ok (xs.getD k.toNat default) := by
  obtain ⟨a, e, h⟩ := getI_ex h0 h1
  rw [h, List.getD_eq_getElem?_getD, e]
  rfl
theorem getI_mem {xs : List α} {k : Int} (h0 : 0 ≤ k) (h1 : k < xs.length) : ∃ a, getI xs k = .ok a ∧ a ∈ xs ∧ xs[k.toNat]? = some a := by
  obtain ⟨a, e, h⟩ := getI_ex h0 h1
  exact ⟨a, h, List.mem_of_getElem? e, e⟩
theorem getI_0 (a : α) (xs : List α) : getI (a :: xs) 0 = .ok a := getI_nat (i := 0) rfl
theorem getI_1 (a b : α) (xs : List α) : getI (a :: b :: xs) 1 = .ok b := getI_nat (i := 1) rfl
theorem setI_in {xs : List α} {k : Int} {a : α} (h0 : 0 ≤ k) (h1 : k < xs.length) : setI xs k a = .ok (xs.set k.toNat a) := by
  obtain ⟨n, rfl⟩ := Int.eq_ofNat_of_zero_le h0
  rw [Int.toNat_natCast]
  exact setI_nat (by omega)
theorem rng_mapn (n : Int) : (rng 0 n).length = n.toNat := by rw [rng_len]; omega
theorem dtrue {p : Prop} [Decidable p] (h : p) : decide p = true := decide_eq_true h
theorem Rs.exc {c : Prop} [Decidable c] {x y : Rs α} {P : α → Prop} (h1 : c → ∃ a, x = .ok a ∧ P a) (h2 : ¬ c → ∃ a, y = .ok a ∧ P a) : ∃ a, (if c then x else y) = .ok a ∧ P a := by
  by_cases h : c
  · rw [if_pos h]; exact h1 h
  · rw [if_neg h]; exact h2 h
theorem least_ex {p : Nat → Prop} (h : ∃ n, p n) : ∃ n, p n ∧ ∀ m, m < n → ¬ p m := by
  obtain ⟨n, hn⟩ := h
  induction n using Nat.strongRecOn with
  | _ n ih =>
    by_cases hx : ∃ m, m < n ∧ p m
    · obtain ⟨m, h1, h2⟩ := hx
      exact ih m h1 h2
    · exact ⟨n, hn, fun m h1 h2 => hx ⟨m, h1, h2⟩⟩
/-- a while that runs through known stands -/
theorem whl_count {t : γ → Rs Bool} {b : γ → Rs γ} (st : Nat → γ) (n : Nat) (ht : ∀ i, i < n → t (st i) = .ok true) (hb : ∀ i, i < n → b (st i) = .ok (st (i + 1))) (he : t (st n) = .ok false) : Rs.whl t b (st 0) = .ok (st n) := by
  have key : ∀ k, k ≤ n → Rs.whl t b (st (n - k)) = .ok (st n) := by
    intro k
    induction k with
    | zero =>
      intro _
      rw [Rs.whl_eq, Nat.sub_zero, he]
      rfl
    | succ k ih =>
      intro hk
      rw [Rs.whl_eq, ht _ (by omega)]
      simp only [Rs.bo, if_true]
      rw [hb _ (by omega), Rs.bo, show n - (k + 1) + 1 = n - k by omega]
      exact ih (by omega)
  have := key n (Nat.le_refl _)
  rwa [Nat.sub_self] at this
/-- a while by its invariant and a measure -/
theorem whl_inv {t : γ → Rs Bool} {b : γ → Rs γ} (I : γ → Prop) (μ : γ → Nat) (h : ∀ g, I g → ∃ c, t g = .ok c ∧ (c = true → ∃ g', b g = .ok g' ∧ I g' ∧ μ g' < μ g)) {g : γ} (h0 : I g) : ∃ g', Rs.whl t b g = .ok g' ∧ I g' ∧ t g' = .ok false := by
  have key : ∀ (n : Nat) (g : γ), μ g = n → I g → ∃ g', Rs.whl t b g = .ok g' ∧ I g' ∧ t g' = .ok false := by
    intro n
    induction n using Nat.strongRecOn with
    | _ n ih =>
      intro g hn hg
      obtain ⟨c, e, hc⟩ := h g hg
      rw [Rs.whl_eq, e]
      simp only [Rs.bo]
      cases c with
      | false => exact ⟨g, rfl, hg, e⟩
      | true =>
        obtain ⟨g', e2, i2, m2⟩ := hc rfl
        simp only [if_true]
        rw [e2, Rs.bo]
        exact ih _ (by omega) g' rfl i2
  exact key _ g rfl h0
theorem foldR_at {f : γ → α → Rs (γ ⊕ ρ)} {g : γ} {r : ρ} : ∀ {xs : List α} (k : Nat) {a : α}, xs[k]? = some a → f g a = .ok (.inr r) → (∀ i b, i < k → xs[i]? = some b → f g b = .ok (.inl g)) → Rs.foldR f g xs = .ok (.inr r)
  | [], k, a, ha, _, _ => by simp at ha
  | x :: xs, 0, a, ha, hk, _ => by
    have e : x = a := Option.some.inj ha
    subst e
    show (f g x).bind _ = _
    rw [hk]
    rfl
  | x :: xs, k + 1, a, ha, hk, hi => by
    show (f g x).bind _ = _
    rw [hi 0 x (by omega) rfl]
    exact foldR_at (xs := xs) k ha hk fun i b h1 h2 => hi (i + 1) b (by omega) h2
/-- all turns go on -/
theorem foldR_all {f : γ → α → Rs (γ ⊕ ρ)} {g : γ} : ∀ {xs : List α}, (∀ x ∈ xs, f g x = .ok (.inl g)) → Rs.foldR f g xs = .ok (.inl g)
  | [], _ => rfl
  | x :: xs, h => by
    show (f g x).bind _ = _
    rw [h x List.mem_cons_self]
    exact foldR_all fun y hy => h y (List.mem_cons_of_mem _ hy)
/-! ### numbers below, caps, reaches -/
def atmost (s : List Int) (x : Int) : Int := ((s.filter fun y => decide (y ≤ x)).length : Int)
theorem below_at (s : List Int) (x : Int) : below s x = atmost s (x - 1) := by
  unfold below atmost
  congr 2
  apply List.filter_congr
  intro z _
  rw [decide_eq_decide]
  omega
theorem below_cons (y : Int) (s : List Int) (x : Int) : below (y :: s) x = (if y < x then 1 else 0) + below s x := by
  unfold below
  rw [List.filter_cons]
  by_cases h : y < x
  · rw [if_pos (by simpa using h), if_pos h, List.length_cons]; omega
  · rw [if_neg (by simpa using h), if_neg h]; omega
theorem below_nn (s : List Int) (x : Int) : 0 ≤ below s x := by unfold below; omega
theorem below_le (s : List Int) (x : Int) : below s x ≤ s.length := by
  unfold below
  have := List.length_filter_le (fun y => decide (y < x)) s
  omega
theorem below_perm {s s' : List Int} (h : s.Perm s') (x : Int) : below s x = below s' x := by
  unfold below
  rw [(h.filter _).length_eq]
theorem atmost_perm {s s' : List Int} (h : s.Perm s') (x : Int) : atmost s x = atmost s' x := by
  unfold atmost
  rw [(h.filter _).length_eq]
theorem below_lt {s : List Int} {x : Int} (h : x ∈ s) : below s x < s.length := by
  induction s with
  | nil => cases h
  | cons y s ih =>
    rw [below_cons, List.length_cons]
    rcases List.mem_cons.mp h with e | e
    · subst e
      have := below_le s x
      rw [if_neg (by omega)]
      omega
    · have := ih e
      split <;> omega
theorem IsFt.perm {s s' : List Int} {t m : Int} (p : s.Perm s') (h : IsFt s t m) : IsFt s' t m := by
  obtain ⟨h1, h2, h3⟩ := h
  refine ⟨?_, by rw [← below_perm p]; exact h2, fun x hx => by rw [← below_perm p]; exact h3 x (p.mem_iff.mpr hx)⟩
  rcases h1 with e | ⟨x, hx, e⟩
  · exact .inl (by rw [← below_perm p]; exact e)
  · exact .inr ⟨x, p.mem_iff.mp hx, by rw [← below_perm p]; exact e⟩
theorem maxI_perm {s s' : List Int} (p : s.Perm s') {m : Int} (h : maxI s = .ok m) : maxI s' = .ok m := by
  obtain ⟨h1, h2⟩ := maxI_spec.mp h
  exact maxI_spec.mpr ⟨p.mem_iff.mp h1, fun x hx => h2 x (p.mem_iff.mpr hx)⟩
theorem perm_sum {xs ys : List Int} (p : xs.Perm ys) : xs.sum = ys.sum := by
  induction p with
  | nil => rfl
  | cons x _ ih => rw [List.sum_cons, List.sum_cons, ih]
  | swap x y l => simp only [List.sum_cons]; omega
  | trans _ _ h1 h2 => exact h1.trans h2
def capE (w x e : Int) : Int := if x < e then 0 else (w + 1) ^ (x - e).toNat
def reachE (w : Int) (L : List Int) (e : Int) : Int := (L.map fun x => capE w x e).sum
theorem pow_pos' {b : Int} (h : 1 ≤ b) : ∀ n : Nat, 1 ≤ b ^ n
  | 0 => by rw [Int.pow_zero]; exact Int.le_refl _
  | n + 1 => by
    rw [Int.pow_succ]
    have := pow_pos' h n
    have h2 : 1 * 1 ≤ b ^ n * b := Int.mul_le_mul this h (by decide) (by omega)
    omega
theorem pow_mono {b : Int} (h : 1 ≤ b) {m n : Nat} (hmn : m ≤ n) : b ^ m ≤ b ^ n := by
  obtain ⟨k, rfl⟩ := Nat.exists_eq_add_of_le hmn
  rw [Int.pow_add]
  have h1 := pow_pos' h m
  have h2 := pow_pos' h k
  have h3 : b ^ m * 1 ≤ b ^ m * b ^ k := Int.mul_le_mul_of_nonneg_left h2 (by omega)
  omega
theorem pow_base {a b : Int} (h0 : 0 ≤ a) (h : a ≤ b) : ∀ n : Nat, a ^ n ≤ b ^ n
  | 0 => by rw [Int.pow_zero, Int.pow_zero]; exact Int.le_refl _
  | n + 1 => by
    rw [Int.pow_succ, Int.pow_succ]
    exact Int.mul_le_mul (pow_base h0 h n) h h0 (Int.pow_nonneg (by omega))
theorem two_pow_gt (n : Nat) : (n : Int) + 1 ≤ 2 ^ n := by
  induction n with
  | zero => decide
  | succ n ih => rw [Int.pow_succ]; omega
theorem capE_nn {w : Int} (hw : 0 ≤ w) (x e : Int) : 0 ≤ capE w x e := by
  unfold capE
  split
  · exact Int.le_refl _
  · exact Int.pow_nonneg (by omega)
theorem sum_nn {L : List Int} {g : Int → Int} (h : ∀ x, 0 ≤ g x) : 0 ≤ (L.map g).sum := by
  induction L with
  | nil => exact Int.le_refl _
  | cons x L ih => rw [List.map_cons, List.sum_cons]; have := h x; omega
theorem sum_mem {L : List Int} {g : Int → Int} (h : ∀ x, 0 ≤ g x) {x : Int} (hx : x ∈ L) : g x ≤ (L.map g).sum := by
  induction L with
  | nil => cases hx
  | cons y L ih =>
    rw [List.map_cons, List.sum_cons]
    rcases List.mem_cons.mp hx with e | e
    · subst e
      have : 0 ≤ (L.map g).sum := sum_nn h
      omega
    · have := ih e
      have := h y
      omega
/-- as many as are not below x0 count q each -/
theorem sum_above {q x0 : Int} {g : Int → Int} : ∀ {L : List Int}, (∀ y ∈ L, 0 ≤ g y ∧ (x0 ≤ y → q ≤ g y)) → q * (L.length - below L x0) ≤ (L.map g).sum
  | [], _ => by simp [below]
  | y :: L, h => by
    have ih := sum_above (q := q) (x0 := x0) (g := g) (L := L) fun z hz => h z (List.mem_cons_of_mem _ hz)
    obtain ⟨h1, h2⟩ := h y List.mem_cons_self
    rw [List.map_cons, List.sum_cons, below_cons, List.length_cons]
    by_cases hy : y < x0
    · rw [if_pos hy, show (((L.length + 1 : Nat) : Int) - (1 + below L x0)) = L.length - below L x0 by omega]
      omega
    · rw [if_neg hy, show (((L.length + 1 : Nat) : Int) - (0 + below L x0)) = (L.length - below L x0) + 1 by omega, Int.mul_add, Int.mul_one]
      have := h2 (by omega)
      omega
/-- the reach at the low end -/
theorem reach_low {w : Int} (hw : 1 ≤ w) {L : List Int} {t m : Int} (ht : t ∈ L) (h : IsFt L t m) : (L.length : Int) ≤ reachE w L m := by
  obtain ⟨x, hx, e⟩ : ∃ x ∈ L, m = x - below L x := by
    rcases h.here with e | e
    · exact ⟨t, ht, e⟩
    · exact e
  have f0 := below_nn L x
  have f1 := below_lt hx
  generalize hf : below L x = f at f0 f1 e
  obtain ⟨k, rfl⟩ := Int.eq_ofNat_of_zero_le f0
  have hs := sum_above (q := 2 ^ k) (x0 := x) (g := fun y => capE w y m) (L := L) fun y _ => ⟨capE_nn (by omega) y m, fun hy => by
    unfold capE
    rw [if_neg (by omega)]
    exact Int.le_trans (pow_mono (b := 2) (by decide) (show k ≤ (y - m).toNat by omega)) (pow_base (by decide) (by omega) _)⟩
  rw [hf] at hs
  have g1 := two_pow_gt k
  generalize hg : (L.length : Int) - (k : Int) = g at hs
  have h2 : g * ((k : Int) + 1) ≤ g * 2 ^ k := Int.mul_le_mul_of_nonneg_left g1 (by omega)
  have h3 : (k : Int) * 1 ≤ (k : Int) * g := Int.mul_le_mul_of_nonneg_left (by omega) (by omega)
  rw [Int.mul_add, Int.mul_one, Int.mul_comm g (k : Int)] at h2
  rw [Int.mul_comm] at hs
  unfold reachE
  omega
theorem reach_cut {n e w : Int} (hw : 0 ≤ w) (hn : 0 ≤ n) (L : List Int) : (((L.filter fun v => decide (e ≤ v)).map fun v => min ((w + 1) ^ (v - e).toNat) n).sum < n) ↔ reachE w L e < n := by
  have key : ∀ L : List Int, 0 ≤ ((L.filter fun v => decide (e ≤ v)).map fun v => min ((w + 1) ^ (v - e).toNat) n).sum ∧ 0 ≤ reachE w L e ∧ ((L.filter fun v => decide (e ≤ v)).map fun v => min ((w + 1) ^ (v - e).toNat) n).sum ≤ reachE w L e ∧
      min n (reachE w L e) ≤ ((L.filter fun v => decide (e ≤ v)).map fun v => min ((w + 1) ^ (v - e).toNat) n).sum := by
    intro L
    induction L with
    | nil => simp [reachE]; omega
    | cons x L ih =>
      obtain ⟨i1, i2, i3, i4⟩ := ih
      have er : reachE w (x :: L) e = capE w x e + reachE w L e := by unfold reachE; rw [List.map_cons, List.sum_cons]
      rw [er]
      by_cases hx : e ≤ x
      · rw [List.filter_cons, if_pos (by simpa using hx), List.map_cons, List.sum_cons]
        have ec : capE w x e = (w + 1) ^ (x - e).toNat := by unfold capE; rw [if_neg (by omega)]
        have : 0 ≤ (w + 1) ^ (x - e).toNat := Int.pow_nonneg (by omega)
        rw [ec]
        omega
      · rw [List.filter_cons, if_neg (by simpa using hx)]
        have ec : capE w x e = 0 := by unfold capE; rw [if_pos (by omega)]
        rw [ec]
        omega
  have := key L
  omega
/-- rows of levels near to 0 -/
structure IsBook (rs : List (Int × Str)) (n : Nat) : Prop where
  ne : 1 ≤ rs.length
  le : rs.length ≤ n
  rec' : ∀ r ∈ rs, IsRec r.2
  lo : ∀ r ∈ rs, -2000 ≤ r.1
  hi : ∀ r ∈ rs, r.1 ≤ 2000
end
end Wm
set_option Elab.async false
set_option linter.all false
set_option maxRecDepth 100000
set_option maxHeartbeats 4000000
namespace Wm
open PySem PySem.Spec PyProof.Rows L2
open Rep (rep)
open Own (own)
/-! ### own exceptions are made -/
/-- the base class, whose __init__ is ValueError's -/
structure BaseX (K : PySem.W.Frag) (W : Addr) : Prop where
  rd : PySem.W.readsIn K W (.type "type") = true
  ga : PySem.W.specialIn K (.ref W) "__getattribute__" = some (some (.builtin "type.__getattribute__"))
  vi : PySem.W.findCls K (.ref W) (.type "type") "__init__" = some (.val (.builtin "ValueError.__init__"))
/-- an own exception class with an __init__ of its own -/
structure OwnX (K : PySem.W.Frag) (C fI : Addr) : Prop where
  oex : OexC K C
  iC : PySem.W.findIn K (.ref C) "__init__" = some (some (.ref fI))
  tI : PySem.W.typeIn K (.ref fI) = some (.type "function")
/-- what may stand in an exception's text -/
def Msg (v : V) : Prop := (∃ i : Int, v = .int i ∧ i.natAbs.log2 < 64) ∨ ∃ y : Str, v = .str y ∧ y.length ≤ 1000
section
variable {X : Cx} {e : Expr} {es : List Expr} {ta : TA} {p1 p2 pos : Pos}
theorem pe_weinit {x : Str} {W : Addr} {pl : Sem Bool} (B : BaseX X.K W) (hg : Gl X x) (hm : X.mg x = some (.ref W)) (ha : PA X (e :: es) ta) (hdb : (x == ("__debug__" : Str)) = false := by decide)
    (hc : eval (.Call (.Attribute (.Name x p1) "__init__" p2) (e :: es) [] pos) X.env = (do let ov ← eval (.Name x p1) X.env; standAt p2.atName; let (f, first) ← holding [ov] (getMethod ov "__init__" pl); callWith pos f first (backTo pos (starEach (e :: es) X.env)) (backToKw pos (keywordEach [] X.env))) := by rfl)
    (he : starEach (e :: es) X.env = (false, eval e X.env) :: starEach es X.env := by rfl) (hpl : (backTo pos (starEach es X.env)).any (·.1) = false := by rfl) :
    PE X (.Call (.Attribute (.Name x p1) "__init__" p2) (e :: es) [] pos) (tVeI X.K ta) := ⟨fun pins s σ H Q I h => by
  refine PySem.W.methodCall_KW (ld_glob I hg hm ?_ hdb) hc
  refine PySem.W.method_cls I.kIn B.ga (PySem.W.cls_value I.kIn B.rd B.vi (by decide +kernel) ?_)
  refine PyProof.Rows.callWith_method1 (thn (ha.run pos pins _ σ H _ (I.tok _) h) fun us s1 ⟨vs, H1, I1, r1, a, C, ws, ev, hl, T, ea, q⟩ => ?_) he hpl
  subst ev
  cases r1 with
  | @cons _ u0 _ ur ra rw' =>
    obtain rfl : u0 = Value.ref a := ra
    exact oinit_ok T I1 ea (by rw [← Paired.length rw', sizeLine_eq]; omega) fun s' J => ⟨.non, H1, J, rfl, q⟩⟩
theorem emp_app (a : Str) : (Str.empty ++ a).length = a.length := by
  rw [Str.len_toList, Str.len_toList]
  have h : (Str.empty ++ a).cps = Str.empty.cps ++ a.cps := rfl
  rw [h, Array.toList_append, List.length_append]
  show 0 + _ = _
  omega
theorem app_len' (a b : Str) : (a ++ b).length = a.length + b.length := by
  rw [Str.len_toList, Str.len_toList, Str.len_toList]
  have h : (a ++ b).cps = a.cps ++ b.cps := rfl
  rw [h, Array.toList_append, List.length_append]
theorem fmt_var {i : Nat} {v : V} {σ : L2.St} {H : Hp} {Q : VK} (hy : σ[i]? = some (some v)) (h : Msg v) (q : ∀ y : Str, y.length ≤ 1000 → Q (.str y) H) : tFmt (tVar i) σ H Q := by
  refine ⟨v, hy, ?_⟩
  rcases h with ⟨i, rfl, hi⟩ | ⟨y, rfl, hl⟩
  · refine .inr ⟨i, rfl, Nat.lt_trans hi (by decide), q _ ?_⟩
    have e := PySem.int_text_length_le (k := 64) (by decide) hi
    show (Str.ofString (toString i)).length ≤ _
    rw [PyProof.Rows.ofString_length, String.length_toList]
    omega
  · exact .inl ⟨y, rfl, by rw [sizeLine_eq]; omega, q y hl⟩
end
/-! ### its __init__ -/
def spE (C : Addr) (f : Str) : Sp := fun vs H Q _ => ∃ (a : Addr) (y : V), vs = [.ref a, y] ∧ H a = some (exo a C none) ∧ Msg y ∧ ∀ dx, H dx = none → dx ≠ a → Q .non (upd (upd H dx (exd dx [(f, y)])) a (exo a C (some dx)))
theorem j3 {a b : Str} (la : a.length ≤ 100) (lb : b.length ≤ 100) : ∀ (σ : L2.St) (H : Hp) (Q : Str → Hp → Prop) (y : V), σ[1]? = some (some y) → Msg y → (∀ out, out.length ≤ 3000 → Q out H) → tJs [tC (.str a), tFmt (tVar 1), tC (.str b)] Str.empty σ H Q := fun σ H Q y hy hm q => by
  refine ⟨a, rfl, by rw [emp_app, sizeLine_eq]; omega, fmt_var hy hm fun z hz => ⟨z, rfl, by rw [app_len', emp_app, sizeLine_eq]; omega, b, rfl, by rw [app_len', app_len', emp_app, sizeLine_eq]; omega, q _ ?_⟩⟩
  rw [app_len', app_len', emp_app]; omega
theorem j2 {a : Str} (la : a.length ≤ 100) : ∀ (σ : L2.St) (H : Hp) (Q : Str → Hp → Prop) (y : V), σ[1]? = some (some y) → Msg y → (∀ out, out.length ≤ 3000 → Q out H) → tJs [tC (.str a), tFmt (tVar 1)] Str.empty σ H Q := fun σ H Q y hy hm q => by
  refine ⟨a, rfl, by rw [emp_app, sizeLine_eq]; omega, fmt_var hy hm fun z hz => ⟨z, rfl, by rw [app_len', emp_app, sizeLine_eq]; omega, q _ ?_⟩⟩
  rw [app_len', emp_app]; omega
theorem ini_ok {P : Program} {w : World} {K : PySem.W.Frag} {mg : Str → Option Value} {base : Heap} {x qual f : Str} {st : Stmt} {fI C : Addr} {fd : FuncData} {ts : List TE} (O : OexC K C) (hno : PySem.W.findIn K (.ref C) f = some none) (F : Fun K x qual st fI fd) (S : FnScope ["self", f] ["self", f] (defScope st))
    (hj : ∀ (σ : L2.St) (H : Hp) (Q : Str → Hp → Prop) (y : V), σ[1]? = some (some y) → Msg y → (∀ out, out.length ≤ 3000 → Q out H) → tJs ts Str.empty σ H Q)
    (body : ∀ (cdv : Value) (A : Around) (outer : List Env) (s : Shared) (H : Hp) (E : XK), PSs (cxOf (L2N.CX P w) P w K mg base ["self", f] qual (defScope st) fI cdv A outer s H E) (defBody st)
      (tSeq (tDrop (tVeI K (tCons (tVar 0) (tCons (fun σ H Q => tJs ts Str.empty σ H fun out H1 => Q (.str out) H1) tNil)))) (tOst K f (tVar 0) (tVar 1)))) : FnOk P w K mg base (L2N.CX P w) 1 fI fd ["self", f] (spE C f) := by
  refine okN F S (fun vs H Q E h => ?_) (fun cdv A outer s H vs Q E hr h => ⟨_, body cdv A outer s H E, ?_⟩)
  · obtain ⟨a, y, rfl, _⟩ := h
    rfl
  · obtain ⟨a, y, rfl, ha, hm, q⟩ := h
    refine ⟨.ref a, rfl, hj _ _ _ y rfl hm fun out ho => ⟨a, C, [.str out], rfl, Nat.le_of_ble_eq_true rfl, O, ha, ?_⟩⟩
    exact ⟨y, rfl, .ref a, rfl, a, C, rfl, O, hno, .inl ⟨ha, fun dx hd hne => q dx hd hne⟩⟩
/-! ### an own exception is made -/
/-- C(e): the class's exception, its context None, its dict {f: e} -/
def tMkE (C : Addr) (f : Str) (te : TE) : L2.St → Hp → XK → Prop := fun σ H Q => te σ H fun y H1 => Msg y ∧ ∀ d, H1 d = none → Q (.ref C) (some d) (upd H1 d (.xd [(f, y)]))
theorem heap_eq {H1 : Hp} {b dx : Addr} {o : Option Addr → HO} {u z : HO} (hb : H1 b = none) : upd (del (upd (upd (upd H1 b (o none)) dx u) b (o (some dx))) b) dx z = upd H1 dx z := by
  funext i
  by_cases h1 : i = dx
  · rw [h1, upd_same, upd_same]
  · rw [upd_ne h1, upd_ne h1]
    by_cases h2 : i = b
    · rw [h2, del_same, hb]
    · rw [del_ne h2, upd_ne h2, upd_ne h1, upd_ne h2]
theorem mk_own {X : Cx} {e : Expr} {te : TE} {x f : Str} {p pos : Pos} {C fI : Addr} {k : Nat} {fd : FuncData} (O : OwnX X.K C fI) (F1 : FnOk X.prog X.w X.K X.mg X.base (L2N.CX X.prog X.w) k fI fd ["self", f] (spE C f)) (hr : Room (k + 1) X.A) (hb : Binds X.K fd ["self", f] []) (hg : Gl X x) (hm : X.mg x = some (.ref C)) (he : PE X e te)
    (hdb : (x == ("__debug__" : Str)) = false := by decide) (hs : starEach (e :: []) X.env = (false, eval e X.env) :: starEach [] X.env := by rfl) (hpl : (backTo pos (starEach [] X.env)).any (·.1) = false := by rfl) : L2N.PMk X (.Call (.Name x p) [e] [] pos) (tMkE C f te) := fun pins s σ H Q I h => by
  obtain ⟨nm, q, N, bs, bm, sn, sub, ab, col, dd, k0, k1, k2, k3, k5, hC, hbm⟩ := O.oex.cls
  have hA : PA X [e] (tCons te tNil) := pa_cons he pa_nil hs
  refine wpAny_Call_Name_kw (ld_glob I hg hm (PySem.W.callWith_K (h₀ := X.base) I.ok.mod.kin O.oex.kC (thn (hA.run pos pins s σ H (fun vs H1 => ∃ y, vs = [y] ∧ Msg y ∧ ∀ d, H1 d = none → Q (.ref C) (some d) (upd H1 d (.xd [(f, y)]))) I ?_) fun us s1 ⟨vs, H1, I1, r1, y, ev, hm1, q1⟩ => ⟨I1.kIn, ?_⟩) hs hpl) hdb)
  · have e0 : (fun y H1 => Msg y ∧ ∀ d, H1 d = none → Q (.ref C) (some d) (upd H1 d (.xd [(f, y)]))) = fun y H1 => ∃ z, [y] = [z] ∧ Msg z ∧ ∀ d, H1 d = none → Q (.ref C) (some d) (upd H1 d (.xd [(f, z)])) := by
      funext y H1
      exact propext ⟨fun w => ⟨y, rfl, w⟩, fun ⟨z, e, w⟩ => by cases e; exact w⟩
    show te σ H fun y H1 => ∃ z, [y] = [z] ∧ Msg z ∧ ∀ d, H1 d = none → Q (.ref C) (some d) (upd H1 d (.xd [(f, z)]))
    rw [← e0]
    exact h
  subst ev
  obtain ⟨u, rfl, ru⟩ := vals1 r1
  obtain ⟨hp, g, dr, tk, os⟩ := s1
  generalize hbq : hp.objs.size + 1 = b
  have nb : H1 b = none := hbq ▸ I1.hok.fresh (Nat.le_succ _)
  have hget : ((hp.push (PySem.W.kdv_tup [u])).push (PySem.HandSPX.excO C hp.objs.size)).get? b = some (PySem.HandSPX.excO C hp.objs.size) := by
    subst hbq; heap_get
  have kk : ∀ z o, hp.get? z = some o → ((hp.push (PySem.W.kdv_tup [u])).push (PySem.HandSPX.excO C hp.objs.size)).get? z = some o := fun z o e => Heap.get?_push_of_some _ (Heap.get?_push_of_some _ e)
  have I2 : Inv X pins σ (upd H1 b (exo b C none)) ⟨(hp.push (PySem.W.kdv_tup [u])).push (PySem.HandSPX.excO C hp.objs.size), g, dr, tk, os⟩ :=
    I1.laid (t' := tk) kk (by show hp.objs.size ≤ b; omega) (exo_ok hget)
  have hsp : spE C f [.ref b, y] (upd H1 b (exo b C none)) (fun v H2 => v = .non ∧ ∃ dx, H2 b = some (exo b C (some dx)) ∧ H2 dx = some (exd dx [(f, y)]) ∧ H1 dx = none ∧ upd (del H2 b) dx (.xd [(f, y)]) = upd H1 dx (.xd [(f, y)])) (fun _ _ _ => False) :=
    ⟨b, y, rfl, upd_same, hm1, fun dx hd hne => ⟨rfl, dx, upd_same, (upd_ne hne).trans upd_same, (upd_ne (H := H1) hne).symm.trans hd, heap_eq (o := exo b C) nb⟩⟩
  refine wpAny_call (PySem.HandSPX.call_own F.excBase_ValueError (fun Y => PySem.HandSPX.refsVE_contains Y bm hbm) (I1.kIn _ _ hC) (PySem.W.looks_findIn I1.kIn O.iC) (fun self => PySem.W.bind_fn I1.kIn self O.tI) (by rw [sizeLine_eq]; exact Nat.le_of_ble_eq_true rfl) ?_)
  rw [hbq]
  have bd := hb ⟨(hp.push (PySem.W.kdv_tup [u])).push (PySem.HandSPX.excO C hp.objs.size), g, dr, tk, os⟩ [.ref b, u] I2.kIn rfl
  refine codeAny_mono (F1.run _ X.stack _ _ ⟨[.ref b, u], []⟩ _ _ _ _ (hr.make C [u] []) (I2.env0.make C [u] []) bd (.cons (show RelV (.ref b) (.ref b) from rfl) (.cons ru .nil)) hsp) fun r s' hq => ?_
  match r, hq with
  | .error er, hq =>
    obtain ⟨_, _, _, _, _, _, _, _, _, _, _, _, z⟩ := hq
    exact z.elim
  | .ok (.ret v), hq =>
    obtain ⟨v1, H2, os2, bare, un, hok, rv, ev, dx, e1, e2, e3, e4⟩ := hq
    subst ev
    obtain ⟨h2, g2, d2, t2, os'⟩ := s'
    obtain ⟨t0, G, J, kG, ge, hoe, na⟩ := mk_end0 (d2 := d2) (t2 := t2) I1 (a := b) (by omega) kk un hok os2 bare e1 e2 e3
    rw [e4] at J na
    exact ⟨rv, b, _, _, ⟨G, g2, d2, t2, os'⟩, _, .ref C, some dx, rfl, J, kG, ge, hoe, ⟨rfl, rfl, fun vs e => by cases e; rfl⟩, rfl, rfl, na, rfl, bare, raises_own O.oex.exC O.oex.tyC, q1 dx e3⟩
  | .ok .next, hq => exact hq.elim
  | .ok .brk, hq => exact hq.elim
  | .ok .cont, hq => exact hq.elim
/-! ### what is raised -/
theorem log2_small {n : Nat} (h : n < 1000000000000) : n.log2 < 64 := by
  by_cases h0 : n = 0
  · subst h0; decide
  · exact (Nat.log2_lt h0).mpr (Nat.lt_trans h (by decide))
class XV (α : Type) [Rep α] where
  pd : α → PD
  fit : α → Bool
  msg : ∀ {wd G v} {a : α}, rep wd G v a → fit a = true → Msg v
  rp : ∀ {wd G v} {a : α}, rep wd G v a → RepPD G v (pd a)
instance : XV Int := ⟨.int, fun i => decide (i.natAbs < 1000000000000), fun {wd G v a} h q => .inl ⟨a, h, log2_small (of_decide_eq_true q)⟩, fun h => h⟩
instance : XV Str := ⟨.str, fun y => decide (y.length ≤ 1000), fun {wd G v a} h q => .inr ⟨a, h.1, of_decide_eq_true q⟩, fun h => h.1⟩
theorem XV.fit_int (i : Int) : XV.fit i = decide (i.natAbs < 1000000000000) := rfl
section
variable {X : Cx} {F : Fx} {c c' : Ctx} {α ρ : Type} {kr : Kd F.wd ρ} {e : Expr} {x f : Str} {p pos pos' : Pos} {fd : FuncData} {fI : Addr} {n : String} {k : Nat}
def Rs.rai {α β : Type} [Rep α] [XV α] (n : String) (f : Str) (r : Rs α) : Rs β := r.bind fun a => if XV.fit a = true then .ex ⟨n, [(f, XV.pd a)]⟩ else .no
theorem raise_sp [Rep α] [XV α] {m : Ctx.T c → Rs α} {σ : L2.St} {H : Hp} {D : Ends} (h : tT F kr c (fun γ => Rs.rai n f (m γ)) D σ H) : tMkE (F.wd.cm n) f (tX F kF c m) σ H fun cls d H' => F.W cls d σ H' := by
  obtain ⟨H0, G0, G, os, γ, st, p⟩ := h
  refine ⟨H0, G0, G, os, γ, st, p.step st kF fun v H1 G1 a f1 r1 p1 => ?_⟩
  by_cases hf : XV.fit a = true
  · rw [if_pos hf] at p1
    refine ⟨XV.msg r1 hf, fun dx hd => ?_⟩
    have gd : G1 dx = none := by
      cases eg : G1 dx with
      | none => rfl
      | some u => have := f1.gh _ _ eg; rw [hd] at this; cases this
    have f2 : Fr H G (upd H1 dx (.xd [(f, v)])) (upd G1 dx (.xd [(f, v)])) := Fr.freeze (f1.trans (Fr.alloc f1.gh hd)) (f1.h.free hd) gd upd_same
    refine p1 (some dx) σ _ _ st.len (st.f.trans f2) ?_
    show RepX _ _ ⟨n, [(f, XV.pd a)]⟩
    unfold RepX
    rw [if_neg (by simp)]
    refine ⟨dx, [(f, v)], rfl, upd_same, rfl, fun g pv hg => ?_⟩
    rw [List.lookup_cons] at hg ⊢
    by_cases hgf : (g == f) = true
    · rw [hgf] at hg ⊢
      cases hg
      exact ⟨v, rfl, XV.rp (Rep.mono (Same.upd' (Same.refl _) gd) r1)⟩
    · rw [Bool.not_eq_true] at hgf
      rw [hgf] at hg
      cases hg
  · rw [if_neg hf] at p1
    exact p1.elim
/-- raise C(e), C an own exception with an __init__ of its own -/
theorem t_raise [Rep α] [XV α] {C : Addr} {m : Ctx.T c → Rs α} (n : String) (hcm : F.wd.cm n = C) (O : OwnX X.K C fI) (F1 : FnOk X.prog X.w X.K X.mg X.base (L2N.CX X.prog X.w) k fI fd ["self", f] (spE C f)) (hb : Binds X.K fd ["self", f] []) (tk : L2N.Takes X F.W) (hr : Room (k + 1) X.A) (hm : X.mg x = some (.ref C)) (he : PE X e (tX F kF c m))
    (hc : X.calm = true := by rfl) (hg : Gl X x := by rfl) (hdb : (x == ("__debug__" : Str)) = false := by decide) (hs : starEach (e :: []) X.env = (false, eval e X.env) :: starEach [] X.env := by rfl) (hpl : (backTo pos (starEach [] X.env)).any (·.1) = false := by rfl) :
    PSs X [.Raise (some (.Call (.Name x p) [e] [] pos)) none pos'] (tT F kr c fun γ => Rs.rai n f (m γ)) := by
  subst hcm
  exact pss_mono (pss_one (L2N.ps_raise hc tk (mk_own O F1 hr hb hg hm he hdb hs hpl))) fun D σ H h => raise_sp (kr := kr) h
end
end Wm
set_option Elab.async false
set_option linter.all false
set_option maxRecDepth 100000
set_option maxHeartbeats 4000000
namespace Wm
open PySem PySem.Spec PyProof.Rows L2
open Rep (rep)
open Own (own)
/-! ### what an exception's fields keep -/
mutual
theorem RepPD.mono {G G' : Hp} (s : Same G G') : ∀ {v : V} {x : PD}, RepPD G v x → RepPD G' v x
  | _, .non, h => h
  | _, .bl _, h => h
  | _, .int _, h => h
  | _, .str _, h => h
  | _, .tup xs, ⟨p, vs, e, h, g⟩ => ⟨p, vs, e, s _ _ h, RepPD.mono_go s g⟩
theorem RepPD.mono_go {G G' : Hp} (s : Same G G') : ∀ {vs : List V} {xs : List PD}, RepPD.go G vs xs → RepPD.go G' vs xs
  | [], [], h => h
  | _ :: _, _ :: _, ⟨h, t⟩ => ⟨RepPD.mono s h, RepPD.mono_go s t⟩
  | [], _ :: _, h => h
  | _ :: _, [], h => h
end
theorem RepX.mono {G G' : Hp} (s : Same G G') {d : Option Addr} {x : Exc} (h : RepX G d x) : RepX G' d x := by
  unfold RepX at h ⊢
  split
  · rename_i hf
    rw [if_pos hf] at h
    exact h
  · rename_i hf
    rw [if_neg hf] at h
    obtain ⟨a, fs, e, h1, h2, h3⟩ := h
    exact ⟨a, fs, e, s _ _ h1, h2, fun f v hv => by
      obtain ⟨u, e1, e2⟩ := h3 f v hv
      exact ⟨u, e1, RepPD.mono s e2⟩⟩
/-- the caught exception: at a, its dict d -/
@[reducible] def repEx (a : Addr) (d : Option Addr) : Rep Exc where
  rep := fun _ G v x => v = .ref a ∧ RepX G d x
  mono := fun s ⟨e, h⟩ => ⟨e, RepX.mono s h⟩
/-- .. as the mirrors name it -/
instance : Rep Exc := repEx 0 none
/-! ### the slots that a try may set -/
def Sl.hold (n : Sl) (vs : List Nat) (σ0 : L2.St) : Sl where
  n := n.n
  ok := fun j => n.ok j ∧ j ∈ vs
  keep := fun σ => n.keep σ ∧ ∀ j, j ∉ vs → σ[j]? = σ0[j]?
  put := fun σ j x hj h => ⟨n.put σ j x hj.1 h.1, fun i hi => by
    rw [List.getElem?_set_ne (fun e => hi (by rw [← e]; exact hj.2))]
    exact h.2 i hi⟩
theorem Sl.hold_P {n : Sl} {vs : List Nat} {σ0 σ : L2.St} (h : (n.hold vs σ0).P σ) : n.P σ := ⟨h.1, h.2.1⟩
/-- only frozen or borrowed names, none of vs -/
def Ctx.still (vs : List Nat) : Ctx → Bool
  | [] => true
  | @Ent.fz i _ _ :: c => !vs.contains i && Ctx.still vs c
  | @Ent.bo i _ _ :: c => !vs.contains i && Ctx.still vs c
  | _ => false
theorem R.still {wd : Wd} {H0 H G H' G' : Hp} {σ σ' : L2.St} {vs : List Nat} (g : Same G G') (k : ∀ j, j ∉ vs → σ'[j]? = σ[j]?) : ∀ {c : Ctx} {γ : Ctx.T c} {os : List Addr}, Ctx.still vs c = true → R wd H0 σ H G c γ os → R wd H0 σ' H' G' c γ []
  | [], _, _, _, _ => rfl
  | @Ent.fz i α _ :: c, γ, os, hs, h => by
    obtain ⟨h1, h2⟩ := Bool.and_eq_true_iff.mp hs
    obtain ⟨⟨v, e, r⟩, t⟩ := h
    exact ⟨⟨v, (k i (fun z => by rw [List.contains_iff_mem.mpr z] at h1; cases h1)).trans e, Rep.mono g r⟩, R.still g k h2 t⟩
  | @Ent.bo i α _ :: c, γ, os, hs, h => by
    obtain ⟨h1, h2⟩ := Bool.and_eq_true_iff.mp hs
    obtain ⟨⟨p, o, e, e2, r⟩, t⟩ := h
    exact ⟨⟨p, o, (k i (fun z => by rw [List.contains_iff_mem.mpr z] at h1; cases h1)).trans e, e2, Own.mono g r⟩, R.still g k h2 t⟩
  | @Ent.ow i α _ :: c, γ, os, hs, h => nomatch hs
  | @Ent.oo i α _ :: c, γ, os, hs, h => nomatch hs
  | @Ent.sf i α _ x :: c, γ, os, hs, h => nomatch hs
/-! ### try -/
abbrev Fx.cut (F : Fx) : Fx := { F with W := fun _ _ _ _ => False }

/-- a body, and what is done with an exception of the class n; the classes of oth pass -/
def Rs.try {α : Type} (n : String) (oth : List String) (r : Rs α) (h : Exc → Rs α) : Rs α := match r with
  | .ex x => if x.cls = n then h x else if x.cls ∈ oth then .ex x else .no
  | .ok a => .ok a
  | .no => .no
section
variable {X : Cx} {F : Fx} {ρ : Type} {kr : Kd F.wd ρ} {c c1 c2 c' : Ctx} {x en : Str} {C : Addr} {i : Nat} {body suite : List Stmt} {b₀ : Stmt} {np pos pos' : Pos} {n : String} {oth : List String} {vs : List Nat}
theorem PostG.gone {H0 G0 : Hp} {D : Ends} {r : Rs (Ctx.T c1 ⊕ ρ)} (hi : F.n.lt i) (hn : Ctx.not i c1 = true) (h : PostG F kr H0 G0 c1 D r) :
    PostG F kr H0 G0 c1 { nx := fun σ' H' => D.nx (σ'.set i none) H', rt := D.rt, bk := fun σ' H' => D.bk (σ'.set i none) H', ct := fun σ' H' => D.ct (σ'.set i none) H' } r := by
  match r, h with
  | .no, h => exact h
  | .ex x, h => exact h
  | .ok (.inr z), h => exact h
  | .ok (.inl γ), h => exact fun σ H G os st => h _ _ _ _ ⟨st.len.set hi, st.f, st.nd, st.fr, st.r.set hn⟩
/-- the body's reading, from the whole's -/
theorem try_body {W' : WX} {σ : L2.St} {H H0 G0 G : Hp} {D : Ends} {os : List Addr} {γ : Ctx.T c} {r : Rs (Ctx.T c1 ⊕ ρ)} {h : Exc → Rs (Ctx.T c1 ⊕ ρ)} (st : Stt F.wd F.n H0 G0 σ H G os c γ) (p : PostG F kr H0 G0 c1 D (Rs.try n oth r h))
    (hyes : ∀ (x : Exc) d σ' H' G', x.cls = n → F.n.P σ' → (∀ j, j ∉ vs → σ'[j]? = σ[j]?) → Fr H0 G H' G' → RepX G' d x → PostG F kr H0 G0 c1 D (h x) → W' (.ref (F.wd.cm x.cls)) d σ' H')
    (hno : ∀ (x : Exc) d σ' H', x.cls ∈ oth → F.W (.ref (F.wd.cm x.cls)) d σ' H' → W' (.ref (F.wd.cm x.cls)) d σ' H') :
    PostG ⟨F.wd, F.n.hold vs σ, W'⟩ kr H0 G c1 D r := by
  match r, p with
  | .ok (.inl z), p => exact fun σ1 H1 G1 os1 s1 => p σ1 H1 G1 os1 ⟨Sl.hold_P s1.len, st.f.base s1.f, s1.nd, s1.fr, s1.r⟩
  | .ok (.inr z), p => exact fun H1 G1 v f1 k1 => p H1 G1 v (st.f.base f1) k1
  | .no, p => exact p
  | .ex y, p =>
    intro d σ1 H1 G1 l1 f1 r1
    unfold Rs.try at p
    dsimp only at p
    by_cases h1 : y.cls = n
    · rw [if_pos h1] at p
      exact hyes y d σ1 H1 G1 h1 (Sl.hold_P l1) l1.2.2 f1 r1 p
    · rw [if_neg h1] at p
      by_cases h2 : y.cls ∈ oth
      · rw [if_pos h2] at p
        exact hno y d σ1 H1 h2 (p d σ1 H1 G1 (Sl.hold_P l1) (st.f.base f1) r1)
      · rw [if_neg h2] at p
        exact p.elim
theorem nox_post {H0 G0 : Hp} {D : Ends} {r : Rs (Ctx.T c1 ⊕ ρ)} (h : PostG F kr H0 G0 c1 D r.nox) : PostG F.cut kr H0 G0 c1 D r := by
  match r, h with
  | .no, h => exact h
  | .ex x, h => exact h.elim
  | .ok (.inr z), h => exact h
  | .ok (.inl γ), h => exact h
/-- try: body, except C as e: suite -/
theorem g_tryA {mb : Ctx.T c → Rs (Ctx.T c1 ⊕ ρ)} {mh : Exc × Ctx.T c2 → Rs (Ctx.T c1 ⊕ ρ)} (vs : List Nat) (s : Sub c c2) (hcm : F.wd.cm n = C) (hN : X.N.Nodup) (hi : X.N[i]? = some en) (hln : X.env.kindOf en = some .local) (hm : X.mg x = some (.ref C)) (tk : L2N.Takes X F.W)
    (hil : F.n.lt i) (h1 : Ctx.not i c1 = true) (h2 : Ctx.not i c2 = true) (hst : Ctx.still vs c2 = true)
    (xy : PySem.W.exmOne X.K (.ref C) (.ref C) = some true) (xn : ∀ o ∈ oth, PySem.W.exmOne X.K (.ref (F.wd.cm o)) (.ref C) = some false)
    (hb : ∀ (W : WX) (pn : List (Addr × Obj)) (xe : Value → Shared → Prop) (σ0 : L2.St), L2N.Takes (X.tr pn xe) W → PassesOwn (model X.prog X.w) X.A X.env xe → PSs (X.tr pn xe) body (tG ⟨F.wd, F.n.hold vs σ0, W⟩ kr c c1 mb))
    (hsu : ∀ (a : Addr) (oe : Obj) (d : Option Addr) (pn : List (Addr × Obj)), L2N.Zn (.ref C) d oe → (∃ vs, oe.data = .fields vs) → L2H.HotC (X.suite a ((a, oe) :: pn)) → PSs (X.suite a ((a, oe) :: pn)) (b₀ :: suite) (tG F.cut kr (@Ent.fz i Exc (repEx a d) :: c2) c1 mh))
    (hs : X.stack = X.env :: X.outer := by rfl) (hf : X.env.frame = some X.env.locals := by rfl) (hg : Gl X x := by rfl) (hdb : (x == ("__debug__" : Str)) = false := by decide) :
    PS X (.Try body [.ExceptHandler (some (.Name x np)) (some en) (b₀ :: suite) pos'] [] [] pos) (tG F kr c c1 fun γ => Rs.try n oth (mb γ) fun x => (mh (x, s.proj γ)).nox) := by
  refine ps_mono (L2N.ps_try_as (c := .ref C) (tb := fun W D σ H => tG ⟨F.wd, F.n.hold vs σ, W⟩ kr c c1 mb D σ H) (ts := fun a cls d D σ H => cls = .ref C ∧ tG F.cut kr (@Ent.fz i Exc (repEx a d) :: c2) c1 mh D σ H) hs hf hN hi hln ⟨hg, hdb, .inl hm⟩ tk
    (fun W pn xe tw pw => ⟨fun pins s σ H D I q => (hb W pn xe σ tw pw).run pins s σ H D I q⟩)
    (fun a oe cls d pn hz hd => ⟨fun pins s σ H D I ⟨e, q⟩ => by
      subst e
      obtain ⟨vs, hv⟩ := id hd
      exact (hsu a oe d pn hz hd ⟨(a, oe), ⟨rfl, vs, hv, hz.2.2 vs hv⟩, List.mem_cons_self⟩).run pins s σ H D I q⟩)) fun D σ H ⟨H0, G0, G, os, γ, st, p⟩ => ?_
  refine ⟨H0, G, G, os, γ, ⟨⟨st.len.1, st.len.2, fun _ _ => rfl⟩, st.rebase.f, st.nd, st.fr, st.r⟩, try_body st p (fun y d σ1 H1 G1 e1 l1 k1 f1 r1 p1 => ?_) fun y d σ1 H1 e1 w1 => ⟨false, xn _ e1, fun z => Bool.noConfusion z, fun _ => w1⟩⟩
  refine ⟨true, by rw [e1, hcm]; exact xy, fun _ a ha => ⟨by rw [e1, hcm], H0, G0, G1, [], (y, s.proj γ), ?_, PostG.gone (F := F.cut) hil h1 (nox_post p1)⟩, fun z => Bool.noConfusion z⟩
  obtain ⟨os2, _, q2⟩ := st.sub s
  have q3 : Stt F.wd F.n H0 G0 σ1 H1 G1 [] c2 (s.proj γ) := ⟨l1, st.f.base f1, List.nodup_nil, fun _ z => (by cases z), R.still f1.g k1 hst q2.r⟩
  exact @R.push _ F.wd H0 G0 H1 G1 σ1 F.n Exc (repEx a d) i (.ref a) y [] (s.proj γ) q3 hil h2 ⟨rfl, r1⟩
/-- try: body, except C: suite -/
theorem g_tryO {mb : Ctx.T c → Rs (Ctx.T c1 ⊕ ρ)} {mh : Ctx.T c2 → Rs (Ctx.T c1 ⊕ ρ)} (vs : List Nat) (s : Sub c c2) (hcm : F.wd.cm n = C) (hm : X.mg x = some (.ref C)) (tk : L2N.Takes X F.W) (hst : Ctx.still vs c2 = true)
    (xy : PySem.W.exmOne X.K (.ref C) (.ref C) = some true) (xn : ∀ o ∈ oth, PySem.W.exmOne X.K (.ref (F.wd.cm o)) (.ref C) = some false)
    (hb : ∀ (W : WX) (pn : List (Addr × Obj)) (xe : Value → Shared → Prop) (σ0 : L2.St), L2N.Takes (X.tr pn xe) W → PassesOwn (model X.prog X.w) X.A X.env xe → PSs (X.tr pn xe) body (tG ⟨F.wd, F.n.hold vs σ0, W⟩ kr c c1 mb))
    (hsu : ∀ (a : Addr) (oe : Obj) (d : Option Addr) (pn : List (Addr × Obj)), L2N.Zn (.ref C) d oe → (∃ vs, oe.data = .fields vs) → L2H.HotC (X.suite a ((a, oe) :: pn)) → PSs (X.suite a ((a, oe) :: pn)) (b₀ :: suite) (tG F.cut kr c2 c1 mh))
    (hs : X.stack = X.env :: X.outer := by rfl) (hf : X.env.frame = some X.env.locals := by rfl) (hg : Gl X x := by rfl) (hdb : (x == ("__debug__" : Str)) = false := by decide) :
    PS X (.Try body [.ExceptHandler (some (.Name x np)) none (b₀ :: suite) pos'] [] [] pos) (tG F kr c c1 fun γ => Rs.try n oth (mb γ) fun _ => (mh (s.proj γ)).nox) := by
  refine ps_mono (L2N.ps_try_many (Wout := F.W) (l := [(.ref C, fun a cls d D σ H => cls = .ref C ∧ tG F.cut kr c2 c1 mh D σ H)]) (tb := fun W D σ H => tG ⟨F.wd, F.n.hold vs σ, W⟩ kr c c1 mb D σ H) hs hf tk
    (fun W pn xe tw pw => ⟨fun pins s σ H D I q => (hb W pn xe σ tw pw).run pins s σ H D I q⟩)
    (.cons ⟨hg, hdb, .inl hm⟩ (fun a oe cls d pn hz hd => ⟨fun pins s σ H D I ⟨e, q⟩ => by
      subst e
      obtain ⟨vs, hv⟩ := id hd
      exact (hsu a oe d pn hz hd ⟨(a, oe), ⟨rfl, vs, hv, hz.2.2 vs hv⟩, List.mem_cons_self⟩).run pins s σ H D I q⟩) .nil)) fun D σ H ⟨H0, G0, G, os, γ, st, p⟩ => ?_
  refine ⟨H0, G, G, os, γ, ⟨⟨st.len.1, st.len.2, fun _ _ => rfl⟩, st.rebase.f, st.nd, st.fr, st.r⟩, try_body st p (fun y d σ1 H1 G1 e1 l1 k1 f1 r1 p1 => ?_) fun y d σ1 H1 e1 w1 => ⟨false, xn _ e1, fun z => Bool.noConfusion z, fun _ => w1⟩⟩
  refine ⟨true, by rw [e1, hcm]; exact xy, fun _ a ha => ⟨by rw [e1, hcm], H0, G0, G1, [], s.proj γ, ?_, nox_post p1⟩, fun z => Bool.noConfusion z⟩
  obtain ⟨os2, _, q2⟩ := st.sub s
  exact ⟨l1, st.f.base f1, List.nodup_nil, fun _ z => (by cases z), R.still f1.g k1 hst q2.r⟩
/-- a statement that always returns; one that never does -/
def Rs.ret {γ ρ : Type} (r : Rs (γ ⊕ ρ)) : Rs ρ := r.bind fun z => match z with | .inl _ => .no | .inr x => .ok x
def Rs.fall {γ ρ : Type} (r : Rs (γ ⊕ ρ)) : Rs γ := r.bind fun z => match z with | .inl g => .ok g | .inr _ => .no
theorem b_gt {st : Stmt} {m : Ctx.T c → Rs (Ctx.T c' ⊕ ρ)} (h : PS X st (tG F kr c c' m)) : PSs X [st] (tT F kr c fun γ => Rs.ret (m γ)) :=
  pss_mono (pss_one h) fun D σ H ⟨H0, G0, G, os, γ, st, p⟩ => ⟨H0, G0, G, os, γ, st, by
    unfold Rs.ret at p
    dsimp only at p
    cases e : m γ with
    | no => rw [e] at p; exact p
    | ex x => rw [e] at p; exact p
    | ok z =>
      rw [e] at p
      cases z with
      | inl g => exact p.elim
      | inr x => exact p⟩
theorem s_gs {st : Stmt} {m : Ctx.T c → Rs (Ctx.T c' ⊕ ρ)} (h : PS X st (tG F kr c c' m)) : PS X st (tS F c c' fun γ => Rs.fall (m γ)) :=
  ps_mono h fun D σ H ⟨H0, G0, G, os, γ, st, p⟩ => ⟨H0, G0, G, os, γ, st, by
    unfold Rs.fall at p
    dsimp only at p
    cases e : m γ with
    | no => rw [e] at p; exact p
    | ex x => rw [e] at p; exact p
    | ok z =>
      rw [e] at p
      cases z with
      | inl g => exact p
      | inr x => exact p.elim⟩
end
/-! ### in the suite -/
structure CatC (K : PySem.W.Frag) (C : Addr) : Prop where
  xf : XfC K C
  ha : PySem.W.findIn K (.ref C) "__class__" = some (some (.builtin "object.__class__"))
  hn : PySem.W.specialIn K (.builtin "object.__class__") "__get__" = some (some (.builtin "getset_descriptor.__get__"))
  ht : PySem.W.takesIn K (.builtin "object.__class__") = some true
  hm : PySem.W.mroIn K C (.type "object") = some true
structure ClsX (K : PySem.W.Frag) (C : Addr) : Prop where
  hd : PySem.W.hasDictIn K C = true
  ex : PySem.W.subIn K (.ref C) (.type "BaseException") = some true
  ty : PySem.W.typeIn K (.ref C) = some (.type "type")
  sf : PySem.W.subIn K (.ref C) (.ref C) = some true
theorem ClsX.exm {K : PySem.W.Frag} {C D : Addr} {b : Bool} (h : ClsX K C) (s : PySem.W.subIn K (.ref D) (.ref C) = some b) : PySem.W.exmOne K (.ref D) (.ref C) = some b := PySem.W.exm_ref h.ex h.hd h.ty s
theorem ClsX.kit {K : PySem.W.Frag} {C D : Addr} {b : Bool} (h : ClsX K C) (s : PySem.W.subIn K (.ref D) (.ref C) = some b) : PySem.W.kitOne K (.ref D) (.ref C) = some b := by
  obtain ⟨cd, hc, _⟩ := PySem.W.any_some h.hd
  unfold PySem.W.kitOne
  split
  · rename_i e
    have e2 : D = C := Value.ref.inj (beq_iff_eq.mp e)
    subst e2
    rw [h.sf] at s
    exact s
  · show (if ((PySem.W.clsIn K C).isSome && PySem.W.typeIn K (.ref C) == some (.type "type")) = true then PySem.W.subIn K (.ref D) (.ref C) else none) = some b
    rw [if_pos (by rw [hc, h.ty]; rfl)]
    exact s
theorem kit_VE {K : PySem.W.Frag} {D : Addr} (s : PySem.W.subIn K (.ref D) (.type "ValueError") = some true) : PySem.W.kitOne K (.ref D) (.type "ValueError") = some true := by
  unfold PySem.W.kitOne
  split
  · rfl
  · show (if PySem.W.kitMeta "ValueError" = true then PySem.W.subIn K (.ref D) (.type "ValueError") else none) = _
    rw [if_pos (by decide +kernel)]
    exact s
section
variable {X : Cx} {F : Fx} {α ρ : Type} {kr : Kd F.wd ρ} {c : Ctx} {x y f : Str} {C a : Addr} {oe : Obj} {d : Option Addr} {pn : List (Addr × Obj)} {i : Nat} {p p2 p3 pos : Pos}
theorem inst_of {P : Program} {w : World} {H : Hp} {h : Heap} (hok : HOk P w H h) (hg : h.get? a = some oe) (hz : Zc (.ref C) d oe) (hf : ∃ vs, oe.data = .fields vs) (hd : d = none ∨ ∃ dd fs, d = some dd ∧ H dd = some (.xd fs)) : ∃ od, PySem.W.InstAt h a oe C od := by
  obtain ⟨vs, hv⟩ := hf
  have nc : PySem.W.notCls oe = true := by unfold PySem.W.notCls; rw [hv] <;> rfl
  rcases hd with e | ⟨dd, fs, e, hx⟩
  · subst e
    exact ⟨none, hg, hz.1, nc, by rw [hz.2] <;> trivial⟩
  · subst e
    have hx2 : ObjOk P w H h dd (.xd fs) := hok dd _ hx
    obtain ⟨mA, hns, _⟩ := hx2
    obtain ⟨od, ho, _⟩ := lookIn_ns hns
    exact ⟨some od, hg, hz.1, nc, by rw [hz.2]; exact ho⟩
def rIsX (K : PySem.W.Frag) (C a : Addr) (d : Option Addr) : List V → Hp → VK → Prop := fun xs H Q => ∃ (c : V) (cv : Value) (b : Bool), xs = [.ref a, c] ∧ (∀ u, RelV c u → u = cv) ∧ (d = none ∨ ∃ dd fs, d = some dd ∧ H dd = some (.xd fs)) ∧ PySem.W.kitOne K (.ref C) cv = some b ∧ Q (.bl b) H
theorem call_isX (T : CatC X.K C) (hz : Zc (.ref C) d oe) (hf : ∃ vs, oe.data = .fields vs) : CallR (X.suite a ((a, oe) :: pn)) (.builtin "isinstance") (rIsX X.K C a d) := by
  intro pins s σ H xs us Q I r h
  obtain ⟨c, cv, b, rfl, hcv, hd, e, q⟩ := h
  obtain ⟨u1, u2, rfl, r1, r2⟩ := vals2 r
  obtain rfl : u1 = Value.ref a := r1
  have ec := hcv _ r2
  subst ec
  obtain ⟨hget, _⟩ := I.pin (a, oe) (List.mem_append.mpr (.inl List.mem_cons_self))
  obtain ⟨od, J⟩ := inst_of I.hok hget hz hf hd
  obtain ⟨cd, hcd, _⟩ := PySem.W.any_some T.xf.hdC
  exact PySem.W.kia_one (PySem.W.kitx_exc (by rw [hcd]; rfl) T.xf.ga T.xf.gg T.xf.exC T.ha T.hn T.ht T.hm) I.kIn J e (fun z => nomatch z) fun tk => ⟨.bl b, H, I.kept (t' := tk) fun _ _ z => z, rfl, q⟩
/-- isinstance(e, Y), the answer known -/
theorem e_isE {b : Bool} {cv : V} {u : Value} (T : CatC X.K C) (hz : L2N.Zn (.ref C) d oe) (hf : ∃ vs, oe.data = .fields vs) (v : Var c (@Ent.fz i Exc (repEx a d))) (hN : X.N[i]? = some x) (hc : PE (X.suite a ((a, oe) :: pn)) (.Name y p2) (tC cv)) (hcv : ∀ u', RelV cv u' → u' = u) (hk : PySem.W.kitOne X.K (.ref C) u = some b) (hm : X.mg "isinstance" = none)
    (hv : Vis X.env.scope x := by first | exact Or.inl rfl | exact Or.inr (Or.inl rfl) | exact Or.inr (Or.inr rfl)) (hd : (x == ("__debug__" : Str)) = false := by decide) (hcd : (x == ("__classdict__" : Str)) = false := by decide) (hg : Gl X "isinstance" := by rfl)
    (he : starEach (.Name x p3 :: .Name y p2 :: []) X.env = (false, eval (.Name x p3) X.env) :: starEach (.Name y p2 :: []) X.env := by rfl) (he2 : starEach (.Name y p2 :: []) X.env = (false, eval (.Name y p2) X.env) :: starEach [] X.env := by rfl) (hpl : (backTo pos (starEach (.Name y p2 :: []) X.env)).any (·.1) = false := by rfl) :
    PE (X.suite a ((a, oe) :: pn)) (.Call (.Name "isinstance" p) [.Name x p3, .Name y p2] [] pos) (tX F kF c fun γ => Rs.ok b) :=
  pe_mono (pe_callB (X := X.suite a ((a, oe) :: pn)) (call_isX T hz.zc hf) hg hm (by decide +kernel) (pa_cons (pe_var (X := X.suite a ((a, oe) :: pn)) hN hv hd hcd) (pa_cons hc pa_nil he2) he) (by decide) (by decide) he hpl) fun σ H Q ⟨H0, G0, G, os, γ, st, p⟩ => by
    obtain ⟨v1, e1, e2, r1⟩ := @Var.fz _ _ _ _ _ i Exc (repEx a d) _ v _ _ st.r
    subst e2
    refine ⟨_, e1, cv, u, b, rfl, hcv, ?_, hk, p H G (.bl b) (Fr.refl st.f.gh) rfl⟩
    unfold RepX at r1
    split at r1
    · exact .inl r1
    · obtain ⟨dd, fs, g1, g2, _⟩ := r1
      exact .inr ⟨dd, fs, g1, st.f.gh _ _ g2⟩
/-- what a field holds -/
class FV (α : Type) [Rep α] where
  get : PD → Rs α
  rp : ∀ {wd G v x} {y : α}, get x = .ok y → RepPD G v x → rep wd G v y
  ex : ∀ {x e}, get x ≠ .ex e
instance : FV Int := ⟨fun x => match x with | .int i => .ok i | _ => .no, fun {wd G v x y} h r => by
  cases x with
  | int i => cases h; exact r
  | _ => (cases h), fun {x e} h => by cases x <;> cases h⟩
open Classical in
noncomputable instance : FV Str := ⟨fun x => match x with | .str s => if SOk s then .ok s else .no | _ => .no, fun {wd G v x y} h r => by
  cases x with
  | str s =>
    dsimp only at h
    split at h
    · rename_i hs; cases h; exact ⟨r, hs⟩
    · cases h
  | _ => (cases h), fun {x e} h => by
  cases x with
  | str s =>
    dsimp only at h
    split at h <;> cases h
  | _ => cases h⟩
def Exc.at {α : Type} [Rep α] [FV α] (x : Exc) (f : Str) : Rs α := match x.fld with
  | [] => .no
  | y :: ys => match List.lookup f (y :: ys) with
    | some z => FV.get z
    | none => .no
/-- e.f -/
theorem e_fldE [Rep α] [FV α] (T : CatC X.K C) (hz : L2N.Zn (.ref C) d oe) (hf : ∃ vs, oe.data = .fields vs) (v : Var c (@Ent.fz i Exc (repEx a d))) (hno : PySem.W.findIn X.K (.ref C) f = some none) (hN : X.N[i]? = some x)
    (hv : Vis X.env.scope x := by first | exact Or.inl rfl | exact Or.inr (Or.inl rfl) | exact Or.inr (Or.inr rfl)) (hd : (x == ("__debug__" : Str)) = false := by decide) (hcd : (x == ("__classdict__" : Str)) = false := by decide) (hb : attributeBase (.Name x p3) f X.env (eval (.Name x p3) X.env) = eval (.Name x p3) X.env := by rfl) :
    PE (X.suite a ((a, oe) :: pn)) (.Attribute (.Name x p3) f pos) (tX F (kF (α := α)) c fun γ => Exc.at (v.get γ) f) :=
  pe_mono (pe_xf T.xf hno hz.zc hf (pe_var (X := X.suite a ((a, oe) :: pn)) hN hv hd hcd) hb) fun σ H Q ⟨H0, G0, G, os, γ, st, p⟩ => by
    obtain ⟨v1, e1, e2, r1⟩ := @Var.fz _ _ _ _ _ i Exc (repEx a d) _ v _ _ st.r
    subst e2
    refine ⟨_, e1, rfl, rfl, ?_⟩
    unfold Exc.at at p
    dsimp only at p
    cases hfl : (v.get γ).fld with
    | nil => rw [hfl] at p; exact p.elim
    | cons y0 ys =>
      rw [hfl] at p
      dsimp only at p
      unfold RepX at r1
      rw [if_neg (by rw [hfl]; exact fun z => nomatch z)] at r1
      obtain ⟨dd, fs, g1, g2, _, g3⟩ := r1
      cases hl : List.lookup f (y0 :: ys) with
      | none => rw [hl] at p; exact p.elim
      | some z =>
        rw [hl] at p
        dsimp only at p
        obtain ⟨u, k1, k2⟩ := g3 f z (by rw [hfl]; exact hl)
        refine ⟨dd, fs, u, g1, st.f.gh _ _ g2, k1, ?_⟩
        cases hgz : (FV.get z : Rs α) with
        | no => rw [hgz] at p; exact p.elim
        | ex e => exact (FV.ex hgz).elim
        | ok r => rw [hgz] at p; exact p H G u (Fr.refl st.f.gh) (FV.rp hgz k2)
/-! ### calls where an exception is handled -/
theorem takes_cut {X : Cx} : L2N.Takes X (fun _ _ _ _ => False) := fun _ _ ⟨_, _, _, _, _, _, _, _, _, _, _, _, _, _, _, _, w⟩ => w.elim
theorem fn_okH {P : Program} {w : World} {K : PySem.W.Frag} {mg : Str → Option Value} {base : Heap} {ρ : Type} {wd : Wd} {kr : Kd wd ρ} {Γ : Ctx} {m : Ctx.T Γ → Rs ρ} {x qual : Str} {st : Stmt} {f : Addr} {fd : FuncData} {N ps : List Str} {k : Nat} (F : Fun K x qual st f fd) (S : FnScope N ps (defScope st)) (hl : Γ.length = ps.length)
    (body : ∀ (cdv : Value) (A : Around) (outer : List Env) (s : Shared) (H : Hp) (E : XK) (p : Addr × Obj), L2H.Hot1 A p → L2H.RoomH k (A.deeper (envOfC qual (defScope st) s.heap.objs.size f cdv)) →
      PSs (L2H.cxH (L2N.CX P w) P w K mg base N qual (defScope st) f cdv A outer s H E p) (defBody st) (tT ⟨wd, Sl.all N.length, fun cls d _ H => E cls d H⟩ kr Γ m)) : L2H.FnH P w K mg base (L2N.CX P w) (k + 1) f fd ps (spF wd kr Γ m) := by
  have hpl : ps.length ≤ N.length := by have := congrArg List.length S.pre; rw [List.length_take] at this; omega
  refine okH F S (fun vs H Q E h => h.1.trans hl) (fun cdv A outer s H vs Q E p hp hr h => ⟨_, body cdv A outer s H E p hp hr, ?_⟩)
  obtain ⟨h1, G, γ, gh, ra, p⟩ := h
  refine ⟨H, G, G, [], γ, ⟨?_, Fr.refl gh, List.nodup_nil, fun _ z => (by cases z), RA.r (fun k v e => start_get e) ra⟩, ?_⟩
  · refine ⟨?_, trivial⟩
    show _ = N.length
    unfold L2.start
    rw [List.length_append, List.length_map, List.length_replicate]
    omega
  · cases e : m γ with
    | no => rw [e] at p; exact p
    | ex x => rw [e] at p; exact fun d σ H' G' _ => p d H' G'
    | ok r => rw [e] at p; exact fun H' G' v f q => p H' G' v f q
theorem e_callH {kr : Kd F.wd ρ} {Γ : Ctx} {m : Ctx.T Γ → Rs ρ} {ma : Ctx.T c → Rs (Ctx.T Γ)} {e : Expr} {es : List Expr} {q : Pos} {fa : Addr} {fd : FuncData} {ps : List Str} {k : Nat} (tk : L2N.Takes X F.W) (hot : L2H.HotC X) (Fn : L2H.FnH X.prog X.w X.K X.mg X.base (L2N.CX X.prog X.w) k fa fd ps (spF F.wd kr Γ m)) (hr : L2H.RoomH k X.A) (hm : X.mg x = some (.ref fa)) (hk : PySem.W.keepIn X.K (.ref fa) = true) (hb : Binds X.K fd ps [])
    (ha : PA X (e :: es) (tA F c 0 Γ ma)) (hg : Gl X x := by rfl) (hdb : (x == ("__debug__" : Str)) = false := by decide) (he : starEach (e :: es) X.env = (false, eval e X.env) :: starEach es X.env := by rfl) (hpl : (backTo pos (starEach es X.env)).any (·.1) = false := by rfl) :
    PE X (.Call (.Name x q) (e :: es) [] pos) (tX F kr c fun γ => (ma γ).bind m) :=
  pe_mono (L2H.pe_callH Fn hr hot hg hm hk hb (fun σ => L2N.passAt tk σ) ha hdb he hpl) fun σ H Q h => sp_of h
end
theorem bt_ValueError : bootBuiltins "ValueError" = some (.type "ValueError") := by decide +kernel
section
variable {X : Cx} {F : Fx} {ρ : Type} {kr : Kd F.wd ρ} {c c' : Ctx} {sts : List Stmt}
/-- a block that always raises, where one is wanted that goes on -/
theorem b_ts {m : Ctx.T c → Rs ρ} (h : PSs X sts (tT F kr c m)) : PSs X sts (tS F c c' fun γ => (m γ).bind fun _ => .no) :=
  pss_mono h fun D σ H ⟨H0, G0, G, os, γ, st, p⟩ => ⟨H0, G0, G, os, γ, st, by
    dsimp only at p
    cases e : m γ with
    | no => rw [e] at p; exact p
    | ex x => rw [e] at p; exact p
    | ok z => rw [e] at p; exact p.elim⟩
end
/-- a def that falls off its end, or returns nothing -/
theorem fn_okG {P : Program} {w : World} {K : PySem.W.Frag} {mg : Str → Option Value} {base : Heap} {wd : Wd} {Γ c' : Ctx} {m : Ctx.T Γ → Rs (Ctx.T c' ⊕ Unit)} {x qual : Str} {st : Stmt} {f : Addr} {fd : FuncData} {N ps : List Str} {k : Nat} (F : Fun K x qual st f fd) (S : FnScope N ps (defScope st)) (hl : Γ.length = ps.length)
    (body : ∀ (cdv : Value) (A : Around) (outer : List Env) (s : Shared) (H : Hp) (E : XK), Room k (A.deeper (envOfC qual (defScope st) s.heap.objs.size f cdv)) →
      PSs (cxOf (L2N.CX P w) P w K mg base N qual (defScope st) f cdv A outer s H E) (defBody st) (tG ⟨wd, Sl.all N.length, fun cls d _ H => E cls d H⟩ (kF : Kd wd Unit) Γ c' m)) : FnOk P w K mg base (L2N.CX P w) (k + 1) f fd ps (spF wd (kF (α := Unit)) Γ fun γ => (m γ).bind fun _ => .ok ()) := by
  have hpl : ps.length ≤ N.length := by have := congrArg List.length S.pre; rw [List.length_take] at this; omega
  refine okN F S (fun vs H Q E h => h.1.trans hl) (fun cdv A outer s H vs Q E hr h => ⟨_, body cdv A outer s H E hr, ?_⟩)
  obtain ⟨h1, G, γ, gh, ra, p⟩ := h
  refine ⟨H, G, G, [], γ, ⟨?_, Fr.refl gh, List.nodup_nil, fun _ z => (by cases z), RA.r (fun k v e => start_get e) ra⟩, ?_⟩
  · refine ⟨?_, trivial⟩
    show _ = N.length
    unfold L2.start
    rw [List.length_append, List.length_map, List.length_replicate]
    omega
  · dsimp only at p
    cases e : m γ with
    | no => rw [e] at p; exact p
    | ex x => rw [e] at p; exact fun d σ H' G' _ => p d H' G'
    | ok r =>
      rw [e] at p
      cases r with
      | inl g => exact fun σ' H' G' os st => p H' G' .non st.f rfl
      | inr u => exact fun H' G' v f q => p H' G' v f q
theorem room_mark {j k : Nat} {A : Around} {h : Option Value} (r : Room k A) (hj : j ≤ k) : L2H.RoomH j (A.mark h) :=
  ⟨by have := r.dp; show A.depth + 3 * j + 5 < _; omega, by have := r.un; show A.units + 16 * j + 200 < _; omega⟩
/-! ### builtins of two -/
section
variable {X : Cx} {F : Fx} {c : Ctx} {α β δ : Type} {k1 : Kd F.wd α} {k2 : Kd F.wd β} {k3 : Kd F.wd δ} {a b : Expr} {ma : Ctx.T c → Rs α} {mb : Ctx.T c → Rs β} {pos p : Pos}
theorem e_b2 {x : Str} {id : String} {r : List V → Hp → VK → Prop} {f : α → β → Rs δ} (hc : CallR X (.builtin id) r) (hs : Sem2 k1 k2 k3 (fun x y => r [x, y]) f) (hg : Gl X x) (hm : X.mg x = none) (hv : bootBuiltins x = some (.builtin id)) (ha : PE X a (tX F k1 c ma)) (hb : PE X b (tX F k2 c mb)) (hn : x ≠ "__name__" := by decide)
    (hdb : (x == ("__debug__" : Str)) = false := by decide) (he : starEach (a :: b :: []) X.env = (false, eval a X.env) :: starEach (b :: []) X.env := by rfl) (he2 : starEach (b :: []) X.env = (false, eval b X.env) :: starEach [] X.env := by rfl) (hpl : (backTo pos (starEach (b :: []) X.env)).any (·.1) = false := by rfl) :
    PE X (.Call (.Name x p) [a, b] [] pos) (tX F k3 c fun γ => (ma γ).bind fun x => (mb γ).bind fun y => f x y) :=
  pe_mono (pe_callB hc hg hm hv (pa_cons ha (pa_cons hb pa_nil he2) he) hn hdb he hpl) fun σ H Q h => tX2 hs h
theorem m_max2 {wd : Wd} : Sem2 (wd := wd) kF kF kF (fun x y => (fun xs H Q => ∃ i j, xs = [V.int i, V.int j] ∧ Q (.int (if j > i then j else i)) H : List V → Hp → VK → Prop) [x, y]) (fun (a b : Int) => .ok (max a b)) := by
  intro W σ B1 B2 H G x y a b Q gh hx hy p
  rw [show x = .int a from hx, show y = .int b from hy]
  refine ⟨a, b, rfl, p H G _ (Fr.refl gh) ?_⟩
  show V.int _ = V.int _
  congr 1
  split <;> omega
theorem m_min2 {wd : Wd} : Sem2 (wd := wd) kF kF kF (fun x y => (fun xs H Q => ∃ i j, xs = [V.int i, V.int j] ∧ Q (.int (if j < i then j else i)) H : List V → Hp → VK → Prop) [x, y]) (fun (a b : Int) => .ok (min a b)) := by
  intro W σ B1 B2 H G x y a b Q gh hx hy p
  rw [show x = .int a from hx, show y = .int b from hy]
  refine ⟨a, b, rfl, p H G _ (Fr.refl gh) ?_⟩
  show V.int _ = V.int _
  congr 1
  split <;> omega
end
/-! ### in -/
theorem room65 {k : Nat} {A : Around} (r : Room k A) : A.units + 65 < cLine := by have := r.un; omega
def memB {α : Type} [DecidableEq α] (a : α) (as : List α) : Bool := decide (a ∈ as)
theorem memB_iff {α : Type} [DecidableEq α] {a : α} {as : List α} : memB a as = true ↔ a ∈ as := decide_eq_true_iff
theorem any_mem {α : Type} [Rep α] [DecidableEq α] [PyEq α] (a : α) (as : List α) : ((as.map PyEq.d).any fun z => PyData.eqv z (PyEq.d a)) = decide (a ∈ as) := by
  induction as with
  | nil => rfl
  | cons b as ih =>
    rw [List.map_cons, List.any_cons, ih, PyEq.eqv]
    by_cases h : b = a
    · rw [dtrue h, dtrue (show a ∈ b :: as by rw [h]; exact List.mem_cons_self)]; rfl
    · rw [decide_eq_false h]
      by_cases h2 : a ∈ as
      · rw [dtrue h2, dtrue (List.mem_cons_of_mem _ h2)]; rfl
      · rw [decide_eq_false h2, decide_eq_false fun z => (List.mem_cons.mp z).elim (fun q => h q.symm) h2]; rfl
theorem m_inD {α : Type} [Rep α] [DecidableEq α] [PyEq α] {wd : Wd} {K : PySem.W.Frag} (hd : PyEq.dep (List α) ≤ 64 := by decide) : Sem2 (wd := wd) kF kB kF (rInD K) (fun (a : α) (as : List α) => .ok (memB a as)) := by
  intro W σ B1 B2 H G x y a as Q gh hx hy p
  obtain ⟨h1, h2⟩ := dpB (K := K) gh hy
  refine ⟨_, as.map PyEq.d, PyEq.dp gh hx, h1, shaped_of hx (Nat.le_trans (Nat.le_succ _) hd), shapedB h2 hd, ?_⟩
  rw [any_mem]
  exact p H G _ (Fr.refl gh) rfl
theorem m_niD {α : Type} [Rep α] [DecidableEq α] [PyEq α] {wd : Wd} {K : PySem.W.Frag} (hd : PyEq.dep (List α) ≤ 64 := by decide) : Sem2 (wd := wd) kF kB kF (rNotInD K) (fun (a : α) (as : List α) => .ok (!memB a as)) := by
  intro W σ B1 B2 H G x y a as Q gh hx hy p
  obtain ⟨h1, h2⟩ := dpB (K := K) gh hy
  refine ⟨_, as.map PyEq.d, PyEq.dp gh hx, h1, shaped_of hx (Nat.le_trans (Nat.le_succ _) hd), shapedB h2 hd, ?_⟩
  rw [any_mem]
  exact p H G _ (Fr.refl gh) rfl
theorem m_inTI {wd : Wd} {K : PySem.W.Frag} : Sem2 (wd := wd) kF kF kF (rIn K false) (fun (a : Int) (as : Tup Int) => .ok (decide (a ∈ as.items))) := by
  intro W σ B1 B2 H G x y a as Q gh hx ⟨q, o, e1, e2, vs, e3, e4, r⟩ p
  subst e1; subst e3
  rw [r.ints] at e2
  rw [show x = .int a from hx]
  refine ⟨q, _, rfl, .inr (.of (gh _ _ e2)), rfl, flat_ints as.items, ?_⟩
  show Q (.bl (inV _ _)) H
  rw [inV_ints]
  exact p H G _ (Fr.refl gh) rfl
theorem m_niTI {wd : Wd} {K : PySem.W.Frag} : Sem2 (wd := wd) kF kF kF (rIn K true) (fun (a : Int) (as : Tup Int) => .ok (!decide (a ∈ as.items))) := by
  intro W σ B1 B2 H G x y a as Q gh hx ⟨q, o, e1, e2, vs, e3, e4, r⟩ p
  subst e1; subst e3
  rw [r.ints] at e2
  rw [show x = .int a from hx]
  refine ⟨q, _, rfl, .inr (.of (gh _ _ e2)), rfl, flat_ints as.items, ?_⟩
  show Q (.bl (!inV _ _)) H
  rw [inV_ints]
  exact p H G _ (Fr.refl gh) rfl
theorem m_isV {wd : Wd} {α : Type} [Rep α] (h : ∀ {G v} {a : α}, rep wd G v a → v ≠ .non) : Sem2 (wd := wd) kF kF kF (fun x y H Q => y = .non ∧ Q (.bl (decide (x = .non))) H) (fun (a : α) (_ : Unit) => .ok false) := by
  intro W σ B1 B2 H G x y a b Q gh hx hy p
  refine ⟨hy, ?_⟩
  rw [decide_eq_false (h hx)]
  exact p H G _ (Fr.refl gh) rfl
theorem m_notV {wd : Wd} {α : Type} [Rep α] (h : ∀ {G v} {a : α}, rep wd G v a → v ≠ .non) : Sem2 (wd := wd) kF kF kF (fun x y H Q => y = .non ∧ Q (.bl (!decide (x = .non))) H) (fun (a : α) (_ : Unit) => .ok true) := by
  intro W σ B1 B2 H G x y a b Q gh hx hy p
  refine ⟨hy, ?_⟩
  rw [decide_eq_false (h hx)]
  exact p H G _ (Fr.refl gh) rfl
/-! ### is, of bools -/
theorem op_isB {X : Cx} : OpR X (compareOp .Is) (fun x y H Q => ∃ a b : Bool, x = .bl a ∧ y = .bl b ∧ Q (.bl (a == b)) H) := by
  intro pins s σ H x y v u Q I rx ry h
  obtain ⟨a, b, rfl, rfl, q⟩ := h
  cases rx
  cases ry
  exact is_bool (fin_bl I q rfl)
theorem op_isnB {X : Cx} : OpR X (compareOp .IsNot) (fun x y H Q => ∃ a b : Bool, x = .bl a ∧ y = .bl b ∧ Q (.bl (a != b)) H) := by
  intro pins s σ H x y v u Q I rx ry h
  obtain ⟨a, b, rfl, rfl, q⟩ := h
  cases rx
  cases ry
  exact isnot_bool (fin_bl I q rfl)
theorem m_isB {wd : Wd} : Sem2 (wd := wd) kF kF kF (fun x y H Q => ∃ a b : Bool, x = .bl a ∧ y = .bl b ∧ Q (.bl (a == b)) H) (fun (a b : Bool) => .ok (a == b)) := by
  intro W σ B1 B2 H G x y a b Q gh hx hy p
  exact ⟨a, b, hx, hy, p H G _ (Fr.refl gh) rfl⟩
theorem m_isnB {wd : Wd} : Sem2 (wd := wd) kF kF kF (fun x y H Q => ∃ a b : Bool, x = .bl a ∧ y = .bl b ∧ Q (.bl (a != b)) H) (fun (a b : Bool) => .ok (a != b)) := by
  intro W σ B1 B2 H G x y a b Q gh hx hy p
  exact ⟨a, b, hx, hy, p H G _ (Fr.refl gh) rfl⟩
/-! ### isinstance of a caught error, several classes -/
def tCs (vs : List V) : TA := fun _ H Q => Q vs H
theorem pa_c0 {X : Cx} : PA X [] (tCs []) := pa_nil
theorem pa_c {X : Cx} {e : Expr} {es : List Expr} {v : V} {vs : List V} (h : PE X e (tC v)) (r : PA X es (tCs vs)) (hs : starEach (e :: es) X.env = (false, eval e X.env) :: starEach es X.env := by rfl) : PA X (e :: es) (tCs (v :: vs)) := pa_cons h r hs
theorem any_0 {K : PySem.W.Frag} {t : Value} : PySem.W.kitAny K t [] = some false := rfl
theorem any_f {K : PySem.W.Frag} {t c : Value} {r : List Value} {b : Bool} (h : PySem.W.kitOne K t c = some false) (k : PySem.W.kitAny K t r = some b) : PySem.W.kitAny K t (c :: r) = some b := by
  unfold PySem.W.kitAny
  rw [h]
  exact k
theorem any_t {K : PySem.W.Frag} {t c : Value} {r : List Value} (h : PySem.W.kitOne K t c = some true) : PySem.W.kitAny K t (c :: r) = some true := by
  unfold PySem.W.kitAny
  rw [h]
theorem refs_eq : ∀ {cs : List Addr} {us : List Value}, Vals (cs.map V.ref) us → us = cs.map Value.ref
  | [], _, h => by cases h; rfl
  | c :: cs, _, h => by
    cases h with
    | cons r rs =>
      rw [List.map_cons, ← refs_eq rs]
      congr 1
section
variable {X : Cx} {F : Fx} {c : Ctx} {x : Str} {C a : Addr} {oe : Obj} {d : Option Addr} {pn : List (Addr × Obj)} {i : Nat} {p p2 p3 pos : Pos}
def rIsXt (K : PySem.W.Frag) (C a : Addr) (d : Option Addr) : List V → Hp → VK → Prop := fun xs H Q => ∃ (q : Addr) (cs : List Addr) (b : Bool), xs = [.ref a, .ref q] ∧ H q = some (.tup (cs.map V.ref)) ∧ (d = none ∨ ∃ dd fs, d = some dd ∧ H dd = some (.xd fs)) ∧ PySem.W.kitAny K (.ref C) (cs.map Value.ref) = some b ∧ Q (.bl b) H
theorem call_isXt (T : CatC X.K C) (hz : Zc (.ref C) d oe) (hf : ∃ vs, oe.data = .fields vs) : CallR (X.suite a ((a, oe) :: pn)) (.builtin "isinstance") (rIsXt X.K C a d) := by
  intro pins s σ H xs us Q I r h
  obtain ⟨q, cs, b, rfl, hq, hd, e, k⟩ := h
  obtain ⟨u1, u2, rfl, r1, r2⟩ := vals2 r
  obtain rfl : u1 = Value.ref a := r1
  obtain rfl : u2 = Value.ref q := r2
  obtain ⟨hget, _⟩ := I.pin (a, oe) (List.mem_append.mpr (.inl List.mem_cons_self))
  obtain ⟨od, J⟩ := inst_of I.hok hget hz hf hd
  obtain ⟨cd, hcd, _⟩ := PySem.W.any_some T.xf.hdC
  have ht : ObjOk X.prog X.w H s.heap q (.tup (cs.map V.ref)) := I.hok q _ hq
  obtain ⟨_, its, hv, o, ho, hc, n, hdt⟩ := ht
  have ei := refs_eq hv
  subst ei
  obtain ⟨oc, od2, odt, osl⟩ := o
  dsimp only at hc hdt
  subst hc hdt
  exact PySem.W.kia_tup (PySem.W.kitx_exc (by rw [hcd]; rfl) T.xf.ga T.xf.gg T.xf.exC T.ha T.hn T.ht T.hm) I.kIn J ho e (fun z => nomatch z) fun tk => ⟨.bl b, H, I.kept (t' := tk) fun _ _ z => z, rfl, k⟩
theorem e_isT {b : Bool} {cs : List Addr} {es : List Expr} {x1} (T : CatC X.K C) (hz : L2N.Zn (.ref C) d oe) (hf : ∃ vs, oe.data = .fields vs) (v : Var c (@Ent.fz i Exc (repEx a d))) (hN : X.N[i]? = some x) (hc : PA (X.suite a ((a, oe) :: pn)) es (tCs (cs.map V.ref))) (hl : cs.length ≤ 1000) (hk : PySem.W.kitAny X.K (.ref C) (cs.map Value.ref) = some b) (hm : X.mg "isinstance" = none)
    (hv : Vis X.env.scope x := by first | exact Or.inl rfl | exact Or.inr (Or.inl rfl) | exact Or.inr (Or.inr rfl)) (hd : (x == ("__debug__" : Str)) = false := by decide) (hcd : (x == ("__classdict__" : Str)) = false := by decide) (hg : Gl X "isinstance" := by rfl)
    (he : starEach (.Name x p3 :: .Tuple es x1 p2 :: []) X.env = (false, eval (.Name x p3) X.env) :: starEach (.Tuple es x1 p2 :: []) X.env := by rfl) (he2 : starEach (.Tuple es x1 p2 :: []) X.env = (false, eval (.Tuple es x1 p2) X.env) :: starEach [] X.env := by rfl) (hpl : (backTo pos (starEach (.Tuple es x1 p2 :: []) X.env)).any (·.1) = false := by rfl) :
    PE (X.suite a ((a, oe) :: pn)) (.Call (.Name "isinstance" p) [.Name x p3, .Tuple es x1 p2] [] pos) (tX F kF c fun γ => Rs.ok b) :=
  pe_mono (pe_callB (X := X.suite a ((a, oe) :: pn)) (call_isXt T hz.zc hf) hg hm (by decide +kernel) (pa_cons (pe_var (X := X.suite a ((a, oe) :: pn)) hN hv hd hcd) (pa_cons (pe_tup hc) pa_nil he2) he) (by decide) (by decide) he hpl) fun σ H Q ⟨H0, G0, G, os, γ, st, p⟩ => by
    obtain ⟨v1, e1, e2, r1⟩ := @Var.fz _ _ _ _ _ i Exc (repEx a d) _ v _ _ st.r
    subst e2
    refine ⟨_, e1, ?_⟩
    refine ⟨by rw [List.length_map, sizeLine_eq]; omega, fun q hq => ⟨q, cs, b, rfl, upd_same, ?_, hk, p (upd H q _) G (.bl b) (Fr.alloc st.f.gh hq) rfl⟩⟩
    unfold RepX at r1
    split at r1
    · exact .inl r1
    · obtain ⟨dd, fs, g1, g2, _⟩ := r1
      have g3 := st.f.gh _ _ g2
      exact .inr ⟨dd, fs, g1, by rw [upd_ne (ne_of_none g3 hq)]; exact g3⟩
end
/-! ### None is None -/
theorem m_isU {wd : Wd} : Sem2 (wd := wd) kF kF kF (fun x y H Q => y = .non ∧ Q (.bl (decide (x = .non))) H) (fun (a : Unit) (_ : Unit) => .ok true) := by
  intro W σ B1 B2 H G x y a b Q gh hx hy p
  refine ⟨hy, ?_⟩
  rw [decide_eq_true (show x = .non from hx)]
  exact p H G _ (Fr.refl gh) rfl
theorem m_notU {wd : Wd} : Sem2 (wd := wd) kF kF kF (fun x y H Q => y = .non ∧ Q (.bl (!decide (x = .non))) H) (fun (a : Unit) (_ : Unit) => .ok false) := by
  intro W σ B1 B2 H G x y a b Q gh hx hy p
  refine ⟨hy, ?_⟩
  rw [decide_eq_true (show x = .non from hx)]
  exact p H G _ (Fr.refl gh) rfl
/-! ### what is never come to -/
theorem e_never {X : Cx} {F : Fx} {c : Ctx} {α : Type} {k : Kd F.wd α} {e : Expr} : PE X e (tX F k c fun _ => .no) := ⟨fun _ _ _ _ _ _ ⟨_, _, _, _, _, _, p⟩ => p.elim⟩
theorem q_never {X : Cx} {F : Fx} {c : Ctx} {e : Expr} : PT X e (tQ F c fun _ => .no) := ⟨fun _ _ _ _ _ _ ⟨_, _, _, _, _, _, p⟩ => p.elim⟩
end Wm
set_option Elab.async false
set_option linter.all false
set_option maxRecDepth 100000
set_option maxHeartbeats 4000000
namespace Wm
open PySem PySem.Spec PyProof.Rows L2
open Rep (rep)
open Own (own)
/-! ### sorted(..) of texts -/
theorem ltc_asymm : ∀ {a b : List Nat}, ltCps a b = true → ltCps b a = false
  | [], [], h => by cases h
  | [], _ :: _, _ => rfl
  | _ :: _, [], h => by cases h
  | a :: r, b :: t, h => by
    simp only [ltCps, Bool.or_eq_true, Bool.and_eq_true, decide_eq_true_eq, beq_iff_eq] at h
    simp only [ltCps, Bool.or_eq_false_iff, Bool.and_eq_false_iff, decide_eq_false_iff_not, beq_eq_false_iff_ne]
    rcases h with h | ⟨h1, h2⟩
    · exact ⟨by omega, .inl (by omega)⟩
    · exact ⟨by omega, .inr (ltc_asymm h2)⟩
theorem ltc_anti : ∀ {a b : List Nat}, ltCps a b = false → ltCps b a = false → a = b
  | [], [], _, _ => rfl
  | [], _ :: _, h, _ => by cases h
  | _ :: _, [], _, h => by cases h
  | a :: r, b :: t, h, k => by
    simp only [ltCps, Bool.or_eq_false_iff, Bool.and_eq_false_iff, decide_eq_false_iff_not, beq_eq_false_iff_ne] at h k
    obtain ⟨h1, h2⟩ := h
    obtain ⟨k1, k2⟩ := k
    have e : a = b := by omega
    subst e
    rcases h2 with z | h2
    · exact absurd rfl z
    · rcases k2 with z | k2
      · exact absurd rfl z
      · rw [ltc_anti h2 k2]
theorem ltc_trans : ∀ {a b c : List Nat}, ltCps b a = false → ltCps c b = false → ltCps c a = false
  | [], [], [], _, _ => rfl
  | [], [], _ :: _, _, h => rfl
  | [], _ :: _, [], _, h => by cases h
  | [], _ :: _, _ :: _, _, _ => rfl
  | _ :: _, [], [], h, _ => by cases h
  | _ :: _, [], _ :: _, h, _ => by cases h
  | _ :: _, _ :: _, [], _, h => by cases h
  | a :: r, b :: t, c :: u, h, k => by
    simp only [ltCps, Bool.or_eq_false_iff, Bool.and_eq_false_iff, decide_eq_false_iff_not, beq_eq_false_iff_ne] at h k ⊢
    obtain ⟨h1, h2⟩ := h
    obtain ⟨k1, k2⟩ := k
    refine ⟨by omega, ?_⟩
    by_cases e : c = a
    · refine .inr ?_
      have e1 : b = a := by omega
      subst e1
      subst e
      rcases h2 with z | h2
      · exact absurd rfl z
      · rcases k2 with z | k2
        · exact absurd rfl z
        · exact ltc_trans h2 k2
    · exact .inl e
def leS (a b : Str) : Bool := !ltCps b.cps.toList a.cps.toList
theorem leS_trans {a b c : Str} (h : leS a b = true) (k : leS b c = true) : leS a c = true := by
  unfold leS at *
  rw [Bool.not_eq_true'] at *
  exact ltc_trans h k
theorem leS_total (a b : Str) : (leS a b || leS b a) = true := by
  unfold leS
  cases e : ltCps b.cps.toList a.cps.toList with
  | false => rfl
  | true => rw [ltc_asymm e]; rfl
theorem leS_anti {a b : Str} (h : leS a b = true) (k : leS b a = true) : a = b := by
  unfold leS at *
  rw [Bool.not_eq_true'] at *
  exact Str.ext' (ltc_anti k h)
def sortStr (xs : List Str) : List Str := xs.mergeSort leS
theorem sortStr_perm (xs : List Str) : (sortStr xs).Perm xs := List.mergeSort_perm _ _
theorem sortStr_up (xs : List Str) : (sortStr xs).Pairwise (fun a b => leS a b = true) := List.pairwise_mergeSort (le := leS) (fun _ _ _ h k => leS_trans h k) leS_total xs
theorem sortStr_len (xs : List Str) : (sortStr xs).length = xs.length := (sortStr_perm xs).length_eq
theorem risingS_up : ∀ {xs : List Str} {p : Str}, risingS p xs = true → (p :: xs).Pairwise (fun a b => leS a b = true)
  | [], p, _ => List.pairwise_singleton _ _
  | x :: xs, p, h => by
    have h' : (!ltCps x.cps.toList p.cps.toList && risingS x xs) = true := h
    rw [Bool.and_eq_true] at h'
    have ih := risingS_up h'.2
    refine List.pairwise_cons.mpr ⟨fun y hy => ?_, ih⟩
    rcases List.mem_cons.mp hy with e | e
    · rw [e]; exact h'.1
    · exact leS_trans h'.1 ((List.pairwise_cons.mp ih).1 y e)
theorem sortedS_up : ∀ {xs : List Str}, sortedS xs = true → xs.Pairwise (fun a b => leS a b = true)
  | [], _ => List.Pairwise.nil
  | x :: xs, h => risingS_up h
theorem sortStr_is {xs ys : List Str} (p : ys.Perm xs) (u : ys.Pairwise (fun a b => leS a b = true)) : ys = sortStr xs :=
  List.Perm.eq_of_pairwise (fun a b _ _ h1 h2 => leS_anti h1 h2) u (sortStr_up xs) (p.trans (sortStr_perm xs).symm)
theorem reps.strs_ok {wd : Wd} {G : Hp} : ∀ {vs : List V} {as : List Str}, reps wd G vs as → ∀ a ∈ as, SOk a
  | [], [], _, _, h => by cases h
  | _ :: _, _ :: _, ⟨h, t⟩, a, m => by
    rcases List.mem_cons.mp m with e | e
    · rw [e]; exact h.2
    · exact reps.strs_ok t a e
  | [], _ :: _, h, _, _ => h.elim
  | _ :: _, [], h, _, _ => h.elim
theorem reps.of_strs {wd : Wd} {G : Hp} : ∀ {as : List Str}, (∀ a ∈ as, SOk a) → reps wd G (as.map V.str) as
  | [], _ => trivial
  | a :: as, h => ⟨⟨rfl, h a List.mem_cons_self⟩, reps.of_strs fun b hb => h b (List.mem_cons_of_mem _ hb)⟩
def sortS (xs : List Str) : Rs (List Str) := if xs.length < 64 then .ok (sortStr xs) else .no
theorem m_sortedS {wd : Wd} {K : PySem.W.Frag} : Sem1 (wd := wd) kB kO (fun x => rSortedS K [x]) sortS := by
  intro W σ B H G x a Q gh ⟨q, o, e1, e2, vs, e3, e4, r⟩ p
  subst e1; subst e3
  unfold sortS at p
  by_cases hl : a.length < 64
  · rw [if_pos hl] at p
    refine ⟨q, a, rfl, by rw [← r.strs]; exact .of e2, hl, fun ys d hp hu nd => ?_⟩
    have e := sortStr_is hp (sortedS_up hu)
    subst e
    exact p _ _ _ (Fr.alloc gh nd) ⟨d, _, rfl, nd, gh.free nd, upd_same, _, rfl, by rw [List.length_map, sortStr_len, ← r.len]; exact e4, reps.of_strs fun z hz => r.strs_ok z ((sortStr_perm a).mem_iff.mp hz)⟩
  · rw [if_neg hl] at p
    exact p.elim
/-! ### dicts -/
class KeyT (κ : Type) [Rep κ] where
  key : κ → Key
  inj : ∀ {a b : κ}, key a = key b → a = b
  to : ∀ {wd G v a}, rep wd G v a → v = kV (key a)
  any : ∀ {wd G wd' G' v} {a : κ}, rep wd G v a → rep wd' G' v a
instance : KeyT Int := ⟨.inl, fun h => Sum.inl.inj h, fun h => h, fun h => h⟩
instance : KeyT Str := ⟨.inr, fun h => Sum.inr.inj h, fun h => h.1, fun h => h⟩
structure Dct (κ α : Type) where
  es : List (κ × α)
/-- a dict that is only looked at -/
structure DV (κ α : Type) where
  d : Dct κ α
section
variable {κ α : Type} [Rep κ] [KeyT κ] [Rep α] {wd : Wd} {G G' : Hp}
def rkv (wd : Wd) (G : Hp) : List (Key × V) → List (κ × α) → Prop
  | [], [] => True
  | p :: ps, e :: es => (p.1 = KeyT.key e.1 ∧ rep wd G (kV p.1) e.1 ∧ rep wd G p.2 e.2) ∧ rkv wd G ps es
  | _, _ => False
theorem rkv.mono (s : Same G G') : ∀ {ps : List (Key × V)} {es : List (κ × α)}, rkv wd G ps es → rkv wd G' ps es
  | [], [], _ => trivial
  | _ :: _, _ :: _, ⟨⟨h1, h2, h3⟩, t⟩ => ⟨⟨h1, Rep.mono s h2, Rep.mono s h3⟩, rkv.mono s t⟩
  | [], _ :: _, h => h.elim
  | _ :: _, [], h => h.elim
theorem rkv.len : ∀ {ps : List (Key × V)} {es : List (κ × α)}, rkv wd G ps es → ps.length = es.length
  | [], [], _ => rfl
  | _ :: _, _ :: _, ⟨_, t⟩ => congrArg (· + 1) (rkv.len t)
  | [], _ :: _, h => h.elim
  | _ :: _, [], h => h.elim
theorem rkv.keys : ∀ {ps : List (Key × V)} {es : List (κ × α)}, rkv wd G ps es → ps.map (·.1) = es.map fun e => KeyT.key e.1
  | [], [], _ => rfl
  | _ :: _, _ :: _, ⟨⟨h1, _⟩, t⟩ => by rw [List.map_cons, List.map_cons, h1, rkv.keys t]
  | [], _ :: _, h => h.elim
  | _ :: _, [], h => h.elim
theorem rkv.keyv : ∀ {ps : List (Key × V)} {es : List (κ × α)}, rkv wd G ps es → reps wd G (ps.map fun p => kV p.1) (es.map (·.1))
  | [], [], _ => trivial
  | _ :: _, _ :: _, ⟨⟨_, h2, _⟩, t⟩ => ⟨h2, rkv.keyv t⟩
  | [], _ :: _, h => h.elim
  | _ :: _, [], h => h.elim
end
namespace Dct
variable {κ α : Type} [DecidableEq κ]
def get? (d : Dct κ α) (k : κ) : Option α := (d.es.find? fun e => decide (e.1 = k)).map (·.2)
def put (d : Dct κ α) (k : κ) (a : α) : Dct κ α := ⟨if (d.es.any fun e => decide (e.1 = k)) = true then d.es.map (fun e => if e.1 = k then (e.1, a) else e) else d.es ++ [(k, a)]⟩
end Dct
section
variable {κ α : Type} [DecidableEq κ] [Rep κ] [KeyT κ] [Rep α] {wd : Wd} {G : Hp}
theorem key_iff {a b : κ} : KeyT.key a = KeyT.key b ↔ a = b := ⟨KeyT.inj, fun h => by rw [h]⟩
theorem rkv.get : ∀ {ps : List (Key × V)} {es : List (κ × α)} (k : κ), rkv wd G ps es → match (Dct.mk es).get? k with | none => valV ps (KeyT.key k) = none | some a => ∃ v, valV ps (KeyT.key k) = some v ∧ rep wd G v a
  | [], [], _, _ => rfl
  | p :: ps, e :: es, k, ⟨⟨h1, h2, h3⟩, t⟩ => by
    unfold Dct.get?
    dsimp only
    rw [List.find?_cons]
    by_cases c : e.1 = k
    · rw [decide_eq_true c]
      exact ⟨p.2, valV_pos (by rw [h1, c]), h3⟩
    · rw [decide_eq_false c]
      have := rkv.get k t
      unfold Dct.get? at this
      dsimp only at this ⊢
      rw [valV_neg (fun z => c (KeyT.inj (h1.symm.trans z)))]
      exact this
  | [], _ :: _, _, h => h.elim
  | _ :: _, [], _, h => h.elim
theorem rkv.anyk : ∀ {ps : List (Key × V)} {es : List (κ × α)} (k : κ), rkv wd G ps es → (ps.any fun p => decide (p.1 = KeyT.key k)) = es.any fun e => decide (e.1 = k)
  | [], [], _, _ => rfl
  | p :: ps, e :: es, k, ⟨⟨h1, h2, h3⟩, t⟩ => by
    rw [List.any_cons, List.any_cons, rkv.anyk k t, h1]
    congr 1
    rw [decide_eq_decide]
    exact key_iff
  | [], _ :: _, _, h => h.elim
  | _ :: _, [], _, h => h.elim
theorem rkv.repl {k : κ} {v : V} {a : α} (hv : rep wd G v a) : ∀ {ps : List (Key × V)} {es : List (κ × α)}, rkv wd G ps es → rkv wd G (ps.map fun p => if p.1 = KeyT.key k then (p.1, v) else p) (es.map fun e => if e.1 = k then (e.1, a) else e)
  | [], [], _ => trivial
  | p :: ps, e :: es, ⟨⟨h1, h2, h3⟩, t⟩ => by
    refine ⟨?_, rkv.repl hv t⟩
    dsimp only
    by_cases c : e.1 = k
    · rw [if_pos c, if_pos (by rw [h1, c])]
      exact ⟨h1, h2, hv⟩
    · rw [if_neg c, if_neg fun z => c (KeyT.inj (h1.symm.trans z))]
      exact ⟨h1, h2, h3⟩
  | [], _ :: _, h => h.elim
  | _ :: _, [], h => h.elim
theorem rkv.snoc {k : κ} {v : V} {a : α} (hk : rep wd G (kV (KeyT.key k)) k) (hv : rep wd G v a) : ∀ {ps : List (Key × V)} {es : List (κ × α)}, rkv wd G ps es → rkv wd G (ps ++ [(KeyT.key k, v)]) (es ++ [(k, a)])
  | [], [], _ => ⟨⟨rfl, hk, hv⟩, trivial⟩
  | _ :: _, _ :: _, ⟨h, t⟩ => ⟨h, rkv.snoc hk hv t⟩
  | [], _ :: _, h => h.elim
  | _ :: _, [], h => h.elim
theorem rkv.put {ps : List (Key × V)} {es : List (κ × α)} {k : κ} {v : V} {a : α} (h : rkv wd G ps es) (hk : rep wd G (kV (KeyT.key k)) k) (hv : rep wd G v a) : rkv wd G (putK ps (KeyT.key k) v) ((Dct.mk es).put k a).es := by
  unfold putK Dct.put
  dsimp only
  rw [h.anyk k]
  by_cases c : (es.any fun e => decide (e.1 = k)) = true
  · rw [if_pos c, if_pos c]; exact h.repl hv
  · rw [if_neg c, if_neg c]; exact h.snoc hk hv
end
instance {κ α : Type} [Rep κ] [KeyT κ] [Rep α] : Own (Dct κ α) where
  own := fun wd G o d => ∃ ps, o = .dK ps ∧ ps.length ≤ sizeLine ∧ rkv wd G ps d.es
  mono := fun s ⟨ps, e, l, h⟩ => ⟨ps, e, l, h.mono s⟩
instance {κ α : Type} [Rep κ] [KeyT κ] [Rep α] : Own (DV κ α) where
  own := fun wd G o d => ∃ ps, (o = .dK ps ∨ ∃ ob, o = .frz ob (.dK ps)) ∧ ps.length ≤ sizeLine ∧ rkv wd G ps d.d.es
  mono := fun s ⟨ps, e, l, h⟩ => ⟨ps, e, l, h.mono s⟩
section
variable {X : Cx} {F : Fx} {c : Ctx} {κ α β : Type} [Rep κ] [KeyT κ] [Rep α] {e o i f : Expr} {pos p apos cpos : Pos}
/-- an owned dict, looked at -/
theorem e_dv {m : Ctx.T c → Rs (Dct κ α)} (h : PE X e (tX F kB c m)) : PE X e (tX F (kB (β := DV κ α)) c fun γ => (m γ).bind fun d => .ok (DV.mk d)) :=
  pe_mono h fun σ H Q ⟨H0, G0, G, os, γ, st, p⟩ => ⟨H0, G0, G, os, γ, st, by
    cases e : m γ with
    | no => dsimp only at p; rw [e] at p; exact p
    | ex x => dsimp only at p; rw [e] at p; exact p
    | ok b =>
      dsimp only at p; rw [e] at p
      exact fun H' G' v f ⟨q, o, e1, e2, ps, e3, e4, e5⟩ => p H' G' v f ⟨q, o, e1, e2, ps, .inl e3, e4, e5⟩⟩
theorem e_dnew : PE X (.Dict [] [] pos) (tX F kO c fun _ => .ok (⟨[]⟩ : Dct κ α)) :=
  pe_mono pe_dnewK fun σ H Q ⟨H0, G0, G, os, γ, st, p⟩ => fun d nd => p _ _ _ (Fr.alloc st.f.gh nd) ⟨d, _, rfl, nd, st.f.gh.free nd, upd_same, [], rfl, Nat.zero_le _, trivial⟩
theorem rd_dv {H : Hp} {q : Addr} {o : HO} {ps : List (Key × V)} (h : H q = some o) (e : o = .dK ps ∨ ∃ ob, o = .frz ob (.dK ps)) : Rd H q (.dK ps) := by
  rcases e with e | ⟨ob, e⟩
  · subst e; exact .inl h
  · subst e; exact .inr ⟨ob, h⟩
theorem rd_up {H H' : Hp} {q : Addr} {u : HO} (r : Rd H q u) (s : Same H H') : Rd H' q u := by
  rcases r with r | ⟨ob, r⟩
  · exact .inl (s _ _ r)
  · exact .inr ⟨ob, s _ _ r⟩
variable [DecidableEq κ]
def dgetR (d : Dct κ α) (k : κ) : Rs α := match d.get? k with | some a => .ok a | none => .no
/-- d[k], there -/
theorem e_dget {m : Ctx.T c → Rs (DV κ α)} {mk : Ctx.T c → Rs κ} (hu : X.A.units + 1 < cLine) (h : PE X o (tX F kB c m)) (hk : PE X i (tX F kF c mk)) (hs : NoSl i := by exact fun _ _ => rfl) :
    PE X (.Subscript o i pos) (tX F kF c fun γ => (m γ).bind fun d => (mk γ).bind fun k => dgetR d.d k) :=
  pe_mono (pe_dget hu h hk hs) fun σ H Q ⟨H0, G0, G, os, γ, st, p⟩ => ⟨H0, G0, G, os, γ, st, p.step kB fun x H1 G1 d f1 ⟨q, ob, e1, e2, ps, e3, e4, e5⟩ p1 => ⟨H0, G0, G1, os, γ, st.ext f1, p1.step kF fun y H2 G2 k f2 r2 p2 => by
    have g := (e5.mono f2.g).get k
    unfold dgetR at p2
    change Post F.W kF σ H2 G2 Q (match d.d.get? k with | some a => .ok a | none => .no) at p2
    cases eg : d.d.get? k with
    | none => rw [eg] at p2; exact p2.elim
    | some a =>
      rw [eg] at p2 g
      obtain ⟨v, hv, rv⟩ := g
      exact ⟨q, v, e1, .inl ⟨ps, KeyT.key k, rd_up (rd_dv e2 e3) f2.h, KeyT.to r2, hv.symm⟩, p2 _ _ _ (Fr.refl f2.gh) rv⟩⟩⟩
/-- d.get(k, z) -/
theorem e_dget2 {m : Ctx.T c → Rs (DV κ α)} {mk : Ctx.T c → Rs κ} {mz : Ctx.T c → Rs α} (hu : X.A.units + 1 < cLine) (h : PE X o (tX F kB c m)) (hk : PE X e (tX F kF c mk)) (hz : PE X f (tX F kF c mz)) (mm : M2 X o "get" apos e f cpos := by exact ⟨by rfl, by rfl, by rfl, by rfl⟩) :
    PE X (.Call (.Attribute o "get" apos) [e, f] [] cpos) (tX F kF c fun γ => (m γ).bind fun d => (mk γ).bind fun k => (mz γ).bind fun z => .ok ((d.d.get? k).getD z)) :=
  pe_mono (pe_dget2 hu h hk hz mm) fun σ H Q ⟨H0, G0, G, os, γ, st, p⟩ => ⟨H0, G0, G, os, γ, st, p.step kB fun x H1 G1 d f1 ⟨q, ob, e1, e2, ps, e3, e4, e5⟩ p1 => ⟨q, e1, .inl ⟨ps, rd_dv e2 e3⟩, H0, G0, G1, os, γ, st.ext f1, p1.step kF fun y H2 G2 k f2 r2 p2 =>
    ⟨H0, G0, G2, os, γ, (st.ext f1).ext f2, p2.step kF fun w H3 G3 z f3 r3 p3 => by
    have g := (e5.mono (f2.g.trans f3.g)).get k
    refine ⟨valV ps (KeyT.key k), .inl ⟨ps, KeyT.key k, rd_up (rd_dv e2 e3) (f2.h.trans f3.h), KeyT.to r2, rfl⟩, ?_⟩
    change Post F.W kF σ H3 G3 Q (.ok ((d.d.get? k).getD z)) at p3
    cases eg : d.d.get? k with
    | none =>
      rw [eg] at p3 g
      dsimp only at g
      rw [g]
      exact p3 _ _ _ (Fr.refl f3.gh) r3
    | some a =>
      rw [eg] at p3 g
      obtain ⟨v, hv, rv⟩ := g
      rw [hv]
      exact p3 _ _ _ (Fr.refl f3.gh) rv⟩⟩⟩
theorem get_any {d : Dct κ α} {k : κ} {wd : Wd} {G : Hp} {ps : List (Key × V)} (h : rkv wd G ps d.es) : (valV ps (KeyT.key k)).isSome = (d.get? k).isSome := by
  have g := h.get k
  change match d.get? k with | none => valV ps (KeyT.key k) = none | some a => ∃ v, valV ps (KeyT.key k) = some v ∧ rep wd G v a at g
  cases eg : d.get? k with
  | none =>
    rw [eg] at g
    dsimp only at g
    rw [g]; rfl
  | some a =>
    rw [eg] at g
    obtain ⟨v, hv, _⟩ := g
    rw [hv]; rfl
theorem tX_din {m : Ctx.T c → Rs (DV κ α)} {mk : Ctx.T c → Rs κ} {σ : L2.St} {H : Hp} {Q : VK} (h : tX F kF c (fun γ => (mk γ).bind fun k => (m γ).bind fun d => .ok (d.d.get? k).isSome) σ H Q) : tDIn (tX F kF c mk) (tX F kB c m) σ H Q := by
  obtain ⟨H0, G0, G, os, γ, st, p⟩ := h
  exact ⟨H0, G0, G, os, γ, st, p.step kF fun y H1 G1 k f1 r1 p1 => ⟨H0, G0, G1, os, γ, st.ext f1, p1.step kB fun x H2 G2 d f2 ⟨q, ob, e1, e2, ps, e3, e4, e5⟩ p2 =>
    ⟨q, _, e1, .inl ⟨ps, KeyT.key k, rd_dv e2 e3, KeyT.to r1, rfl⟩, by rw [get_any e5]; exact p2 _ _ _ (Fr.refl f2.gh) rfl⟩⟩⟩
theorem tX_dnotin {m : Ctx.T c → Rs (DV κ α)} {mk : Ctx.T c → Rs κ} {σ : L2.St} {H : Hp} {Q : VK} (h : tX F kF c (fun γ => (mk γ).bind fun k => (m γ).bind fun d => .ok (!(d.d.get? k).isSome)) σ H Q) : tDNotIn (tX F kF c mk) (tX F kB c m) σ H Q := by
  obtain ⟨H0, G0, G, os, γ, st, p⟩ := h
  exact ⟨H0, G0, G, os, γ, st, p.step kF fun y H1 G1 k f1 r1 p1 => ⟨H0, G0, G1, os, γ, st.ext f1, p1.step kB fun x H2 G2 d f2 ⟨q, ob, e1, e2, ps, e3, e4, e5⟩ p2 =>
    ⟨q, _, e1, .inl ⟨ps, KeyT.key k, rd_dv e2 e3, KeyT.to r1, rfl⟩, by rw [get_any e5]; exact p2 _ _ _ (Fr.refl f2.gh) rfl⟩⟩⟩
/-- d[k] = a -/
def dputR {κ α : Type} [DecidableEq κ] (d : Dct κ α) (k : κ) (a : α) : Rs (Dct κ α) := if d.es.length < 16777216 then .ok (d.put k a) else .no
theorem s_dput {j : Nat} {m : Ctx.T c → Rs α} {mi : Ctx.T c → Rs κ} {x : Str} {p1 p2 : Pos} (hu : X.A.units + 1 < cLine) (v : Var c (.ow j (Dct κ α))) (h : PE X e (tX F kF c m)) (hi : PE X i (tX F kF c mi)) (hN : X.N[j]? = some x := by rfl) (hv : Vis X.env.scope x := by first | exact Or.inl rfl | exact Or.inr (Or.inl rfl) | exact Or.inr (Or.inr rfl))
    (hd : (x == ("__debug__" : Str)) = false := by decide) (hcd : (x == ("__classdict__" : Str)) = false := by decide)
    (hs : swapsWith e (some (.Subscript (.Name x p1) i p2)) pos.line X.env = pure false := by rfl) :
    PS X (.Assign [.Subscript (.Name x p1) i p2] e pos) (tS F c c fun γ => (m γ).bind fun a => (mi γ).bind fun k => (dputR (v.get γ) k a).bind fun ys => .ok (v.put γ ys)) :=
  ps_mono (ps_dput hu (pe_var hN hv hd hcd) hi h hs) fun D σ H ⟨H0, G0, G, os, γ, st, p⟩ => ⟨H0, G0, G, os, γ, st, p.step st kF fun va H1 G1 a f1 r1 p1 => by
    have st1 := st.ext f1
    obtain ⟨q, o, e1, e2, e3, e4⟩ := st1.write v
    refine ⟨.ref q, e1, H0, G0, G1, os, γ, st1, p1.step st1 kF fun vk H2 G2 k f2 r2 p2 => ?_⟩
    have st2 := st1.ext f2
    obtain ⟨q2, o2, d1, d2, ⟨ps, d3, d5, d6⟩, d4⟩ := st2.write v
    subst d3
    have eq : q2 = q := by rw [e1] at d1; injection d1 with d1; injection d1 with d1; injection d1 with d1; exact d1.symm
    subst eq
    have p3 : PostN F H0 G0 c D ((dputR (v.get γ) k a).bind fun ys => .ok (v.put γ ys)) := p2
    unfold dputR at p3
    by_cases hl : (v.get γ).es.length < 16777216
    · rw [if_pos hl] at p3
      have hps : ps.length < sizeLine := by rw [d6.len, sizeLine_eq]; exact hl
      have hk : vk = kV (KeyT.key k) := KeyT.to r2
      refine ⟨q2, _, rfl, .inl ⟨ps, KeyT.key k, d2, hk, hps, rfl⟩, p3 _ _ _ _ (d4 _ _ ⟨_, rfl, ?_, d6.put (by rw [← hk]; exact r2) (Rep.mono f2.g r1)⟩)⟩
      have := length_putK ps (KeyT.key k) va
      omega
    · rw [if_neg hl] at p3
      exact p3.elim⟩
end
section
variable {wd : Wd} {κ α : Type} [Rep κ] [KeyT κ] [Rep α]
def rLenDV : List V → Hp → VK → Prop := fun xs H Q => ∃ a kvs, xs = [V.ref a] ∧ Rd H a (.dK kvs) ∧ Q (.int kvs.length) H
theorem call_lenDV {X : Cx} : CallR X (.builtin "len") rLenDV := by
  intro pins s σ H xs us Q I r h
  obtain ⟨a, kvs, rfl, ha, q⟩ := h
  obtain ⟨u, rfl, ru⟩ := vals1 r
  cases ru
  exact d_len I ha fun t s' I' => ⟨.int kvs.length, H, I', ⟨t, rfl⟩, q⟩
theorem m_lenDV : Sem1 (wd := wd) kB kF (fun x => rLenDV [x]) (fun (d : DV κ α) => .ok (d.d.es.length : Int)) := by
  intro W σ B H G x d Q gh ⟨q, o, e1, e2, ps, e3, e4, e5⟩ p
  subst e1
  refine ⟨q, ps, rfl, rd_dv e2 e3, ?_⟩
  rw [e5.len]
  exact p _ _ _ (Fr.refl gh) rfl
theorem m_listDV : Sem1 (wd := wd) kB kO (fun x => (fun xs H Q => ∃ (a : Addr) (kvs : List (Key × V)), xs = [.ref a] ∧ Rd H a (.dK kvs) ∧ ∀ p, H p = none → Q (.ref p) (upd H p (.lst (kvs.map fun kv => kV kv.1))) : List V → Hp → VK → Prop) [x]) (fun (d : DV κ α) => .ok (d.d.es.map (·.1))) := by
  intro W σ B H G x d Q gh ⟨q, o, e1, e2, ps, e3, e4, e5⟩ p
  subst e1
  exact ⟨q, ps, rfl, rd_dv e2 e3, fun a nd => p _ _ _ (Fr.alloc gh nd) ⟨a, _, rfl, nd, gh.free nd, upd_same, _, rfl, by rw [List.length_map]; exact e4, e5.keyv⟩⟩
theorem m_dictDV : Sem1 (wd := wd) kB kO (fun x => (fun xs H Q => ∃ (a : Addr) (kvs : List (Key × V)), xs = [.ref a] ∧ Rd H a (.dK kvs) ∧ ∀ p, H p = none → Q (.ref p) (upd H p (.dK kvs)) : List V → Hp → VK → Prop) [x]) (fun (d : DV κ α) => .ok d.d) := by
  intro W σ B H G x d Q gh ⟨q, o, e1, e2, ps, e3, e4, e5⟩ p
  subst e1
  exact ⟨q, ps, rfl, rd_dv e2 e3, fun a nd => p _ _ _ (Fr.alloc gh nd) ⟨a, _, rfl, nd, gh.free nd, upd_same, ps, rfl, e4, e5⟩⟩
theorem keysS {G : Hp} : ∀ {ps : List (Key × V)} {es : List (Str × α)}, rkv wd G ps es → ps.map (·.1) = (es.map (·.1)).map Sum.inr
  | [], [], _ => rfl
  | _ :: _, _ :: _, ⟨⟨h1, _⟩, t⟩ => by rw [List.map_cons, List.map_cons, List.map_cons, h1, keysS t]; rfl
  | [], _ :: _, h => h.elim
  | _ :: _, [], h => h.elim
theorem keysI {G : Hp} : ∀ {ps : List (Key × V)} {es : List (Int × α)}, rkv wd G ps es → ps.map (·.1) = (es.map (·.1)).map Sum.inl
  | [], [], _ => rfl
  | _ :: _, _ :: _, ⟨⟨h1, _⟩, t⟩ => by rw [List.map_cons, List.map_cons, List.map_cons, h1, keysI t]; rfl
  | [], _ :: _, h => h.elim
  | _ :: _, [], h => h.elim
theorem keys_sok {G : Hp} : ∀ {ps : List (Key × V)} {es : List (Str × α)}, rkv wd G ps es → ∀ k ∈ es.map (·.1), SOk k
  | [], [], _, _, h => by cases h
  | _ :: _, _ :: _, ⟨⟨_, h2, _⟩, t⟩, k, m => by
    rcases List.mem_cons.mp m with e | e
    · rw [e]; exact h2.2
    · exact keys_sok t k e
  | [], _ :: _, h, _, _ => h.elim
  | _ :: _, [], h, _, _ => h.elim
theorem m_sortedDS : Sem1 (wd := wd) kB kO (fun x => (fun xs H Q => ∃ (a : Addr) (kvs : List (Key × V)) (ks : List Str), xs = [.ref a] ∧ Rd H a (.dK kvs) ∧ kvs.map (·.1) = ks.map Sum.inr ∧ ks.length < 64 ∧
    ∀ ys p, ys.Perm ks → sortedS ys = true → H p = none → Q (.ref p) (upd H p (.lst (ys.map V.str))) : List V → Hp → VK → Prop) [x]) (fun (d : DV Str α) => sortS (d.d.es.map (·.1))) := by
  intro W σ B H G x d Q gh ⟨q, o, e1, e2, ps, e3, e4, e5⟩ p
  subst e1
  unfold sortS at p
  dsimp only at p
  by_cases hl : (d.d.es.map (·.1)).length < 64
  · rw [if_pos hl] at p
    refine ⟨q, ps, _, rfl, rd_dv e2 e3, keysS e5, hl, fun ys a hp hu nd => ?_⟩
    have e := sortStr_is hp (sortedS_up hu)
    subst e
    exact p _ _ _ (Fr.alloc gh nd) ⟨a, _, rfl, nd, gh.free nd, upd_same, _, rfl, by rw [List.length_map, sortStr_len, sizeLine_eq]; omega, reps.of_strs fun z hz => keys_sok e5 z ((sortStr_perm _).mem_iff.mp hz)⟩
  · rw [if_neg hl] at p
    exact p.elim
def sortID (xs : List Int) : Rs (List Int) := if xs.length < 64 then .ok (sortI xs) else .no
theorem m_sortedDI : Sem1 (wd := wd) kB kO (fun x => (fun xs H Q => ∃ (a : Addr) (kvs : List (Key × V)) (ks : List Int), xs = [.ref a] ∧ Rd H a (.dK kvs) ∧ kvs.map (·.1) = ks.map Sum.inl ∧ ks.length < 64 ∧
    ∀ (ys : List Int) (p : Addr), ys.Perm ks → ys.Pairwise (· ≤ ·) → H p = none → Q (.ref p) (upd H p (.lst (ys.map V.int))) : List V → Hp → VK → Prop) [x]) (fun (d : DV Int α) => sortID (d.d.es.map (·.1))) := by
  intro W σ B H G x d Q gh ⟨q, o, e1, e2, ps, e3, e4, e5⟩ p
  subst e1
  unfold sortID at p
  dsimp only at p
  by_cases hl : (d.d.es.map (·.1)).length < 64
  · rw [if_pos hl] at p
    refine ⟨q, ps, _, rfl, rd_dv e2 e3, keysI e5, hl, fun ys a hp hu nd => ?_⟩
    have e := sortI_is hp hu
    subst e
    exact p _ _ _ (Fr.alloc gh nd) ⟨a, _, rfl, nd, gh.free nd, upd_same, _, rfl, by rw [List.length_map, sortI_len, sizeLine_eq]; omega, reps.of_ints⟩
  · rw [if_neg hl] at p
    exact p.elim
theorem ty_dict {K : PySem.W.Frag} {B H G : Hp} {v : V} {d : DV κ α} (_ : Same G H) (h : (kB (wd := wd)).rel B H G v d) : TyX K H v (.type "dict") := by
  obtain ⟨q, o, e1, e2, ps, e3, e4, e5⟩ := h
  subst e1
  rcases e3 with e | ⟨ob, e⟩
  · subst e; exact .base (.dK e2)
  · subst e; exact .fDict e2
/-! ### + of an own class -/
variable {X : Cx} {n : Nat} {f C : Addr} {fd : FuncData} {ps : List Str} {sp : Sp}
def rAddW (C : Addr) (sp : Sp) : R2 := fun x y H Q => ∃ a b dx dy fs gs, x = .ref a ∧ y = .ref b ∧ H a = some (.ins C dx fs) ∧ H b = some (.ins C dy gs) ∧ sp [.ref a, .ref b] H (fun v H' => (∃ p, v = .ref p) ∧ Q v H') fun _ _ _ => False
theorem op_addW (Fn : FnOk X.prog X.w X.K X.mg X.base (L2N.CX X.prog X.w) n f fd ps sp) (hs : PySem.W.findIn X.K (.ref C) "__add__" = some (some (.ref f))) (hf : PySem.W.isFn X.K (.ref f) = true) (hc : PySem.W.selfFirst X.K C = true) (room : Room n X.A) (hb : Binds X.K fd ps []) : OpR X (binaryOp .Add) (rAddW C sp) := by
  intro pins s σ H x y v u Q I rx ry hq
  obtain ⟨a, b, dx, dy, fs, gs, rfl, rfl, ha, hb', hsp⟩ := hq
  cases rx; cases ry
  obtain ⟨mA, J, _⟩ := ins_get I.hok ha
  obtain ⟨mB, J', _⟩ := ins_get I.hok hb'
  obtain ⟨od, J, _⟩ := J.look
  obtain ⟨od', J', _⟩ := J'.look
  obtain ⟨m, hF⟩ := I.fr
  show wpAny (model X.prog X.w) X.A (binaryOp .Add (.ref a) (.ref b)) (EP X pins σ Q) X.xe s
  refine PySem.W.binop_K (op := .Add) hF I.ok.mod.kin J J'.type hc hs hf ?_
  refine wpAny_mono (run_fnSD (us := [.ref a, .ref b]) (vs := [.ref a, .ref b]) (dvs := []) (ds := []) (E := fun _ _ _ _ => False) Fn room hb .nil (fun pins H s e s' I z => by
    obtain ⟨_, _, _, _, _, _, _, _, _, _, _, _, z⟩ := z
    exact z.elim) I (.cons rfl (.cons rfl .nil)) hsp) (fun r s' z => ?_) fun _ _ x => x
  obtain ⟨v, H', I', rv, ⟨p, ev⟩, q⟩ := z
  subst ev
  cases rv
  exact ⟨.ref p, H', I', rfl, q⟩
theorem m_addW {β : Type} [Own β] {Cn : String} {fl : List Str} {mf : Ctx.T [.bo 0 β, .bo 1 β] → Rs β} (Ii : IsIns Cn β fl) (hC : wd.cm Cn = C) : Sem2 (wd := wd) kB kB kO (rAddW C (spF wd (kO (β := β)) [.bo 0 β, .bo 1 β] mf)) fun a b => (mf (a, b, ())).nox := by
  intro W σ B1 B2 H G x y a b Q gh hx hy p
  obtain ⟨q, o, e1, e2, e3⟩ := hx
  obtain ⟨q', o', d1, d2, d3⟩ := hy
  obtain ⟨dx, fs, e4, e5⟩ := Ii.ins e3
  obtain ⟨dy, gs, d4, d5⟩ := Ii.ins d3
  subst hC
  refine ⟨q, q', dx, dy, fs, gs, e1, d1, by rw [e2, e4], by rw [d2, d4], rfl, G, (a, b, ()), gh, ⟨q, o, _, rfl, rfl, e2, e3, q', o', _, rfl, rfl, d2, d3, rfl⟩, ?_⟩
  dsimp only at p
  cases em : mf (a, b, ()) with
  | no => rw [em] at p; exact p
  | ex z => rw [em] at p; exact p.elim
  | ok r =>
    rw [em] at p
    exact fun H' G' v f r => ⟨let ⟨p, o, e, _⟩ := r; ⟨p, e⟩, p H' G' v f r⟩
end
theorem room2 {k : Nat} {A : Around} (r : Room k A) : A.units + 1 < cLine := by have := r.un; omega
section
variable {X : Cx} {F : Fx} {c : Ctx} {κ α : Type} [Rep κ] [KeyT κ] [Rep α] [DecidableEq κ] {e o : Expr} {pos : Pos} {m : Ctx.T c → Rs (DV κ α)} {mk : Ctx.T c → Rs κ}
theorem e_din (hu : X.A.units + 1 < cLine) (hk : PE X e (tX F kF c mk)) (h : PE X o (tX F kB c m)) (h1 : behindInMarks .In o = false := by first | exact nomark _ | rfl) : PE X (.Compare e [.In] [o] pos) (tX F kF c fun γ => (mk γ).bind fun k => (m γ).bind fun d => .ok (d.d.get? k).isSome) :=
  pe_mono (pe_cmp (pc_din hu hk h) h1) fun σ H Q q => tX_din q
theorem e_dnotin (hu : X.A.units + 1 < cLine) (hk : PE X e (tX F kF c mk)) (h : PE X o (tX F kB c m)) (h1 : behindInMarks .NotIn o = false := by first | exact nomark _ | rfl) : PE X (.Compare e [.NotIn] [o] pos) (tX F kF c fun γ => (mk γ).bind fun k => (m γ).bind fun d => .ok (!(d.d.get? k).isSome)) :=
  pe_mono (pe_cmp (pc_dnotin hu hk h) h1) fun σ H Q q => tX_dnotin q
theorem q_din (hu : X.A.units + 1 < cLine) (hk : PE X e (tX F kF c mk)) (h : PE X o (tX F kB c m)) (h1 : behindInMarks .In o = false := by first | exact nomark _ | rfl) : PT X (.Compare e [.In] [o] pos) (tQ F c fun γ => (mk γ).bind fun k => (m γ).bind fun d => .ok (d.d.get? k).isSome) :=
  pt_mono (pt_cmp (pc_din hu hk h) h1) fun σ H Q q => tX_din q
theorem q_dnotin (hu : X.A.units + 1 < cLine) (hk : PE X e (tX F kF c mk)) (h : PE X o (tX F kB c m)) (h1 : behindInMarks .NotIn o = false := by first | exact nomark _ | rfl) : PT X (.Compare e [.NotIn] [o] pos) (tQ F c fun γ => (mk γ).bind fun k => (m γ).bind fun d => .ok (!(d.d.get? k).isSome)) :=
  pt_mono (pt_cmp (pc_dnotin hu hk h) h1) fun σ H Q q => tX_dnotin q
end
end Wm
set_option Elab.async false
set_option linter.all false
set_option maxRecDepth 100000
set_option maxHeartbeats 4000000
namespace Wm
open PySem PySem.Spec PyProof.Rows L2
open Rep (rep)
open Own (own)
/-! ### enumerate of a tuple -/
abbrev itO (l : Addr) : Obj := { cls := .type "tuple_iterator", data := .fields #[.ref l, .int 0 0] }
abbrev enO (n : Addr) : Obj := { cls := .type "enumerate", data := .fields #[.none, .bool false, .ref n, rawInt 0, .none, .none] }
open AutoSeq1 (wpAny_loadPart') in
theorem enT_new (l : Addr) (its : Array Value) (n : Nat) (dct : Option Addr) (sl : Array (Option Value)) :
    Meets (Builtin.«enumerate.__new__» ⟨[.type "enumerate", .ref l], []⟩) (fun _ R s =>
      s.heap.get? l = some ⟨.type "tuple", dct, .seq its n, sl⟩ ∧ R (.ok (.ret (.ref (s.heap.push (itO l)).objs.size))) { s with heap := (s.heap.push (itO l)).push (enO s.heap.objs.size) }) :=
  .of_wp fun prog w A R s ⟨q, h⟩ => by
    obtain ⟨hp, g, d, tk, os⟩ := s
    have z := sub_enumerate
    have hT : Heap.IsTuple (Shared.heap ⟨hp, g, d, tk, os⟩) l its := ⟨_, q, rfl, n, rfl⟩
    wp_walk using wpAny_loadPart' q
    refine wpAny_stack_any fun _ => wpAny_pure ?_
    split
    · rename_i k _ _ _ _ _
      cases (k == Value.type "enumerate") <;> (wp_walk using wpAny_loadPart' q, wpAny_pyIter_tuple hT; exact ⟨_, rfl, h⟩)
    · wp_walk using wpAny_loadPart' q, wpAny_pyIter_tuple hT
      exact ⟨_, rfl, h⟩
section
variable {prog : Program} {w : World} {A : Around} {E : Value → Shared → Prop} {s : Shared}
theorem call_enT {l : Addr} {its : Array Value} {Q : Value → Shared → Prop} (hT : s.heap.IsTuple l its)
    (h : ∀ h', IsEnum h' (s.heap.objs.size + 1) s.heap.objs.size 0 .none → h'.IsTupleIter s.heap.objs.size l 0 → (∀ b o, s.heap.get? b = some o → h'.get? b = some o) → Q (.ref (s.heap.objs.size + 1)) { s with heap := h' }) :
    wpAny (model prog w) A (call (.type "enumerate") [.ref l]) Q E s := by
  obtain ⟨⟨c, dct, dt, sl⟩, q, hc, n, hd⟩ := hT
  obtain rfl : c = .type "tuple" := hc
  obtain rfl : dt = .seq its n := hd
  refine callType_new F.called_enumerate (by decide) (F.typeCall_enumerate_1 _) (F.newCall_enumerate_1 _) (fun ob => F.args_object_init_2 ob _) F.entry_enumerate_new (enT_new l its n dct sl) ⟨q, ?_⟩
  have z : (s.heap.push (itO l)).objs.size = s.heap.objs.size + 1 := Heap.size_push ..
  have g1 : ((s.heap.push (itO l)).push (enO s.heap.objs.size)).get? (s.heap.objs.size + 1) = some (enO s.heap.objs.size) := by
    have := Heap.get?_push_size (s.heap.push (itO l)) (o := enO s.heap.objs.size) rfl
    rwa [z] at this
  show _ ∧ _
  rw [z]
  exact ⟨⟨_, g1, rfl⟩, h _ g1 ⟨_, Heap.get?_push_of_some _ (Heap.get?_push_size _ rfl), rfl, rfl⟩ fun b o e => Heap.get?_push_of_some _ (Heap.get?_push_of_some _ e)⟩
end
section
variable {prog : Program} {w : World} {A : Around} {E : Value → Shared → Prop} {s : Shared}
theorem pyNext_enT_end {e it t : Addr} {i : Nat} {its : Array Value} {old : Value} {Q : Option Value → Shared → Prop} (hh : A.handled = none) (he : IsEnum s.heap e it i old) (hit : s.heap.IsTupleIter it t i) (hl : s.heap.IsTuple t its) (hx : its[i]? = none)
    (k : ∀ h', Heap.ExtBut it s.heap h' → Q none { s with heap := h' }) : wpAny (model prog w) A (pyNext (.ref e)) Q E s := by
  have ty : s.TypeIs (.ref e) "enumerate" := ⟨_, he, rfl⟩
  unfold pyNext
  refine wpAny_bind (wpAny_attempt (wpAny_callSpecial?_slot (name := Str.ofString "__next__") ty F.slot_enumerate_next (wpAny_call_entry F.slot_enumerate_next ty F.entry_enumerate_next ?_ (F.args_enumerate_next_1 _))))
  show wpAny _ _ (field (.ref e) 2 >>= _) _ _ _
  refine wpAny_bind (wpAny_field he rfl (x := .ref it) rfl (wpAny_bind (wpAny_nextOf_tuple_end hh hit hl hx fun h' x eb ⟨o, ho, hc⟩ => ?_)))
  exact wpAny_bind (wpAny_isInstance (T := "StopIteration") (b := true) ⟨o, ho, hc⟩ isSubtype_stop (wpAny_pure (k _ eb)))
end
/-- the tuple at a, each item in a new pair -/
def ItT (K : PySem.W.Frag) (a : Addr) : It :=
  ⟨fun i H => ∃ (xs : List V) (x : V), SqT K H a xs ∧ xs[i]? = some x, fun i H v H' => ∃ t x, v = .ref t ∧ H t = none ∧ H' = upd H t (.tup [.int (i : Nat), x]) ∧ ∀ xs, SqT K H a xs → xs[i]? = some x, fun i H => ∃ xs : List V, SqT K H a xs ∧ xs.length ≤ i⟩
theorem turn_enT {P : Program} {w : World} {K : PySem.W.Frag} {elts : List Expr} {kk : Nat} {tpos : Pos} (a e it : Addr) (h1 : e ≠ it) (h2 : a ≠ it) (h3 : a ≠ e) :
    Turn P w K (.Tuple elts kk tpos) (ItT K a) [e, it] e (fun i h => (∃ old, IsEnum h e it ((i : Nat) : Int) old) ∧ h.IsTupleIter it a i) where
  mem := List.mem_cons_self
  obj := fun i h st b hb => by
    obtain ⟨⟨old, he⟩, o, ho, hc, hd⟩ := st
    rcases List.mem_cons.mp hb with z | z
    · subst z; exact ⟨_, he, fun v q => nomatch q⟩
    · rw [List.mem_singleton.mp z]; exact ⟨o, ho, fun v q => by rw [hd] at q; cases q⟩
  keep := fun i h h' ⟨⟨old, he⟩, hi⟩ k => ⟨⟨old, k e List.mem_cons_self _ he⟩, hi.at fun o q => k it (List.mem_cons_of_mem _ List.mem_cons_self) o q⟩
  item := by
    intro X hP hw hK hc i pins s σ H E I hf st hg
    subst hP; subst hw; subst hK
    obtain ⟨⟨old, he⟩, hit⟩ := st
    obtain ⟨xs, x, hq, hx⟩ := hg
    obtain ⟨its, rv, p, hz⟩ := I.tuple hq
    have hlt : i < its.toArray.size := by
      have := (List.getElem?_eq_some_iff.mp hx).1
      rw [rv.length] at this
      simpa using this
    have le := Heap.lt_size he
    have li : it < s.heap.objs.size := let ⟨_, q, _⟩ := hit; Heap.lt_size q
    refine wpAny_pyNext_enum_itemD (Draws.tuple (A := X.A.in1) (I.ok.hd hc) it a h2 its.toArray) he ⟨hit, p⟩ hlt h1 (by simp [h1, Ne.symm h3]) fun v h' tk hv ho hst hT hsz hk => ?_
    have hu : its[i]? = some v := by simpa using hv
    obtain ⟨u, hu2, ru⟩ := rv.get hx
    obtain rfl : u = v := Option.some.inj (hu2.symm.trans hu)
    refine ⟨_, rfl, wpAny_letOwnedTupleGo_enum (s := { s with heap := h', toks := tk + 1 }) ho fun h'' he' sb => ?_⟩
    have keepO : ∀ b, b ≠ e → b ≠ it → ∀ ob, s.heap.get? b = some ob → h''.get? b = some ob := fun b n1 n2 ob q => (sb.2 b n1).trans (hk b ob n1 n2 q)
    have hT2 : h''.get? s.heap.objs.size = some { cls := .type "tuple", data := .seq #[.int i tk, u] } := (sb.2 _ (Nat.ne_of_gt le)).trans hT
    have J : Inv X pins σ (upd H s.heap.objs.size (.tup [.int (i : Nat), x])) { s with heap := h'', toks := tk + 1 } :=
      I.turnedNew (ch := [e, it]) (fun b ob hb q => keepO b (fun z => hb (by simp [z])) (fun z => hb (by simp [z])) ob q) hf (Nat.le_refl _) ⟨by show 2 ≤ sizeLine; decide, [.int i tk, u], .cons ⟨_, rfl⟩ (.cons ru .nil), ⟨_, hT2, rfl, _, rfl⟩⟩
    refine ⟨.ref s.heap.objs.size, _, J, rfl, ⟨_, x, rfl, I.hok.fresh (Nat.le_refl _), rfl, fun ys hy => by rw [I.tuple_inj hy hq]; exact hx⟩, ⟨⟨u, by rw [show ((i + 1 : Nat) : Int) = (i : Int) + 1 by omega]; exact he'⟩, hst.1.at fun o q => (sb.2 it (Ne.symm h1)).trans q⟩, fun b hb => ?_⟩
    have hb' : b < s.heap.objs.size := by
      rcases List.mem_cons.mp hb with z | z
      · rw [z]; exact le
      · rw [List.mem_singleton.mp z]; exact li
    rw [upd_ne (Nat.ne_of_lt hb')]
    exact (hf b hb).1
  done := by
    intro X hP hw hK hc i pins s σ H E I hf st hg
    subst hP; subst hw; subst hK
    obtain ⟨⟨old, he⟩, hit⟩ := st
    obtain ⟨xs, hq, hx⟩ := hg
    obtain ⟨its, rv, p, hz⟩ := I.tuple hq
    have hl := rv.length
    obtain ⟨f0, f1, _, f3, f4, f5⟩ := hf it (List.mem_cons_of_mem _ List.mem_cons_self)
    exact pyNext_enT_end (I.ok.hd hc) he hit p (by simp; omega) fun h' eb => ⟨rfl, I.turned (t' := s.toks) (fun b o hb q => eb b o hb q) f0 f1 f3 f4 f5⟩
  self := fun A i s Q E ⟨⟨_, he⟩, _⟩ h => wpAny_pyIter_enum he h
def iEnT (K : PySem.W.Frag) (ta : TA) : TI := fun σ H R => ta σ H fun vs H1 => ∃ a xs, vs = [.ref a] ∧ SqT K H1 a xs ∧ R (ItT K a) H1
theorem pi_enT {X : Cx} {e : Expr} {ta : TA} {p pos tpos : Pos} {elts : List Expr} {kk : Nat} (hg : Gl X "enumerate") (hm : X.mg "enumerate" = none) (ha : PA X [e] ta) (hs : starEach [e] X.env = [(false, eval e X.env)] := by rfl) :
    PI X (.Tuple elts kk tpos) (.Call (.Name "enumerate" p) [e] [] pos) (iEnT X.K ta) := by
  refine ⟨fun pins s σ H R I h => ?_⟩
  refine Call_ (ld_blt I hg hm boot_enumerate (PyProof.Rows.callWith_type1 (thn (ha.run pos pins s σ H _ I h) fun us t ⟨vs, H1, J, r1, a, xs, ex, hq, q⟩ => ?_) hs rfl))
  subst ex
  cases r1 with
  | cons r rr =>
    cases rr; cases r
    obtain ⟨its, rv, tp, hz⟩ := J.tuple hq
    have la : a < t.heap.objs.size := let ⟨_, q, _⟩ := tp; Heap.lt_size q
    refine call_enT tp fun h' he hit hk => wpAny_pyIter_enum he ?_
    have J2 : Inv X pins σ H1 { t with heap := h' } := J.kept (t' := t.toks) hk
    refine ⟨t.heap.objs.size + 1, [t.heap.objs.size + 1, t.heap.objs.size], _, _, H1, rfl, J2, turn_enT a (t.heap.objs.size + 1) t.heap.objs.size (Nat.succ_ne_self _) (Nat.ne_of_lt la) (Nat.ne_of_lt (Nat.lt_succ_of_lt la)), ⟨⟨.none, he⟩, hit⟩, fun b hb => ?_, q⟩
    have lb : t.heap.objs.size ≤ b := by
      rcases List.mem_cons.mp hb with z | z
      · rw [z]; exact Nat.le_succ _
      · rw [List.mem_singleton.mp z]; exact Nat.le_refl _
    exact J.fpOk lb (J.hok.fresh lb)
theorem wk_enT {K : PySem.W.Frag} {wd : Wd} {α : Type} [Rep α] {p : Addr} {vs : List V} {B G1 : Hp} {xs : List α} (hp : B p = some (.tup vs)) (r : reps wd G1 vs xs) : Wk wd (ItT K p) B G1 (enumI xs) where
  stop := fun i H s hi => ⟨vs, .of (s _ _ hp), by rw [r.len]; rw [enumI_len] at hi; exact hi⟩
  go := fun i H a s ha => let ⟨v, hv, _⟩ := r.get (enumI_get.mp ha).2; ⟨vs, v, .of (s _ _ hp), hv⟩
  yld := fun i H G x H' a s g gh ha ⟨T, y, ex, nT, eH, hy⟩ => by
    subst eH
    obtain ⟨a1, a2⟩ := enumI_get.mp ha
    obtain ⟨v, hv, hr⟩ := r.get a2
    obtain rfl : v = y := Option.some.inj (hv.symm.trans (hy vs (.of (s _ _ hp))))
    have gT : G T = none := gh.free nT
    exact ⟨upd G T _, (Fr.alloc gh nT).freeze nT gT upd_same, T, _, ex, upd_same, .int (i : Nat), v, rfl, by rw [a1]; rfl, Rep.mono (Same.upd' g (g.free gT)) hr⟩
theorem i_enumT {X : Cx} {F : Fx} {c : Ctx} {α : Type} [Rep α] {fr : Bs} (hfr : fr = .g ∨ fr = .h) {e : Expr} {m : Ctx.T c → Rs (Tup α)} {p pos tpos : Pos} {elts : List Expr} {kk : Nat} (hK : F.wd.K = X.K) (hg : Gl X "enumerate") (hm : X.mg "enumerate" = none) (h : PE X e (tX F kF c m)) (he : starEach (e :: []) X.env = (false, eval e X.env) :: starEach [] X.env := by rfl) (hs : starEach [e] X.env = [(false, eval e X.env)] := by rfl) :
    PI X (.Tuple elts kk tpos) (.Call (.Name "enumerate" p) [e] [] pos) (tI F fr c fun γ => (m γ).bind fun t => .ok (enumI t.items)) :=
  pi_mono (pi_enT hg hm (pa_cons h pa_nil he) hs) fun σ H Rr q => tI_of (k := kF) q (fun v H0 H1 G1 b h0 gh ⟨p, o, e1, e2, vs, e3, e4, r⟩ w => by
    subst e3
    refine ⟨p, vs, by rw [e1], .of (gh _ _ e2), w _ (wk_enT ?_ r)⟩
    rcases hfr with z | z
    · subst z; exact e2
    · subst z; exact gh _ _ e2) fun _ _ z => nomatch z
/-! ### list(range(a, b, -1)) -/
def downV (a b : Int) : List V := (List.range (a - b).toNat).map fun i => V.int (a + (i : Nat) * (-1))
theorem downV_len (a b : Int) : (downV a b).length = (a - b).toNat := by unfold downV; rw [List.length_map, List.length_range]
theorem downV_rng (a b : Int) : downV a b = (rngD a b).map V.int := by
  unfold downV rngD
  rw [List.map_map]
  apply List.map_congr_left
  intro i _
  show V.int (a + (i : Nat) * (-1)) = V.int (a - (i : Int))
  congr 1
  omega
theorem vals_down {a b : Int} {acc : Array Value} (h : ItemsOf (fun i v => ∃ t, v = .int (a + i * (-1)) t) acc (a - b).toNat) : Vals (downV a b) acc.toList := by
  have e : acc.toList.length = (a - b).toNat := by rw [Array.length_toList]; exact h.1
  unfold downV
  rw [← e]
  refine vals_of_get acc.toList _ fun j u hj => ?_
  obtain ⟨t, q⟩ := h.2 j u (by rw [← hj, Array.getElem?_toList])
  exact ⟨t, q⟩
def tDown (t : TA) : TE := fun σ H Q => t σ H fun vs H1 => ∃ a b : Int, vs = [.int a, .int b, .int (-1)] ∧ -(2 ^ 62) ≤ a ∧ a < 2 ^ 62 ∧ -(2 ^ 62) ≤ b ∧ b < 2 ^ 62 ∧ (a - b).toNat ≤ 2 ^ 24 ∧ ∀ q, H1 q = none → Q (.ref q) (upd H1 q (.lst (downV a b)))
theorem pe_listDown {X : Cx} {x y z : Expr} {t : TA} {p p2 pos pos2 : Pos} (hc : X.calm = true) (hl : X.mg "list" = none) (hm : X.mg "range" = none) (hgl : Gl X "list") (hg : Gl X "range") (ha : PA X [x, y, z] t)
    (hs : starEach [x, y, z] X.env = (false, eval x X.env) :: starEach [y, z] X.env) (hpl : (backTo pos2 (starEach [y, z] X.env)).any (·.1) = false) (ne : starEach [.Call (.Name "range" p2) [x, y, z] [] pos2] X.env = (false, eval (.Call (.Name "range" p2) [x, y, z] [] pos2) X.env) :: starEach [] X.env) :
    PE X (.Call (.Name "list" p) [.Call (.Name "range" p2) [x, y, z] [] pos2] [] pos) (tDown t) := by
  refine ⟨fun pins s σ H Q I h => ?_⟩
  have one : wpAny (model X.prog X.w) X.A (eval (.Call (.Name "range" p2) [x, y, z] [] pos2) X.env) (fun u s' => ∃ r a b t1 t2 t3 H', u = .ref r ∧ IsRange s'.heap r a b (-1) t1 t2 t3 ∧ Inv X pins σ H' s' ∧ -(2 ^ 62) ≤ a ∧ a < 2 ^ 62 ∧ -(2 ^ 62) ≤ b ∧ b < 2 ^ 62 ∧ (a - b).toNat ≤ 2 ^ 24 ∧ ∀ q, H' q = none → Q (.ref q) (upd H' q (.lst (downV a b)))) X.xe s := by
    refine Call_ (ld_blt I hg hm boot_range (PyProof.Rows.callWith_type1 (thn (ha.run pos2 pins s σ H _ I h) fun us s1 ⟨vs, H1, J, r1, a, b, e, a0, a1, b0, b1, hz, q⟩ => ?_) hs hpl))
    subst e
    cases r1 with
    | cons r rr =>
      cases rr with
      | cons r' rr =>
        cases rr with
        | cons r'' rr =>
          cases rr
          obtain ⟨t1, rfl⟩ := r
          obtain ⟨t2, rfl⟩ := r'
          obtain ⟨t3, rfl⟩ := r''
          exact call_range_3 (by decide) ⟨_, a, b, t1, t2, t3, H1, rfl, IsRange.new .., J.kept (t' := s1.toks) fun c o e => Heap.get?_push_of_some _ e, a0, a1, b0, b1, hz, q⟩ (.inl (PyProof.noPylong_small (by decide)))
  refine Call_ (ld_blt I hgl hl boot_list (PyProof.Rows.callWith_type1 (args_cons (thn one fun u s1 ⟨r, a, b, t1, t2, t3, H1, ex, hr, J, a0, a1, b0, b1, hz, q⟩ => args_nil ?_) ne) ne))
  subst ex
  refine call_list_range (n := (a - b).toNat) (J.ok.hd hc) hr (PySem.W.small_down a0 a1 b0 b1) (PySem.W.rangeSize_downNat a b) hz fun h' tk acc c' hk e' hi => ?_
  refine ⟨.ref s1.heap.objs.size, upd H1 s1.heap.objs.size (.lst (downV a b)), J.laid hk (Nat.le_refl _) (show ObjOk X.prog X.w _ _ _ (.lst (downV a b)) from ⟨?_, acc.toList, c', vals_down hi, ?_⟩), rfl, q _ (J.hok.fresh (Nat.le_refl _))⟩
  · rw [downV_len, sizeLine_eq]; omega
  · rw [Array.toArray_toList]; exact e'
def RngDL (a b : Int) : Rs (List Int) := if -4611686018427387904 ≤ a ∧ a ≤ 4611686018427387903 ∧ -4611686018427387904 ≤ b ∧ b ≤ 4611686018427387903 ∧ (a - b).toNat ≤ 16777216 then .ok (rngD a b) else .no
theorem e_listRD {X : Cx} {F : Fx} {c : Ctx} {x y : Expr} {ma mb : Ctx.T c → Rs Int} {j : Nat} {p p2 p3 p4 pos pos2 : Pos} (hc : X.calm = true) (hl : X.mg "list" = none) (hm : X.mg "range" = none) (ha : PE X x (tX F kF c ma)) (hb : PE X y (tX F kF c mb)) (hgl : Gl X "list" := by rfl) (hg : Gl X "range" := by rfl)
    (na : starEach (x :: y :: .UnaryOp .USub (.Constant (.int 1) j p3) p4 :: []) X.env = (false, eval x X.env) :: starEach (y :: .UnaryOp .USub (.Constant (.int 1) j p3) p4 :: []) X.env := by rfl) (nb : starEach (y :: .UnaryOp .USub (.Constant (.int 1) j p3) p4 :: []) X.env = (false, eval y X.env) :: starEach (.UnaryOp .USub (.Constant (.int 1) j p3) p4 :: []) X.env := by rfl)
    (nc : starEach ((Expr.UnaryOp .USub (.Constant (.int 1) j p3) p4) :: []) X.env = (false, eval (.UnaryOp .USub (.Constant (.int 1) j p3) p4) X.env) :: starEach [] X.env := by rfl) (hpl : (backTo pos2 (starEach [y, .UnaryOp .USub (.Constant (.int 1) j p3) p4] X.env)).any (·.1) = false := by rfl)
    (ne : starEach [.Call (.Name "range" p2) [x, y, .UnaryOp .USub (.Constant (.int 1) j p3) p4] [] pos2] X.env = (false, eval (.Call (.Name "range" p2) [x, y, .UnaryOp .USub (.Constant (.int 1) j p3) p4] [] pos2) X.env) :: starEach [] X.env := by rfl) :
    PE X (.Call (.Name "list" p) [.Call (.Name "range" p2) [x, y, .UnaryOp .USub (.Constant (.int 1) j p3) p4] [] pos2] [] pos) (tX F kO c fun γ => (ma γ).bind fun a => (mb γ).bind fun b => RngDL a b) :=
  pe_mono (pe_listDown hc hl hm hgl hg (pa_cons ha (pa_cons hb (pa_cons (pe_un un_neg pe_int) pa_nil nc) nb) na) na hpl ne) fun σ H Q ⟨H0, G0, G, os, γ, st, p⟩ => ⟨H0, G0, G, os, γ, st, p.step kF fun v H1 G1 a f1 r1 p1 => ⟨H0, G0, G1, os, γ, st.ext f1, p1.step kF fun w H2 G2 b f2 r2 p2 => by
    obtain rfl : v = .int a := r1
    obtain rfl : w = .int b := r2
    unfold RngDL at p2
    by_cases hz : -4611686018427387904 ≤ a ∧ a ≤ 4611686018427387903 ∧ -4611686018427387904 ≤ b ∧ b ≤ 4611686018427387903 ∧ (a - b).toNat ≤ 16777216
    · rw [if_pos hz] at p2
      refine ⟨1, rfl, a, b, rfl, by omega, by omega, by omega, by omega, by omega, fun d nd => p2 _ _ _ (Fr.alloc f2.gh nd) ⟨d, _, rfl, nd, f2.gh.free nd, upd_same, _, rfl, by rw [downV_len, sizeLine_eq]; exact hz.2.2.2.2, ?_⟩⟩
      rw [downV_rng]
      exact reps.of_ints
    · rw [if_neg hz] at p2
      exact p2.elim⟩⟩
end Wm
set_option Elab.async false
set_option linter.all false
set_option maxRecDepth 100000
set_option maxHeartbeats 4000000
namespace L2
open PySem PySem.Spec PyProof.Rows
/-! ### xs[1::-1] -/
def rev2 {α : Type} (xs : List α) : List α := (xs.take 2).reverse
theorem rev2_pick (items : Array Value) : slicePick items (some 1) none (some (-1)) = (rev2 items.toList).toArray := by
  rcases items with ⟨l⟩
  match l with
  | [] => rfl
  | [a] =>
    unfold slicePick
    have e : sliceBounds (some 1) none (some (-1)) ([a] : List Value).toArray.size = (0, -1, -1) := by
      show sliceBounds (some 1) none (some (-1)) 1 = _
      first | decide +kernel | (simp [sliceBounds]; done)
    rw [e]
    rfl
  | a :: b :: t =>
    unfold slicePick
    have e : sliceBounds (some 1) none (some (-1)) (a :: b :: t).toArray.size = (1, -1, -1) := by
      have : (a :: b :: t).toArray.size = t.length + 2 := by simp
      rw [this]
      simp [sliceBounds]
      try omega
    rw [e]
    rfl
def tRev2L (K : PySem.W.Frag) (te : TE) : TE := fun σ H Q => te σ H fun x H1 => ∃ a xs, x = .ref a ∧ SqL K H1 a xs ∧ ∀ p, H1 p = none → Q (.ref p) (upd H1 p (.lst (rev2 xs)))
variable {X : Cx}
theorem pe_rev2L {e : Expr} {te : TE} {k kl : Nat} {pl0 p1 p2 p3 pos : Pos} (he : PE X e te) : PE X (.Subscript e (.Slice (some (.Constant (.int 1) kl pl0)) none (some (.UnaryOp .USub (.Constant (.int 1) k p1) p2)) p3) pos) (tRev2L X.K te) := by
  refine ⟨fun pins s σ H Q I h => ?_⟩
  refine Subscript_ (thn (he.run pins s σ H _ I h) fun v s1 ⟨x, H1, I1, r1, q1⟩ => ?_)
  obtain ⟨a, xs, ex, hx, q⟩ := q1
  subst ex
  cases r1
  have hst : PO X (some (.UnaryOp .USub (.Constant (.int 1) k p1) p2)) (tPart (tUn (rU fun i => .int (-i)) (tC (.int 1)))) := po_some (pe_un un_neg pe_int)
  have hlo : PO X (some (.Constant (.int 1) kl pl0)) (tPart (tC (.int 1))) := po_some pe_int
  refine wpAny_Slice (thn (hlo.run pins s1 σ H1 (fun o H2 => o = some 1 ∧ H2 = H1) I1 ⟨1, rfl, rfl, rfl⟩) fun vl s2 ⟨l, H2, I2, pl, el, e2⟩ => ?_)
  subst el e2
  refine thn (po_none.run pins s2 σ H2 (fun o H3 => o = none ∧ H3 = H2) I2 ⟨rfl, rfl⟩) fun vu s3 ⟨u, H3, I3, pu, eu, e3⟩ => ?_
  subst eu e3
  refine thn (hst.run pins s3 σ H3 (fun o H4 => o = some (-1) ∧ H4 = H3) I3 ⟨1, rfl, -1, rfl, rfl, rfl⟩) fun vs s4 ⟨o, H4, I4, ps, eo, e4⟩ => ?_
  subst eo e4
  have I5 : Inv X pins σ H4 { s4 with heap := s4.heap.push { cls := .type "slice", data := .fields #[vl, vu, vs] } } := I4.kept (t' := s4.toks) fun b ob q => Heap.get?_push_of_some _ q
  obtain ⟨its, r, ht, hz⟩ := I5.list hx
  have hlen := r.length
  show wpAny (model X.prog X.w) X.A (subscriptTail e (.Slice (some (.Constant (.int 1) kl pl0)) none (some (.UnaryOp .USub (.Constant (.int 1) k p1) p2)) p3) (.ref a) (.ref s4.heap.objs.size)) (EP X pins σ Q) X.xe { s4 with heap := s4.heap.push { cls := .type "slice", data := .fields #[vl, vu, vs] } }
  refine tail_any (ops := [.ref a, .ref s4.heap.objs.size]) ht.isList.typeIs (PySem.slot_list_getitem.lookup) ?_ (by with_unfolding_all rfl)
  refine wpAny_getItem_list_slice ht.isList (Heap.IsSliceOf.new _ vl vu vs) pl pu ps (by decide) ?_ (by rw [List.size_toArray]; omega)
  rw [rev2_pick]
  have e2 : (rev2 xs).length ≤ xs.length := by unfold rev2; rw [List.length_reverse, List.length_take]; omega
  refine ⟨.ref _, _, I5.laid (t' := s4.toks) (o := .lst (rev2 xs)) (fun b ob q => Heap.get?_push_of_some _ q) (Nat.le_refl _) ?_, rfl, q _ (I5.hok.fresh (Nat.le_refl _))⟩
  refine ⟨by omega, _, 0, ?_, Heap.get?_push_size _ rfl⟩
  exact (r.take 2).reverse
end L2
namespace Wm
open PySem PySem.Spec PyProof.Rows L2
open Rep (rep)
open Own (own)
section
variable {X : Cx} {F : Fx} {c : Ctx} {α : Type} {e : Expr}
theorem e_rev2 [Rep α] {m : Ctx.T c → Rs (List α)} {k kl : Nat} {pl0 p1 p2 p3 pos : Pos} (hK : F.wd.K = X.K) (h : PE X e (tX F kB c m)) : PE X (.Subscript e (.Slice (some (.Constant (.int 1) kl pl0)) none (some (.UnaryOp .USub (.Constant (.int 1) k p1) p2)) p3) pos) (tX F kO c fun γ => (m γ).bind fun x => .ok (rev2 x)) :=
  pe_mono (pe_rev2L h) fun σ H Q ⟨H0, G0, G, os, γ, st, p⟩ => ⟨H0, G0, G, os, γ, st, by
    cases e : m γ with
    | no => dsimp only at p; rw [e] at p; exact p
    | ex x => dsimp only at p; rw [e] at p; exact p
    | ok b =>
      dsimp only at p; rw [e] at p
      exact fun H1 G1 v f1 ⟨q, o, e1, e2, vs, e3, e4, r⟩ => by
        subst e1; subst e3
        have e5 : (rev2 vs).length ≤ vs.length := by unfold rev2; rw [List.length_reverse, List.length_take]; omega
        refine ⟨q, vs, rfl, .of e2, fun d nd => p _ G1 _ (f1.trans (Fr.alloc f1.gh nd)) ⟨d, _, rfl, f1.h.free nd, f1.gh.free nd, upd_same, _, rfl, by omega, (reps.rev (reps.take 2 r))⟩⟩⟩
/-! ### tuple + tuple -/
def catA {α : Type} (a b : Tup α) : Rs (Tup α) := if a.items.length + b.items.length ≤ 16777216 then .ok (Tup.mk (a.items ++ b.items)) else .no
variable {wd : Wd} {K : PySem.W.Frag}
theorem m_catA [Rep α] : Sem2 (wd := wd) kF kF kF (rCatA K) (fun (a b : Tup α) => catA a b) := by
  intro W σ B1 B2 H G x y a b Q gh ⟨q, o, e1, e2, vs, e3, e4, r⟩ ⟨q', o', d1, d2, ws, d3, d4, r'⟩ p
  subst e1; subst e3; subst d1; subst d3
  have p' : Post W kF σ H G Q (catA a b) := p
  unfold catA at p'
  by_cases h : a.items.length + b.items.length ≤ 16777216
  · rw [if_pos h] at p'
    have hz : vs.length + ws.length ≤ sizeLine := by rw [r.len, r'.len, sizeLine_eq]; exact h
    refine ⟨q, q', vs, ws, rfl, rfl, .of (gh _ _ e2), .of (gh _ _ d2), hz, fun z => ?_, fun z1 z2 => ?_, fun _ _ d nd => ?_⟩
    · subst z
      exact p' H G _ (Fr.refl gh) ⟨q', _, rfl, d2, ws, rfl, d4, by
        have := r.len
        have e : a.items = [] := List.eq_nil_of_length_eq_zero this.symm
        show reps wd G ws (a.items ++ b.items)
        rw [e]; exact r'⟩
    · subst z2
      exact p' H G _ (Fr.refl gh) ⟨q, _, rfl, e2, vs, rfl, e4, by
        have := r'.len
        have e : b.items = [] := List.eq_nil_of_length_eq_zero this.symm
        show reps wd G vs (a.items ++ b.items)
        rw [e, List.append_nil]; exact r⟩
    · exact p' _ _ _ ((Fr.alloc gh nd).freeze nd (gh.free nd) upd_same) ⟨d, _, rfl, upd_same, _, rfl, by rw [List.length_append]; exact hz, (r.app r').mono (Same.upd' (Same.refl _) (gh.free nd))⟩
  · rw [if_neg h] at p'
    exact p'.elim
end
end Wm
set_option Elab.async false
set_option linter.all false
set_option maxRecDepth 100000
set_option maxHeartbeats 4000000
/-! break and continue -/
namespace Wm
open PySem PySem.Spec PyProof.Rows L2
open Rep (rep)
open Own (own)
/-- a block in a loop with the context cl: what follows; (true, γ): a break; (false, γ): a continue -/
def PostE (F : Fx) (cl : Ctx) (H0 G0 : Hp) (c : Ctx) (D : Ends) : Rs (Ctx.T c ⊕ (Bool × Ctx.T cl)) → Prop
  | .ok (.inl γ) => ∀ σ H G os, Stt F.wd F.n H0 G0 σ H G os c γ → D.nx σ H
  | .ok (.inr (b, γ)) => ∀ σ H G os, Stt F.wd F.n H0 G0 σ H G os cl γ → if b = true then D.bk σ H else D.ct σ H
  | .ex x => ∀ d σ H G, F.n.P σ → Fr H0 G0 H G → RepX G d x → F.W (.ref (F.wd.cm x.cls)) d σ H
  | .no => False
def tE (F : Fx) (cl c c' : Ctx) (m : Ctx.T c → Rs (Ctx.T c' ⊕ (Bool × Ctx.T cl))) : TS := fun D σ H => ∃ H0 G0 G os γ, Stt F.wd F.n H0 G0 σ H G os c γ ∧ PostE F cl H0 G0 c' D (m γ)
section
variable {F : Fx} {α : Type} {k : Kd F.wd α} {H0 G0 H G : Hp} {σ : L2.St} {cl c c' : Ctx} {D D' : Ends} {Q : VK} {r : Rs α}
theorem PostE.step {f : α → Rs (Ctx.T c' ⊕ (Bool × Ctx.T cl))} {n9 : Ctx} {os9 : List Addr} {γ9 : Ctx.T n9} (h : PostE F cl H0 G0 c' D (r.bind f)) (s : Stt F.wd F.n H0 G0 σ H G os9 n9 γ9) (k : Kd F.wd α) (i : ∀ v H1 G1 a, Fr H G H1 G1 → k.rel H H1 G1 v a → PostE F cl H0 G0 c' D (f a) → Q v H1) : Post F.W k σ H G Q r := by
  cases r with
  | no => exact h
  | ex x => exact fun d H2 G2 q z => h d σ H2 G2 s.len (s.f.trans q) z
  | ok a => exact fun H2 G2 v f2 q => i v H2 G2 a f2 q h
theorem PostE.seqN {r : Rs (Ctx.T c)} {f : Ctx.T c → Rs (Ctx.T c' ⊕ (Bool × Ctx.T cl))} (h : PostE F cl H0 G0 c' D (r.bind f)) (i : ∀ σ H G os γ, Stt F.wd F.n H0 G0 σ H G os c γ → PostE F cl H0 G0 c' D (f γ) → D'.nx σ H) : PostN F H0 G0 c D' r := by
  cases r with
  | no => exact h
  | ex x => exact h
  | ok γ => exact fun σ H G os st => i σ H G os γ st h
end
section
variable {X : Cx} {F : Fx} {α ρ : Type} {cl c c1 c' : Ctx} {st : Stmt} {rest sts : List Stmt}
theorem b_nilE (s : Sub c c') : PSs X [] (tE F cl c c' fun γ => .ok (.inl (s.proj γ))) :=
  pss_mono pss_nil fun D σ H ⟨H0, G0, G, os, γ, st, p⟩ => by
    obtain ⟨os', _, q⟩ := st.sub s
    exact p σ H G os' q
theorem b_brk {pos : Pos} (s : Sub c cl) : PSs X [.Break pos] (tE F cl c c' fun γ => .ok (.inr (true, s.proj γ))) :=
  pss_mono (pss_one ps_break) fun D σ H ⟨H0, G0, G, os, γ, st, p⟩ => by
    obtain ⟨os', _, q⟩ := st.sub s
    exact p σ H G os' q
theorem b_cnt {pos : Pos} (s : Sub c cl) : PSs X [.Continue pos] (tE F cl c c' fun γ => .ok (.inr (false, s.proj γ))) :=
  pss_mono (pss_one ps_continue) fun D σ H ⟨H0, G0, G, os, γ, st, p⟩ => by
    obtain ⟨os', _, q⟩ := st.sub s
    exact p σ H G os' q
theorem b_consE {m1 : Ctx.T c → Rs (Ctx.T c1)} {m2 : Ctx.T c1 → Rs (Ctx.T c' ⊕ (Bool × Ctx.T cl))} (h1 : PS X st (tS F c c1 m1)) (h2 : PSs X rest (tE F cl c1 c' m2)) : PSs X (st :: rest) (tE F cl c c' fun γ => (m1 γ).bind m2) :=
  pss_mono (pss_cons h1 h2) fun D σ H ⟨H0, G0, G, os, γ, s, p⟩ => ⟨H0, G0, G, os, γ, s, p.seqN fun σ H G os γ s2 p2 => ⟨H0, G0, G, os, γ, s2, p2⟩⟩
theorem b_goE {m1 : Ctx.T c → Rs (Ctx.T c1 ⊕ (Bool × Ctx.T cl))} {m2 : Ctx.T c1 → Rs (Ctx.T c' ⊕ (Bool × Ctx.T cl))} (h1 : PS X st (tE F cl c c1 m1)) (h2 : PSs X rest (tE F cl c1 c' m2)) : PSs X (st :: rest) (tE F cl c c' fun γ => (m1 γ).leftG m2) :=
  pss_mono (pss_cons h1 h2) fun D σ H ⟨H0, G0, G, os, γ, s, p⟩ => ⟨H0, G0, G, os, γ, s, by
    dsimp only [Rs.leftG] at p
    cases e : m1 γ with
    | no => rw [e] at p; exact p
    | ex x => rw [e] at p; exact p
    | ok z =>
      rw [e] at p
      rcases z with g | ⟨b, g⟩
      · exact fun σ H G os s2 => ⟨H0, G0, G, os, g, s2, p⟩
      · exact p⟩
theorem b_subE {m : Ctx.T c1 → Rs (Ctx.T c' ⊕ (Bool × Ctx.T cl))} (s : Sub c c1) (h : PSs X sts (tE F cl c1 c' m)) : PSs X sts (tE F cl c c' fun γ => m (s.proj γ)) :=
  pss_mono h fun D σ H ⟨H0, G0, G, os, γ, st, p⟩ => by
    obtain ⟨os', _, q⟩ := st.sub s
    exact ⟨H0, G0, G, os', _, q, p⟩
theorem b_frzE {m : Ctx.T c1 → Rs (Ctx.T c' ⊕ (Bool × Ctx.T cl))} (s : Frz c c1) (h : PSs X sts (tE F cl c1 c' m)) : PSs X sts (tE F cl c c' fun γ => m (s.proj γ)) :=
  pss_mono h fun D σ H ⟨H0, G0, G, os, γ, st, p⟩ => by
    obtain ⟨os', G', q⟩ := st.frz s
    exact ⟨H0, G0, G', os', _, q, p⟩
theorem b_narE {m : Ctx.T c1 → Rs (Ctx.T c' ⊕ (Bool × Ctx.T cl))} (s : Nar c c1) (h : PSs X sts (tE F cl c1 c' m)) : PSs X sts (tE F cl c c' fun γ => (s.go γ).bind m) :=
  pss_mono h fun D σ H ⟨H0, G0, G, os, γ, st, p⟩ => by
    dsimp only at p
    cases e : s.go γ with
    | no => rw [e] at p; exact p.elim
    | ex x => exact (s.noex e).elim
    | ok g => rw [e] at p; exact ⟨H0, G0, G, os, g, st.nar s e, p⟩
/-- a plain block as one in a loop -/
theorem b_se {m : Ctx.T c → Rs (Ctx.T c')} (h : PSs X sts (tS F c c' m)) : PSs X sts (tE F cl c c' fun γ => (m γ).bind fun x => .ok (.inl x)) :=
  pss_mono h fun D σ H ⟨H0, G0, G, os, γ, s, p⟩ => ⟨H0, G0, G, os, γ, s, by
    cases e : m γ with
    | no => dsimp only at p; rw [e] at p; exact p
    | ex x => dsimp only at p; rw [e] at p; exact p
    | ok z => dsimp only at p; rw [e] at p; exact p⟩
theorem b_neverE {sts : List Stmt} : PSs X sts (tE F cl c c' fun _ => .no) := pss_mono pss_never fun D σ H ⟨H0, G0, G, os, γ, st, p⟩ => p
theorem s_ifE {t : Expr} {a b : List Stmt} {mt : Ctx.T c → Rs Bool} {m1 m2 : Ctx.T c → Rs (Ctx.T c' ⊕ (Bool × Ctx.T cl))} {pos : Pos} (ht : PT X t (tQ F c mt)) (ha : PSs X a (tE F cl c c' m1)) (hb : PSs X b (tE F cl c c' m2)) : PS X (.If t a b pos) (tE F cl c c' fun γ => (mt γ).bind fun x => if x = true then m1 γ else m2 γ) :=
  ps_mono (ps_if ht ha hb) fun D σ H ⟨H0, G0, G, os, γ, st, p⟩ => ⟨H0, G0, G, os, γ, st, p.step st kF fun v H1 G1 b fr rb p1 => ⟨b, rb, by
    cases b with
    | false => exact ⟨H0, G0, G1, os, γ, st.ext fr, p1⟩
    | true => exact ⟨H0, G0, G1, os, γ, st.ext fr, p1⟩⟩⟩
/-! ### the loop -/
def Rs.foldC {γ α : Type} (f : γ → α → Rs (γ ⊕ (Bool × γ))) : γ → List α → Rs γ
  | g, [] => .ok g
  | g, x :: xs => (f g x).bind fun z => match z with
    | .inl g' => Rs.foldC f g' xs
    | .inr (false, g') => Rs.foldC f g' xs
    | .inr (true, g') => .ok g'
theorem s_forE [Rep α] {tg iter : Expr} {body : List Stmt} {pos : Pos} {g : TG} {mL : Ctx.T c → Rs (List α)} {mb : Ctx.T c1 → Rs (Ctx.T c ⊕ (Bool × Ctx.T c))} {push : α → Ctx.T c → Ctx.T c1} (hp : PassesOwn (model X.prog X.w) X.A X.env X.xe) (hc : X.calm = true)
    {fr : Bs} (hfr : fr = .g ∨ fr = .z) (hi : PI X tg iter (tI F fr c mL)) (hg : PG X tg g) (ht : TgtOk F g c c1 push) (hb : PSs X body (tE F c c1 c mb)) (hs : ∀ x, foldedSetIterable iter X.env x = pure x := by intro _; rfl) :
    PS X (.For tg iter body [] pos) (tS F c c fun γ => (mL γ).bind fun xs => Rs.foldC (fun γ x => mb (push x γ)) γ xs) :=
  ps_mono (ps_for hp hc hi hg hb hs) fun D σ H ⟨H0, G0, G, os, γ, st, p⟩ => ⟨H0, G0, G, os, γ, st, by
    dsimp only at p
    cases e : mL γ with
    | no => rw [e] at p; exact p
    | ex x => rw [e] at p; exact fun d H2 G2 s z => p d σ H2 G2 st.len (st.f.trans s) z
    | ok xs =>
      rw [e] at p
      refine fun H1 G1 J f w => for_any (n := xs.length) (fun i σ' H' => ∃ G' os' γ', Stt F.wd F.n H0 G0 σ' H' G' os' c γ' ∧ Same G1 G' ∧ PostN F H0 G0 c D (Rs.foldC (fun γ x => mb (push x γ)) γ' (xs.drop i)))
        ⟨G1, os, γ, st.ext f, Same.refl _, p⟩ ?_ ?_
      · rintro i σ' H' hi ⟨G', os', γ', st', sg, p'⟩
        obtain ⟨a, ha, hd⟩ := drop_get hi
        rw [hd] at p'
        have hB : Same (fr.at G1 H1 H0) H' := by
          cases hfr with
          | inl q => subst q; exact sg.trans st'.f.gh
          | inr q => subst q; exact st'.f.h
        refine ⟨w.go i H' a hB ha, fun x H2 hy => ?_⟩
        obtain ⟨G2, f2, r2⟩ := w.yld i H' G' x H2 a hB sg st'.f.gh ha hy
        refine ht (st'.ext f2) r2 fun σ3 st3 => ⟨H0, G2, G2, os', _, st3.rebase, ?_⟩
        simp only [Rs.foldC] at p'
        cases e2 : mb (push a γ') with
        | no => rw [e2] at p'; exact p'
        | ex x => rw [e2] at p'; exact fun d σ4 H4 G4 l4 f4 z => p' d σ4 H4 G4 l4 (st3.f.base f4) z
        | ok z =>
          rw [e2] at p'
          rcases z with g' | ⟨b, g'⟩
          · exact fun σ4 H4 G4 os4 st4 => ⟨G4, os4, g', st4.unbase st3.f, sg.trans (f2.g.trans st4.f.g), p'⟩
          · cases b with
            | false => exact fun σ4 H4 G4 os4 st4 => ⟨G4, os4, g', st4.unbase st3.f, sg.trans (f2.g.trans st4.f.g), p'⟩
            | true => exact fun σ4 H4 G4 os4 st4 => p' σ4 H4 G4 os4 (st4.unbase st3.f)
      · rintro σ' H' ⟨G', os', γ', st', sg, p'⟩
        rw [List.drop_length] at p'
        have hB : Same (fr.at G1 H1 H0) H' := by
          cases hfr with
          | inl q => subst q; exact sg.trans st'.f.gh
          | inr q => subst q; exact st'.f.h
        exact ⟨w.stop _ H' hB (Nat.le_refl _), p' _ _ _ _ st'⟩⟩
end
end Wm
set_option Elab.async false
set_option linter.all false
set_option maxRecDepth 100000
set_option maxHeartbeats 4000000
/-! values of one type or another -/
namespace Wm
open PySem PySem.Spec PyProof.Rows L2
open Rep (rep)
open Own (own)
instance {α β : Type} [Rep α] [Rep β] : Rep (α ⊕ β) where
  rep := fun wd G v a => match a with
    | .inl a => rep wd G v a
    | .inr b => rep wd G v b
  mono := fun {wd G G' v a} s h => by
    cases a with
    | inl a => exact Rep.mono (α := α) s h
    | inr b => exact Rep.mono (α := β) s h
def theL {α β : Type} (o : α ⊕ β) : Rs α := match o with | .inl a => .ok a | .inr _ => .no
def theR {α β : Type} (o : α ⊕ β) : Rs β := match o with | .inr a => .ok a | .inl _ => .no
structure Cst (α β : Type) [Rep α] [Rep β] where
  go : α → β
  ok : ∀ {wd : Wd} {G : Hp} {v : V} {a : α}, rep wd G v a → rep wd G v (go a)
def Cst.i {α : Type} [Rep α] : Cst α α := ⟨fun a => a, fun h => h⟩
def Cst.l {α β : Type} [Rep α] [Rep β] : Cst α (α ⊕ β) := ⟨.inl, fun h => h⟩
def Cst.r {α β γ : Type} [Rep α] [Rep β] [Rep γ] (k : Cst α β) : Cst α (γ ⊕ β) := ⟨fun a => .inr (k.go a), fun h => k.ok h⟩
def Cst.p {α β α' β' : Type} [Rep α] [Rep β] [Rep α'] [Rep β'] (k : Cst α α') (j : Cst β β') : Cst (α × β) (α' × β') :=
  ⟨fun a => (k.go a.1, j.go a.2), fun ⟨p, o, e, g, v, w, e2, h1, h2⟩ => ⟨p, o, e, g, v, w, e2, k.ok h1, j.ok h2⟩⟩
/-- a pair, three things, as a tuple of one kind -/
def Cst.pt {α : Type} [Rep α] : Cst (α × α) (Tup α) :=
  ⟨fun a => ⟨[a.1, a.2]⟩, fun ⟨p, o, e, g, v, w, e2, h1, h2⟩ => ⟨p, o, e, g, [v, w], e2, by rw [sizeLine_eq]; show (2 : Nat) ≤ _; decide, h1, h2, trivial⟩⟩
def Cst.tt {α : Type} [Rep α] : Cst (T3 α α α) (Tup α) :=
  ⟨fun a => ⟨[a.a, a.b, a.c]⟩, fun ⟨p, o, e, g, v, w, u, e2, h1, h2, h3⟩ => ⟨p, o, e, g, [v, w, u], e2, by rw [sizeLine_eq]; show (3 : Nat) ≤ _; decide, h1, h2, h3, trivial⟩⟩
section
variable {X : Cx} {F : Fx} {c : Ctx} {α β : Type} {e : Expr}
theorem e_theL [Rep α] [Rep β] {m : Ctx.T c → Rs (α ⊕ β)} (h : PE X e (tX F kF c m)) : PE X e (tX F kF c fun γ => (m γ).bind theL) :=
  pe_mono h fun σ H Q ⟨H0, G0, G, os, γ, st, p⟩ => ⟨H0, G0, G, os, γ, st, p.step kF fun v H1 G1 a fr ra p1 => by
    cases a with
    | inr b => exact p1.elim
    | inl b => exact p1 H1 G1 v (Fr.refl fr.gh) ra⟩
theorem e_theR [Rep α] [Rep β] {m : Ctx.T c → Rs (α ⊕ β)} (h : PE X e (tX F kF c m)) : PE X e (tX F kF c fun γ => (m γ).bind theR) :=
  pe_mono h fun σ H Q ⟨H0, G0, G, os, γ, st, p⟩ => ⟨H0, G0, G, os, γ, st, p.step kF fun v H1 G1 a fr ra p1 => by
    cases a with
    | inl b => exact p1.elim
    | inr b => exact p1 H1 G1 v (Fr.refl fr.gh) ra⟩
theorem e_cst [Rep α] [Rep β] (k : Cst α β) {m : Ctx.T c → Rs α} (h : PE X e (tX F kF c m)) : PE X e (tX F kF c fun γ => (m γ).bind fun a => .ok (k.go a)) :=
  pe_mono h fun σ H Q ⟨H0, G0, G, os, γ, st, p⟩ => ⟨H0, G0, G, os, γ, st, p.step kF fun v H1 G1 a fr ra p1 => p1 H1 G1 v (Fr.refl fr.gh) (k.ok ra)⟩
end
end Wm
set_option Elab.async false
set_option linter.all false
set_option maxRecDepth 100000
set_option maxHeartbeats 4000000
/-! sorted(xs) and sorted(xs, reverse=True) of items that are data -/
namespace L2
open PySem PySem.Spec PyProof.Rows
open PySem.W (EachIs AllAlike Sortable dataLe)
section
variable {X : Cx} {pins : List (Addr × Obj)} {σ : St} {H : Hp} {s : Shared} {β : Type}
def rSortD (K : PySem.W.Frag) (rev : Bool) (enc : β → PyData) : Addr → Hp → VK → Prop := fun a H Q => ∃ (xs : List V) (bs : List β), SqL K H a xs ∧ EachIs (fun x b => Dp K H x (enc b)) xs bs ∧ AllAlike (bs.map enc) ∧ Sortable (bs.map enc) ∧ (∀ b, b ∈ bs → (enc b).depth ≤ 60) ∧
  ∀ p, H p = none → Q (.ref p) (upd H p (.lst (((xs.zip bs).mergeSort (dataLe rev fun z => enc z.2)).map Prod.fst)))
theorem each_reads (I : Inv X pins σ H s) {enc : β → PyData} : ∀ {xs : List V} {bs : List β} {us : List Value}, EachIs (fun x b => Dp X.K H x (enc b)) xs bs → Vals xs us →
    EachIs (fun u (z : V × β) => RelV z.1 u) us (xs.zip bs) ∧ EachIs (fun u (z : V × β) => ∃ as, Reads s.heap u (enc z.2) as) us (xs.zip bs)
  | [], _, _, .nil, .nil => ⟨.nil, .nil⟩
  | _ :: _, _, _, .cons h t, .cons r rs => by
    obtain ⟨a, b⟩ := each_reads I t rs
    exact ⟨.cons r a, .cons (Dp.reads I _ _ _ h r) b⟩
theorem each_vals : ∀ {us : List Value} {zs : List (V × β)}, EachIs (fun u (z : V × β) => RelV z.1 u) us zs → Vals (zs.map Prod.fst) us
  | _, _, .nil => .nil
  | _, _, .cons h t => .cons h (each_vals t)
theorem zip_snd : ∀ {xs : List V} {bs : List β}, xs.length = bs.length → (xs.zip bs).map Prod.snd = bs
  | [], [], _ => rfl
  | _ :: xs, b :: bs, h => by
    rw [List.zip_cons_cons, List.map_cons, zip_snd (by simpa using h)]
theorem sortD_run {a : Addr} {rev : Bool} {enc : β → PyData} {Q : VK} (hu : X.A.units + 64 < cLine) (I : Inv X pins σ H s) (h : rSortD X.K rev enc a H Q) :
    wpAny (model X.prog X.w) X.A (call (.builtin "sorted") [.ref a] [(Str.ofString "reverse", .bool rev)]) (EP X pins σ Q) X.xe s ∧ (rev = false → wpAny (model X.prog X.w) X.A (call (.builtin "sorted") [.ref a]) (EP X pins σ Q) X.xe s) := by
  obtain ⟨xs, bs, hs, he, hal, hk, hdep, q⟩ := h
  obtain ⟨its, rv, hl, hz⟩ := I.list hs
  obtain ⟨e1, e2⟩ := each_reads I he rv
  have hlen := he.length
  have hzl : (xs.zip bs).length = bs.length := by rw [List.length_zip, hlen, Nat.min_self]
  have hmap : (xs.zip bs).map (fun z : V × β => enc z.2) = bs.map enc := by
    rw [show (fun z : V × β => enc z.2) = enc ∘ Prod.snd from rfl, ← List.map_map, zip_snd hlen]
  have fin : ∀ out : List Value, out.length = (xs.zip bs).length → EachIs (fun u (z : V × β) => RelV z.1 u) out ((xs.zip bs).mergeSort (dataLe rev fun z => enc z.2)) → EP X pins σ Q (.ref (s.heap.objs.size + 1)) { s with heap := sortedAll s.heap its (List.toArray out) } := fun out ol eo => by
    obtain ⟨ep, he'⟩ := sortedAll_at s.heap its (List.toArray out)
    refine ⟨.ref _, upd H (s.heap.objs.size + 1) (.lst (((xs.zip bs).mergeSort (dataLe rev fun z => enc z.2)).map Prod.fst)), I.laid (t' := s.toks) (fun _ _ => sortedAll_old) (Nat.le_succ _) ⟨?_, _, ep, each_vals eo, he'⟩, rfl, q _ (I.hok.fresh (Nat.le_succ _))⟩
    rw [List.length_map, List.length_mergeSort, hzl, ← hlen]
    exact hz
  have hL : (xs.zip bs).length ≤ sizeLine := by rw [hzl, ← hlen]; exact hz
  have hd : ∀ z : V × β, z ∈ xs.zip bs → X.A.units + 2 + (enc z.2).depth < cLine := fun z hz => by
    have := hdep z.2 (List.of_mem_zip hz).2
    omega
  exact ⟨PySem.W.sorted_rev_data (enc := fun z : V × β => enc z.2) hl.isList e1 e2 (by rw [hmap]; exact hal) (by rw [hmap]; exact hk) hL hd fin, fun hr => by
    subst hr
    exact PySem.W.sorted_data (enc := fun z : V × β => enc z.2) hl.isList e1 e2 (by rw [hmap]; exact hal) (by rw [hmap]; exact hk) hL hd fin⟩
theorem cr_sortedD {enc : β → PyData} (hu : X.A.units + 64 < cLine) : CallR X (.builtin "sorted") fun vs H Q => ∃ a, vs = [V.ref a] ∧ rSortD X.K false enc a H Q := by
  intro pins s σ H vs us Q I r h
  obtain ⟨a, rfl, h⟩ := h
  obtain rfl := Vals.ref1 r
  exact (sortD_run hu I h).2 rfl
theorem cr_sortedDR {enc : β → PyData} (hu : X.A.units + 64 < cLine) : CallRK X (.builtin "sorted") [Str.ofString "reverse"] fun vs zs H Q => ∃ a, vs = [V.ref a] ∧ zs = [V.bl true] ∧ rSortD X.K true enc a H Q := by
  intro pins s σ H vs zs us ws Q I r rz h
  obtain ⟨a, rfl, rfl, h⟩ := h
  obtain rfl := Vals.ref1 r
  obtain ⟨w1, rfl, e1⟩ := vals1 rz
  obtain rfl : w1 = Value.bool true := e1
  exact (sortD_run hu I h).1
end
end L2
namespace Wm
open PySem PySem.Spec PyProof.Rows L2
open PySem.W (EachIs AllAlike Sortable dataLe)
open Rep (rep)
open Own (own)
class SortT (α : Type) [Rep α] [DecidableEq α] [PyEq α] where
  al : ∀ a b : α, PySem.W.alike (PyEq.d a) (PyEq.d b) = true
  so : ∀ xs : List α, Sortable (xs.map PyEq.d)
  le : α → α → Bool
  up : ∀ a b : α, dataLe false PyEq.d a b = le a b
  dn : ∀ a b : α, dataLe true PyEq.d a b = le b a
instance : SortT Int where
  al := fun _ _ => by simp [PyEq.d, PySem.W.alike]
  so := fun xs => Sortable.others fun b => ⟨by simp [PyEq.d], by simp [PyEq.d]⟩
  le := fun a b => decide (a ≤ b)
  up := fun a b => congrFun (congrFun (PySem.W.dataLe_int (β := Int) fun x => x) a) b
  dn := fun a b => congrFun (congrFun (PySem.W.dataGe_int (β := Int) fun x => x) a) b
def leP (a b : Int × Int) : Bool := decide (a.1 < b.1 ∨ (a.1 = b.1 ∧ a.2 ≤ b.2))
instance : SortT (Int × Int) where
  al := fun _ _ => by simp [PyEq.d, PySem.W.alike, PySem.W.alikeAll]
  so := fun xs => Sortable.tuples fun b => ⟨_, _, rfl⟩
  le := leP
  up := fun a b => congrFun (congrFun (PySem.W.dataLe_ii (β := Int × Int) (fun x => x.1) fun x => x.2) a) b
  dn := fun a b => by
    rw [PySem.W.dataLe_eq]
    show (!PySem.W.dataLt (.tuple [.int a.1, .int a.2]) (.tuple [.int b.1, .int b.2])) = leP b a
    rw [PySem.W.dataLt_ii]
    unfold leP
    by_cases c : a.1 < b.1 ∨ (a.1 = b.1 ∧ a.2 < b.2)
    · rw [decide_eq_true c, decide_eq_false (by omega)]; rfl
    · rw [decide_eq_false c, decide_eq_true (by omega)]; rfl
section
variable {α : Type} [Rep α] [DecidableEq α] [PyEq α] [SortT α] {wd : Wd} {K : PySem.W.Frag}
theorem reps.each {H G : Hp} (s : Same G H) : ∀ {vs : List V} {as : List α}, reps wd G vs as → EachIs (fun x b => Dp K H x (PyEq.d b)) vs as
  | [], [], _ => .nil
  | _ :: _, _ :: _, ⟨h, t⟩ => .cons (PyEq.dp s h) (reps.each s t)
  | [], _ :: _, h => h.elim
  | _ :: _, [], h => h.elim
theorem reps.zip_all {G : Hp} : ∀ {vs : List V} {as : List α}, reps wd G vs as → ∀ z ∈ vs.zip as, rep wd G z.1 z.2
  | [], [], _, z, hz => by simp at hz
  | _ :: _, _ :: _, ⟨h, t⟩, z, hz => by
    rw [List.zip_cons_cons] at hz
    rcases List.mem_cons.mp hz with e | e
    · rw [e]; exact h
    · exact reps.zip_all t z e
  | [], _ :: _, h, _, _ => h.elim
  | _ :: _, [], h, _, _ => h.elim
theorem reps.of_all {G : Hp} : ∀ {zs : List (V × α)}, (∀ z ∈ zs, rep wd G z.1 z.2) → reps wd G (zs.map Prod.fst) (zs.map Prod.snd)
  | [], _ => trivial
  | z :: zs, h => ⟨h z List.mem_cons_self, reps.of_all fun y hy => h y (List.mem_cons_of_mem _ hy)⟩
theorem sortD_use {W : WX} {σ : L2.St} {B H G : Hp} {x : V} {a : List α} {Q : VK} {rev : Bool} {le : α → α → Bool} (hle : ∀ x y, dataLe rev PyEq.d x y = le x y) (hdep : PyEq.dep α ≤ 60) (gh : Same G H) (hx : (kB (wd := wd)).rel B H G x a) (p : Post W (kO (wd := wd)) σ H G Q (.ok (a.mergeSort le))) :
    ∃ q, x = .ref q ∧ rSortD K rev (PyEq.d (α := α)) q H Q := by
  obtain ⟨q, o, e1, e2, vs, e3, e4, r⟩ := hx
  subst e1; subst e3
  refine ⟨q, rfl, vs, a, .of e2, r.each gh, AllAlike.of SortT.al, SortT.so a, fun b _ => Nat.le_trans (PyEq.depth b) hdep, fun d nd => ?_⟩
  have hp := List.mergeSort_perm (vs.zip a) (dataLe rev fun z : V × α => PyEq.d z.2)
  have e : ((vs.zip a).mergeSort (dataLe rev fun z : V × α => PyEq.d z.2)).map Prod.snd = a.mergeSort le := by
    rw [List.map_mergeSort (s := le) fun y _ z _ => by rw [← hle]; rfl, zip_snd r.len]
  refine p _ _ _ (Fr.alloc gh nd) ⟨d, _, rfl, nd, gh.free nd, upd_same, _, rfl, ?_, ?_⟩
  · rw [List.length_map, hp.length_eq, List.length_zip, r.len, Nat.min_self, ← r.len]
    exact e4
  · rw [← e]
    exact reps.of_all fun z hz => r.zip_all z (hp.mem_iff.mp hz)
theorem m_sortD (hdep : PyEq.dep α ≤ 60 := by decide) : Sem1 (wd := wd) kB kO (fun x => (fun vs H Q => ∃ q, vs = [V.ref q] ∧ rSortD K false (PyEq.d (α := α)) q H Q) [x]) (fun a : List α => .ok (a.mergeSort SortT.le)) := by
  intro W σ B H G x a Q gh hx p
  obtain ⟨q, e, h⟩ := sortD_use (K := K) SortT.up hdep gh hx p
  exact ⟨q, by rw [e], h⟩
section
variable {X : Cx} {F : Fx} {c : Ctx} {ma : Ctx.T c → Rs (List α)} {e : Expr} {p pos : Pos} {x : Str} {j : Nat} {p1 p2 : Pos}
/-- sorted(xs, reverse=True) -/
theorem e_sortDR (hK : F.wd.K = X.K) (hu : X.A.units + 64 < cLine) (hg : Gl X x) (hm : X.mg x = none) (hv : bootBuiltins x = some (.builtin "sorted")) (ha : PE X e (tX F kB c ma)) (hdep : PyEq.dep α ≤ 60 := by decide) (hn : x ≠ "__name__" := by decide) (hdb : (x == ("__debug__" : Str)) = false := by decide)
    (he : starEach (e :: []) X.env = (false, eval e X.env) :: starEach [] X.env := by rfl) (he2 : backTo pos (starEach (e :: []) X.env) = (false, eval e X.env) :: backTo pos (starEach [] X.env) := by rfl) (hpl : (backTo pos (starEach (e :: []) X.env)).any (·.1) = false := by rfl)
    (hall : (backToKw pos (keywordEach [.mk (some "reverse") (.Constant (.bool true) j p1) p2] X.env)).all (·.1.isSome) = true := by rfl) (hnone : (backToKw pos (keywordEach [.mk (some "reverse") (.Constant (.bool true) j p1) p2] X.env)).any (·.1.isNone) = false := by rfl)
    (hks : (backToKw pos (keywordEach [.mk (some "reverse") (.Constant (.bool true) j p1) p2] X.env)).filterMap (·.1) = [Str.ofString "reverse"] := by rfl) :
    PE X (.Call (.Name x p) [e] [.mk (some "reverse") (.Constant (.bool true) j p1) p2] pos) (tX F kO c fun γ => (ma γ).bind fun a => .ok (a.mergeSort fun y z => SortT.le z y)) :=
  pe_mono (pe_callBK (cr_sortedDR (enc := PyEq.d (α := α)) hu) hg hm hv (pa_cons ha pa_nil he) (pk_cons pe_bl pk_nil) hn hdb he2 hpl hall hnone hks) fun σ H Q ⟨H0, G0, G, os, γ, st, p⟩ => ⟨H0, G0, G, os, γ, st, by
    cases e : ma γ with
    | no => dsimp only at p; rw [e] at p; exact p
    | ex x => dsimp only at p; rw [e] at p; exact p
    | ok b =>
      dsimp only at p; rw [e] at p
      intro H1 G1 v f1 rv
      obtain ⟨q, ev, h⟩ := sortD_use (K := X.K) (W := F.W) (σ := σ) (Q := Q) SortT.dn hdep f1.gh rv fun H2 G2 v2 f2 r2 => p H2 G2 v2 (f1.trans f2) (kO.back f1.h r2)
      exact ⟨q, by rw [ev], rfl, h⟩⟩
end
end
/-! ### not xs -/
section
variable {X : Cx} {F : Fx} {c : Ctx} {α : Type} {e : Expr}
theorem e_notT {k : Kd F.wd α} {m : Ctx.T c → Rs α} {tv : α → Bool} {pos : Pos} (hv : ∀ {B H G v a}, Same G H → k.rel B H G v a → TruV X.K v H (tv a)) (h : PE X e (tX F k c m)) :
    PE X (.UnaryOp .Not e pos) (tX F kF c fun γ => (m γ).bind fun a => .ok (!tv a)) :=
  pe_mono (pe_notT h) fun σ H Q ⟨H0, G0, G, os, γ, st, p⟩ => ⟨H0, G0, G, os, γ, st, p.step k fun v H1 G1 a f1 r p1 => ⟨_, hv f1.gh r, p1 H1 G1 _ (Fr.refl f1.gh) rfl⟩⟩
end
end Wm
set_option Elab.async false
set_option linter.all false
set_option maxRecDepth 100000
set_option maxHeartbeats 4000000
namespace Wm
open PySem PySem.Spec PyProof.Rows L2
open Rep (rep)
open Own (own)
/-! ### any(xs), all(xs) of truth values -/
theorem m_any {wd : Wd} {K : PySem.W.Frag} : Sem1 (wd := wd) kB kF (fun x => rAny K [x]) (fun bs : List Bool => .ok (bs.any id)) := by
  intro W σ B H G x a Q gh ⟨q, o, e1, e2, vs, e3, e4, r⟩ p
  subst e1; subst e3
  exact ⟨q, a, rfl, by rw [← r.bls]; exact .of e2, p H G _ (Fr.refl gh) rfl⟩
theorem m_all {wd : Wd} {K : PySem.W.Frag} : Sem1 (wd := wd) kB kF (fun x => rAll K [x]) (fun bs : List Bool => .ok (bs.all id)) := by
  intro W σ B H G x a Q gh ⟨q, o, e1, e2, vs, e3, e4, r⟩ p
  subst e1; subst e3
  exact ⟨q, a, rfl, by rw [← r.bls]; exact .of e2, p H G _ (Fr.refl gh) rfl⟩
theorem bt_any : bootBuiltins "any" = some (.builtin "any") := by decide +kernel
theorem bt_all : bootBuiltins "all" = some (.builtin "all") := by decide +kernel
/-! ### xs or [], xs a list or None -/
section
variable {X : Cx} {F : Fx} {c : Ctx} {α : Type} {a b : Expr}
theorem e_orL [Rep α] {m : Ctx.T c → Rs (Option (List α))} {pos : Pos} (ha : PE X a (tX F kN c m)) (hb : PE X b (tX F kO c fun _ => .ok ([] : List α))) :
    PE X (.BoolOp .Or [a, b] pos) (tX F kB c fun γ => (m γ).bind fun o => .ok (o.getD [])) :=
  pe_mono (pe_orT ha (pe_one hb)) fun σ H Q ⟨H0, G0, G, os, γ, st, p⟩ => ⟨H0, G0, G, os, γ, st, p.step kN fun v H1 G1 o f1 r p1 => by
    cases o with
    | none =>
      refine ⟨false, by rw [show v = .non from r]; exact rfl, ?_⟩
      rw [if_neg (by decide)]
      exact ⟨H0, G0, G1, os, γ, st.ext f1, fun H2 G2 v2 f2 ⟨q, o, e1, e2, e3, e4, e5⟩ => p1 H2 G2 v2 f2 ⟨q, o, e1, e4, e5⟩⟩
    | some xs =>
      obtain ⟨q, o, e1, e2, vs, e3, e4, rr⟩ := r
      subst e1; subst e3
      cases xs with
      | nil =>
        cases vs with
        | cons => exact rr.elim
        | nil =>
          refine ⟨false, .inl ⟨[], .of e2, rfl⟩, ?_⟩
          rw [if_neg (by decide)]
          exact ⟨H0, G0, G1, os, γ, st.ext f1, fun H2 G2 v2 f2 ⟨q, o, e1, e2, e3, e4, e5⟩ => p1 H2 G2 v2 f2 ⟨q, o, e1, e4, e5⟩⟩
      | cons y ys =>
        cases vs with
        | nil => exact rr.elim
        | cons w ws =>
          refine ⟨true, .inl ⟨w :: ws, .of e2, rfl⟩, ?_⟩
          rw [if_pos rfl]
          exact p1 H1 G1 _ (Fr.refl f1.gh) ⟨q, _, rfl, e2, _, rfl, e4, rr⟩⟩
end
/-! ### isinstance of a text or None, a number or None -/
theorem ty_optS {wd : Wd} {K : PySem.W.Frag} {B H G : Hp} {v : V} {a : Option Str} (_ : Same G H) (h : (kF (wd := wd)).rel B H G v a) : TyX K H v (if a.isSome then .type "str" else .type "NoneType") := by
  cases a with
  | none => rw [show v = .non from h]; exact .base .non
  | some b => rw [show v = .str b from h.1]; exact .base (.str b)
theorem ty_optI {wd : Wd} {K : PySem.W.Frag} {B H G : Hp} {v : V} {a : Option Int} (_ : Same G H) (h : (kF (wd := wd)).rel B H G v a) : TyX K H v (if a.isSome then .type "int" else .type "NoneType") := by
  cases a with
  | none => rw [show v = .non from h]; exact .base .non
  | some b => rw [show v = .int b from h]; exact .base (.int b)
theorem kit_optS {K : PySem.W.Frag} : ∀ o : Option Str, PySem.W.kitOne K (if o.isSome then .type "str" else .type "NoneType") (.type "str") = some o.isSome
  | none => kit_ty (a := "NoneType") (b := "str") (r := false) (by decide +kernel)
  | some _ => kit_ty (a := "str") (b := "str") (r := true) (by decide +kernel)
theorem kit_optI {K : PySem.W.Frag} : ∀ o : Option Int, PySem.W.kitOne K (if o.isSome then .type "int" else .type "NoneType") (.type "int") = some o.isSome
  | none => kit_ty (a := "NoneType") (b := "int") (r := false) (by decide +kernel)
  | some _ => kit_ty (a := "int") (b := "int") (r := true) (by decide +kernel)
end Wm
set_option Elab.async false
set_option linter.all false
set_option maxRecDepth 100000
set_option maxHeartbeats 4000000
namespace Wk
open PySem PySem.Spec PyProof.Rows L2 Wm
/-! ### the text -/
def topS (i : Nat) : Stmt := PySem.Challenge.pw_wornsheaf_k24_outcomes_known.main.body.getD i (.Pass ⟨0, 0, 0, 0⟩)
abbrev s_law_cell : Stmt := topS 23
theorem sc_law_cell : FnScope ["script", "k"] ["script", "k"] (defScope s_law_cell) := ⟨rfl, rfl, rfl, by decide +kernel, rfl, by decide +kernel, by decide +kernel⟩
abbrev s_law_draws : Stmt := topS 24
theorem sc_law_draws : FnScope ["cell", "sizes", "drawn", "left", "packed", "k", "mixed"] ["cell", "sizes"] (defScope s_law_draws) := ⟨rfl, rfl, rfl, by decide +kernel, rfl, by decide +kernel, by decide +kernel⟩
abbrev s_law_names : Stmt := topS 25
theorem sc_law_names : FnScope ["cell", "count", "letters", "drawn", "names", "k", "code", "place", "own", "front", "telling"] ["cell", "count"] (defScope s_law_names) := ⟨rfl, rfl, rfl, by decide +kernel, rfl, by decide +kernel, by decide +kernel⟩
abbrev s_law_levels : Stmt := topS 27
theorem sc_law_levels : FnScope ["cell", "hand", "count", "spread", "base", "drawn", "k"] ["cell", "hand", "count", "spread", "base"] (defScope s_law_levels) := ⟨rfl, rfl, rfl, by decide +kernel, rfl, by decide +kernel, by decide +kernel⟩
abbrev s_law_deed_cell : Stmt := topS 26
theorem sc_law_deed_cell : FnScope ["script", "k"] ["script", "k"] (defScope s_law_deed_cell) := ⟨rfl, rfl, rfl, by decide +kernel, rfl, by decide +kernel, by decide +kernel⟩
abbrev s_law_moved : Stmt := topS 28
theorem sc_law_moved : FnScope ["rows", "source", "targets", "after", "k"] ["rows", "source", "targets"] (defScope s_law_moved) := ⟨rfl, rfl, rfl, by decide +kernel, rfl, by decide +kernel, by decide +kernel⟩
abbrev s_law_wild_log : Stmt := topS 29
theorem sc_law_wild_log : FnScope ["rows", "cells", "width", "most", "log", "cell", "drawn", "sources", "source", "under", "picked", "k", "row"] ["rows", "cells", "width", "most"] (defScope s_law_wild_log) := ⟨rfl, rfl, rfl, by decide +kernel, rfl, by decide +kernel, by decide +kernel⟩
abbrev s_law_moved_v2 : Stmt := s_law_moved
theorem sc_law_moved_v2 : FnScope ["rows", "source", "targets", "after", "k"] ["rows", "source", "targets"] (defScope s_law_moved_v2) := sc_law_moved
abbrev s_law_played : Stmt := topS 39
theorem sc_law_played : FnScope ["rows", "log", "deed"] ["rows", "log"] (defScope s_law_played) := ⟨rfl, rfl, rfl, by decide +kernel, rfl, by decide +kernel, by decide +kernel⟩
abbrev s_law_finished : Stmt := topS 30
theorem sc_law_finished : FnScope ["rows", "log", "pick", "done", "k", "top", "under", "source", "target", "j", "row"] ["rows", "log", "pick"] (defScope s_law_finished) := ⟨rfl, rfl, rfl, by decide +kernel, rfl, by decide +kernel, by decide +kernel⟩
abbrev s_law_run : Stmt := topS 40
theorem sc_law_run : FnScope ["script", "rows", "width", "drawn", "cells", "left", "k"] ["script", "rows", "width"] (defScope s_law_run) := ⟨rfl, rfl, rfl, by decide +kernel, rfl, by decide +kernel, by decide +kernel⟩
abbrev s_law_order : Stmt := topS 35
theorem sc_law_order : FnScope ["levels", "order", "level", "k"] ["levels"] (defScope s_law_order) := ⟨rfl, rfl, rfl, by decide +kernel, rfl, by decide +kernel, by decide +kernel⟩
abbrev s_law_lists : Stmt := topS 41
theorem sc_law_lists : FnScope ["cell", "shares", "count", "drawn", "moved", "spread", "k", "free", "longer"] ["cell", "shares"] (defScope s_law_lists) := ⟨rfl, rfl, rfl, by decide +kernel, rfl, by decide +kernel, by decide +kernel⟩
abbrev s_InvalidSheaf_init : Stmt := inClass (topS 3) 0
theorem sc_InvalidSheaf_init : FnScope ["self", "index"] ["self", "index"] (defScope s_InvalidSheaf_init) := ⟨rfl, rfl, rfl, by decide +kernel, rfl, by decide +kernel, by decide +kernel⟩
abbrev s_valid_record : Stmt := topS 19
theorem sc_valid_record : FnScope ["text", "sign"] ["text"] (defScope s_valid_record) := ⟨rfl, rfl, rfl, by decide +kernel, rfl, by decide +kernel, by decide +kernel⟩
abbrev s_Sheaf_init : Stmt := inClass (topS 20) 0
theorem sc_Sheaf_init : FnScope ["self", "rows", "index", "row"] ["self", "rows"] (defScope s_Sheaf_init) := ⟨rfl, rfl, rfl, by decide +kernel, rfl, by decide +kernel, by decide +kernel⟩
abbrev s_Sheaf_rows : Stmt := inClass (topS 20) 1
theorem sc_Sheaf_rows : FnScope ["self"] ["self"] (defScope s_Sheaf_rows) := ⟨rfl, rfl, rfl, by decide +kernel, rfl, by decide +kernel, by decide +kernel⟩
abbrev s_Sheaf_shares : Stmt := inClass (topS 20) 12
theorem sc_Sheaf_shares : FnScope ["self", "result", "row"] ["self"] (defScope s_Sheaf_shares) := ⟨rfl, rfl, rfl, by decide +kernel, rfl, by decide +kernel, by decide +kernel⟩
abbrev s_ascending : Stmt := topS 10
theorem sc_ascending : FnScope ["items", "result", "item"] ["items"] (defScope s_ascending) := ⟨rfl, rfl, rfl, by decide +kernel, rfl, by decide +kernel, by decide +kernel⟩
abbrev s_Sheaf_records : Stmt := inClass (topS 20) 11
theorem sc_Sheaf_records : FnScope ["self", "row"] ["self"] (defScope s_Sheaf_records) := ⟨rfl, rfl, rfl, by decide +kernel, rfl, by decide +kernel, by decide +kernel⟩
abbrev s_RepeatedRecord_init : Stmt := inClass (topS 6) 0
theorem sc_RepeatedRecord_init : FnScope ["self", "record"] ["self", "record"] (defScope s_RepeatedRecord_init) := ⟨rfl, rfl, rfl, by decide +kernel, rfl, by decide +kernel, by decide +kernel⟩
abbrev s_outcome_order : Stmt := topS 12
theorem sc_outcome_order : FnScope ["sheaf", "borne", "record", "rows", "pair", "index"] ["sheaf"] (defScope s_outcome_order) := ⟨rfl, rfl, rfl, by decide +kernel, rfl, by decide +kernel, by decide +kernel⟩
abbrev s_ordered_levels : Stmt := topS 13
theorem sc_ordered_levels : FnScope ["sheaf", "rows", "index"] ["sheaf"] (defScope s_ordered_levels) := ⟨rfl, rfl, rfl, by decide +kernel, rfl, by decide +kernel, by decide +kernel⟩
abbrev s_capped_power : Stmt := topS 9
theorem sc_capped_power : FnScope ["base", "exponent", "limit", "result", "left"] ["base", "exponent", "limit"] (defScope s_capped_power) := ⟨rfl, rfl, rfl, by decide +kernel, rfl, by decide +kernel, by decide +kernel⟩
abbrev s_capped_caps : Stmt := topS 14
theorem sc_capped_caps : FnScope ["levels", "end", "breadth", "level"] ["levels", "end", "breadth"] (defScope s_capped_caps) := ⟨rfl, rfl, rfl, by decide +kernel, rfl, by decide +kernel, by decide +kernel⟩
abbrev s_is_outcome : Stmt := topS 15
theorem sc_is_outcome : FnScope ["sheaf", "end", "numbers", "breadth", "levels", "count", "caps", "height", "zeros", "place"] ["sheaf", "end", "numbers", "breadth"] (defScope s_is_outcome) := ⟨rfl, rfl, rfl, by decide +kernel, rfl, by decide +kernel, by decide +kernel⟩
abbrev s_law_told : Stmt := topS 42
theorem sc_law_told : FnScope ["sheaf", "end", "numbers", "width", "left_out"] ["sheaf", "end", "numbers", "width", "left_out"] (defScope s_law_told) := ⟨rfl, rfl, rfl, by decide +kernel, rfl, by decide +kernel, by decide +kernel⟩
abbrev s_law_low : Stmt := topS 33
theorem sc_law_low : FnScope ["levels", "level", "one"] ["levels"] (defScope s_law_low) := ⟨rfl, rfl, rfl, by decide +kernel, rfl, by decide +kernel, by decide +kernel⟩
abbrev s_law_power : Stmt := topS 31
theorem sc_law_power : FnScope ["base", "exponent", "total", "k"] ["base", "exponent"] (defScope s_law_power) := ⟨rfl, rfl, rfl, by decide +kernel, rfl, by decide +kernel, by decide +kernel⟩
abbrev s_law_cap : Stmt := topS 32
theorem sc_law_cap : FnScope ["level", "end", "width"] ["level", "end", "width"] (defScope s_law_cap) := ⟨rfl, rfl, rfl, by decide +kernel, rfl, by decide +kernel, by decide +kernel⟩
abbrev s_law_high : Stmt := topS 34
theorem sc_law_high : FnScope ["levels", "width", "top", "k", "level"] ["levels", "width"] (defScope s_law_high) := ⟨rfl, rfl, rfl, by decide +kernel, rfl, by decide +kernel, by decide +kernel⟩
abbrev s_law_is_outcome : Stmt := topS 36
theorem sc_law_is_outcome : FnScope ["levels", "end", "numbers", "width", "count", "k", "height", "zeros", "one"] ["levels", "end", "numbers", "width"] (defScope s_law_is_outcome) := ⟨rfl, rfl, rfl, by decide +kernel, rfl, by decide +kernel, by decide +kernel⟩
abbrev s_law_right : Stmt := topS 43
theorem sc_law_right : FnScope ["sheaf", "levels", "end", "numbers", "width", "left_out", "used", "told"] ["sheaf", "levels", "end", "numbers", "width", "left_out"] (defScope s_law_right) := ⟨rfl, rfl, rfl, by decide +kernel, rfl, by decide +kernel, by decide +kernel⟩
abbrev s_law_is_integer : Stmt := topS 22
theorem sc_law_is_integer : FnScope ["value"] ["value"] (defScope s_law_is_integer) := ⟨rfl, rfl, rfl, by decide +kernel, rfl, by decide +kernel, by decide +kernel⟩
abbrev s_law_same_integers : Stmt := topS 37
theorem sc_law_same_integers : FnScope ["told", "due", "value"] ["told", "due"] (defScope s_law_same_integers) := ⟨rfl, rfl, rfl, by decide +kernel, rfl, by decide +kernel, by decide +kernel⟩
abbrev s_law_repeated : Stmt := topS 38
theorem sc_law_repeated : FnScope ["rows", "found", "k", "row"] ["rows"] (defScope s_law_repeated) := ⟨rfl, rfl, rfl, by decide +kernel, rfl, by decide +kernel, by decide +kernel⟩
abbrev s_law_refused : Stmt := topS 44
theorem sc_law_refused : FnScope ["sheaf", "end", "numbers", "width", "left_out", "record", "used", "told", "e"] ["sheaf", "end", "numbers", "width", "left_out", "record"] (defScope s_law_refused) := ⟨rfl, rfl, rfl, by decide +kernel, rfl, by decide +kernel, by decide +kernel⟩
abbrev s_law : Stmt := topS 45
theorem sc_law : FnScope ["script", "modes", "count", "base", "names", "levels", "rows", "drawn", "width", "final", "order", "shares", "lists", "sheaf", "inorder", "numbers", "told", "again", "record", "end", "k", "row"] ["script"] (defScope s_law) := ⟨rfl, rfl, rfl, by decide +kernel, rfl, by decide +kernel, by decide +kernel⟩
/-- what the top has written -/
structure Txt (K : PySem.W.Frag) (mg : Str → Option Value) where
  a_law_cell : Addr
  d_law_cell : FuncData
  F_law_cell : Fun K "_law_cell" "_law_cell" s_law_cell a_law_cell d_law_cell
  b_law_cell : Binds K d_law_cell ["script", "k"] []
  g_law_cell : mg "_law_cell" = some (.ref a_law_cell)
  a_law_draws : Addr
  d_law_draws : FuncData
  F_law_draws : Fun K "_law_draws" "_law_draws" s_law_draws a_law_draws d_law_draws
  b_law_draws : Binds K d_law_draws ["cell", "sizes"] []
  g_law_draws : mg "_law_draws" = some (.ref a_law_draws)
  a_law_names : Addr
  d_law_names : FuncData
  F_law_names : Fun K "_law_names" "_law_names" s_law_names a_law_names d_law_names
  b_law_names : Binds K d_law_names ["cell", "count"] []
  g_law_names : mg "_law_names" = some (.ref a_law_names)
  a_law_levels : Addr
  d_law_levels : FuncData
  F_law_levels : Fun K "_law_levels" "_law_levels" s_law_levels a_law_levels d_law_levels
  b_law_levels : Binds K d_law_levels ["cell", "hand", "count", "spread", "base"] []
  g_law_levels : mg "_law_levels" = some (.ref a_law_levels)
  a_law_deed_cell : Addr
  d_law_deed_cell : FuncData
  F_law_deed_cell : Fun K "_law_deed_cell" "_law_deed_cell" s_law_deed_cell a_law_deed_cell d_law_deed_cell
  b_law_deed_cell : Binds K d_law_deed_cell ["script", "k"] []
  g_law_deed_cell : mg "_law_deed_cell" = some (.ref a_law_deed_cell)
  a_law_moved : Addr
  d_law_moved : FuncData
  F_law_moved : Fun K "_law_moved" "_law_moved" s_law_moved a_law_moved d_law_moved
  b_law_moved : Binds K d_law_moved ["rows", "source", "targets"] []
  g_law_moved : mg "_law_moved" = some (.ref a_law_moved)
  a_law_wild_log : Addr
  d_law_wild_log : FuncData
  F_law_wild_log : Fun K "_law_wild_log" "_law_wild_log" s_law_wild_log a_law_wild_log d_law_wild_log
  b_law_wild_log : Binds K d_law_wild_log ["rows", "cells", "width", "most"] []
  g_law_wild_log : mg "_law_wild_log" = some (.ref a_law_wild_log)
  a_law_played : Addr
  d_law_played : FuncData
  F_law_played : Fun K "_law_played" "_law_played" s_law_played a_law_played d_law_played
  b_law_played : Binds K d_law_played ["rows", "log"] []
  g_law_played : mg "_law_played" = some (.ref a_law_played)
  a_law_finished : Addr
  d_law_finished : FuncData
  F_law_finished : Fun K "_law_finished" "_law_finished" s_law_finished a_law_finished d_law_finished
  b_law_finished : Binds K d_law_finished ["rows", "log", "pick"] []
  g_law_finished : mg "_law_finished" = some (.ref a_law_finished)
  a_law_run : Addr
  d_law_run : FuncData
  F_law_run : Fun K "_law_run" "_law_run" s_law_run a_law_run d_law_run
  b_law_run : Binds K d_law_run ["script", "rows", "width"] []
  g_law_run : mg "_law_run" = some (.ref a_law_run)
  a_law_order : Addr
  d_law_order : FuncData
  F_law_order : Fun K "_law_order" "_law_order" s_law_order a_law_order d_law_order
  b_law_order : Binds K d_law_order ["levels"] []
  g_law_order : mg "_law_order" = some (.ref a_law_order)
  a_law_lists : Addr
  d_law_lists : FuncData
  F_law_lists : Fun K "_law_lists" "_law_lists" s_law_lists a_law_lists d_law_lists
  b_law_lists : Binds K d_law_lists ["cell", "shares"] []
  g_law_lists : mg "_law_lists" = some (.ref a_law_lists)
  a_InvalidSheaf_init : Addr
  d_InvalidSheaf_init : FuncData
  F_InvalidSheaf_init : Fun K "__init__" "InvalidSheaf.__init__" s_InvalidSheaf_init a_InvalidSheaf_init d_InvalidSheaf_init
  b_InvalidSheaf_init : Binds K d_InvalidSheaf_init ["self", "index"] []
  a_valid_record : Addr
  d_valid_record : FuncData
  F_valid_record : Fun K "valid_record" "valid_record" s_valid_record a_valid_record d_valid_record
  b_valid_record : Binds K d_valid_record ["text"] []
  g_valid_record : mg "valid_record" = some (.ref a_valid_record)
  a_Sheaf_init : Addr
  d_Sheaf_init : FuncData
  F_Sheaf_init : Fun K "__init__" "Sheaf.__init__" s_Sheaf_init a_Sheaf_init d_Sheaf_init
  b_Sheaf_init : Binds K d_Sheaf_init ["self", "rows"] []
  a_Sheaf_rows : Addr
  d_Sheaf_rows : FuncData
  F_Sheaf_rows : Fun K "rows" "Sheaf.rows" s_Sheaf_rows a_Sheaf_rows d_Sheaf_rows
  b_Sheaf_rows : Binds K d_Sheaf_rows ["self"] []
  a_Sheaf_shares : Addr
  d_Sheaf_shares : FuncData
  F_Sheaf_shares : Fun K "shares" "Sheaf.shares" s_Sheaf_shares a_Sheaf_shares d_Sheaf_shares
  b_Sheaf_shares : Binds K d_Sheaf_shares ["self"] []
  a_ascending : Addr
  d_ascending : FuncData
  F_ascending : Fun K "ascending" "ascending" s_ascending a_ascending d_ascending
  b_ascending : Binds K d_ascending ["items"] []
  g_ascending : mg "ascending" = some (.ref a_ascending)
  a_Sheaf_records : Addr
  d_Sheaf_records : FuncData
  F_Sheaf_records : Fun K "records" "Sheaf.records" s_Sheaf_records a_Sheaf_records d_Sheaf_records
  b_Sheaf_records : Binds K d_Sheaf_records ["self"] []
  a_RepeatedRecord_init : Addr
  d_RepeatedRecord_init : FuncData
  F_RepeatedRecord_init : Fun K "__init__" "RepeatedRecord.__init__" s_RepeatedRecord_init a_RepeatedRecord_init d_RepeatedRecord_init
  b_RepeatedRecord_init : Binds K d_RepeatedRecord_init ["self", "record"] []
  a_outcome_order : Addr
  d_outcome_order : FuncData
  F_outcome_order : Fun K "outcome_order" "outcome_order" s_outcome_order a_outcome_order d_outcome_order
  b_outcome_order : Binds K d_outcome_order ["sheaf"] []
  g_outcome_order : mg "outcome_order" = some (.ref a_outcome_order)
  a_ordered_levels : Addr
  d_ordered_levels : FuncData
  F_ordered_levels : Fun K "ordered_levels" "ordered_levels" s_ordered_levels a_ordered_levels d_ordered_levels
  b_ordered_levels : Binds K d_ordered_levels ["sheaf"] []
  g_ordered_levels : mg "ordered_levels" = some (.ref a_ordered_levels)
  a_capped_power : Addr
  d_capped_power : FuncData
  F_capped_power : Fun K "capped_power" "capped_power" s_capped_power a_capped_power d_capped_power
  b_capped_power : Binds K d_capped_power ["base", "exponent", "limit"] []
  g_capped_power : mg "capped_power" = some (.ref a_capped_power)
  a_capped_caps : Addr
  d_capped_caps : FuncData
  F_capped_caps : Fun K "capped_caps" "capped_caps" s_capped_caps a_capped_caps d_capped_caps
  b_capped_caps : Binds K d_capped_caps ["levels", "end", "breadth"] []
  g_capped_caps : mg "capped_caps" = some (.ref a_capped_caps)
  a_is_outcome : Addr
  d_is_outcome : FuncData
  F_is_outcome : Fun K "is_outcome" "is_outcome" s_is_outcome a_is_outcome d_is_outcome
  dk_is_outcome : ∃ ds, Vals [.int 1] ds ∧ Binds K d_is_outcome ["sheaf", "end", "numbers", "breadth"] ds
  kb_is_outcome : KBn K d_is_outcome ["sheaf", "end", "numbers", "breadth"] 3 ["breadth"] (fun us ws => us ++ ws) (fun vs zs => vs ++ zs)
  g_is_outcome : mg "is_outcome" = some (.ref a_is_outcome)
  a_law_told : Addr
  d_law_told : FuncData
  F_law_told : Fun K "_law_told" "_law_told" s_law_told a_law_told d_law_told
  b_law_told : Binds K d_law_told ["sheaf", "end", "numbers", "width", "left_out"] []
  g_law_told : mg "_law_told" = some (.ref a_law_told)
  a_law_low : Addr
  d_law_low : FuncData
  F_law_low : Fun K "_law_low" "_law_low" s_law_low a_law_low d_law_low
  b_law_low : Binds K d_law_low ["levels"] []
  g_law_low : mg "_law_low" = some (.ref a_law_low)
  a_law_power : Addr
  d_law_power : FuncData
  F_law_power : Fun K "_law_power" "_law_power" s_law_power a_law_power d_law_power
  b_law_power : Binds K d_law_power ["base", "exponent"] []
  g_law_power : mg "_law_power" = some (.ref a_law_power)
  a_law_cap : Addr
  d_law_cap : FuncData
  F_law_cap : Fun K "_law_cap" "_law_cap" s_law_cap a_law_cap d_law_cap
  b_law_cap : Binds K d_law_cap ["level", "end", "width"] []
  g_law_cap : mg "_law_cap" = some (.ref a_law_cap)
  a_law_high : Addr
  d_law_high : FuncData
  F_law_high : Fun K "_law_high" "_law_high" s_law_high a_law_high d_law_high
  b_law_high : Binds K d_law_high ["levels", "width"] []
  g_law_high : mg "_law_high" = some (.ref a_law_high)
  a_law_is_outcome : Addr
  d_law_is_outcome : FuncData
  F_law_is_outcome : Fun K "_law_is_outcome" "_law_is_outcome" s_law_is_outcome a_law_is_outcome d_law_is_outcome
  b_law_is_outcome : Binds K d_law_is_outcome ["levels", "end", "numbers", "width"] []
  g_law_is_outcome : mg "_law_is_outcome" = some (.ref a_law_is_outcome)
  a_law_right : Addr
  d_law_right : FuncData
  F_law_right : Fun K "_law_right" "_law_right" s_law_right a_law_right d_law_right
  b_law_right : Binds K d_law_right ["sheaf", "levels", "end", "numbers", "width", "left_out"] []
  g_law_right : mg "_law_right" = some (.ref a_law_right)
  a_law_is_integer : Addr
  d_law_is_integer : FuncData
  F_law_is_integer : Fun K "_law_is_integer" "_law_is_integer" s_law_is_integer a_law_is_integer d_law_is_integer
  b_law_is_integer : Binds K d_law_is_integer ["value"] []
  g_law_is_integer : mg "_law_is_integer" = some (.ref a_law_is_integer)
  a_law_same_integers : Addr
  d_law_same_integers : FuncData
  F_law_same_integers : Fun K "_law_same_integers" "_law_same_integers" s_law_same_integers a_law_same_integers d_law_same_integers
  b_law_same_integers : Binds K d_law_same_integers ["told", "due"] []
  g_law_same_integers : mg "_law_same_integers" = some (.ref a_law_same_integers)
  a_law_repeated : Addr
  d_law_repeated : FuncData
  F_law_repeated : Fun K "_law_repeated" "_law_repeated" s_law_repeated a_law_repeated d_law_repeated
  b_law_repeated : Binds K d_law_repeated ["rows"] []
  g_law_repeated : mg "_law_repeated" = some (.ref a_law_repeated)
  a_law_refused : Addr
  d_law_refused : FuncData
  F_law_refused : Fun K "_law_refused" "_law_refused" s_law_refused a_law_refused d_law_refused
  b_law_refused : Binds K d_law_refused ["sheaf", "end", "numbers", "width", "left_out", "record"] []
  g_law_refused : mg "_law_refused" = some (.ref a_law_refused)
  a_law : Addr
  d_law : FuncData
  F_law : Fun K "law" "law" s_law a_law d_law
  b_law : Binds K d_law ["script"] []
  g_law : mg "law" = some (.ref a_law)
  c_WornError : Addr
  g_WornError : mg "WornError" = some (.ref c_WornError)
  bx_WornError : BaseX K c_WornError
  xc_WornError : ClsX K c_WornError
  c_InvalidSheaf : Addr
  g_InvalidSheaf : mg "InvalidSheaf" = some (.ref c_InvalidSheaf)
  ox_InvalidSheaf : OwnX K c_InvalidSheaf a_InvalidSheaf_init
  nf_InvalidSheaf : PySem.W.findIn K (.ref c_InvalidSheaf) "index" = some none
  xc_InvalidSheaf : ClsX K c_InvalidSheaf
  c_RepeatedRecord : Addr
  g_RepeatedRecord : mg "RepeatedRecord" = some (.ref c_RepeatedRecord)
  ox_RepeatedRecord : OwnX K c_RepeatedRecord a_RepeatedRecord_init
  nf_RepeatedRecord : PySem.W.findIn K (.ref c_RepeatedRecord) "record" = some none
  cx_RepeatedRecord : CatC K c_RepeatedRecord
  xc_RepeatedRecord : ClsX K c_RepeatedRecord
  c_UnknownRecord : Addr
  g_UnknownRecord : mg "UnknownRecord" = some (.ref c_UnknownRecord)
  xc_UnknownRecord : ClsX K c_UnknownRecord
  c_NoOutcome : Addr
  g_NoOutcome : mg "NoOutcome" = some (.ref c_NoOutcome)
  xc_NoOutcome : ClsX K c_NoOutcome
  c_Impossible : Addr
  g_Impossible : mg "Impossible" = some (.ref c_Impossible)
  xc_Impossible : ClsX K c_Impossible
  su_RepeatedRecord_WornError : PySem.W.subIn K (.ref c_RepeatedRecord) (.ref c_WornError) = some true
  kv_RepeatedRecord : PySem.W.kitOne K (.ref c_RepeatedRecord) (.type "ValueError") = some true
  su_RepeatedRecord_UnknownRecord : PySem.W.subIn K (.ref c_RepeatedRecord) (.ref c_UnknownRecord) = some false
  su_RepeatedRecord_NoOutcome : PySem.W.subIn K (.ref c_RepeatedRecord) (.ref c_NoOutcome) = some false
  su_RepeatedRecord_InvalidSheaf : PySem.W.subIn K (.ref c_RepeatedRecord) (.ref c_InvalidSheaf) = some false
  su_RepeatedRecord_Impossible : PySem.W.subIn K (.ref c_RepeatedRecord) (.ref c_Impossible) = some false
  c_Sheaf : Addr
  g_Sheaf : mg "Sheaf" = some (.ref c_Sheaf)
  cls_Sheaf : Cls K c_Sheaf
  na_Sheaf__rows : NoAttr K c_Sheaf "_rows"
  mk_Sheaf : Mk K c_Sheaf a_Sheaf_init
  me_Sheaf_rows : Meth K c_Sheaf "rows" a_Sheaf_rows
  me_Sheaf_shares : Meth K c_Sheaf "shares" a_Sheaf_shares
  me_Sheaf_records : Meth K c_Sheaf "records" a_Sheaf_records
  n_ValueError : mg "ValueError" = none
  n_any : mg "any" = none
  n_bool : mg "bool" = none
  n_enumerate : mg "enumerate" = none
  n_int : mg "int" = none
  n_isinstance : mg "isinstance" = none
  n_len : mg "len" = none
  n_list : mg "list" = none
  n_max : mg "max" = none
  n_min : mg "min" = none
  n_range : mg "range" = none
  n_sorted : mg "sorted" = none
  n_str : mg "str" = none
  n_sum : mg "sum" = none
  n_tuple : mg "tuple" = none
  t_LONGEST : Tok
  g_LONGEST : mg "LONGEST" = some (.int 8 t_LONGEST)
  t_SIGNS : Tok
  g_SIGNS : mg "SIGNS" = some (.str "abcdefghijklmnopqrstuvwxyz0123456789" t_SIGNS)
abbrev Txt.a_law_moved_v2 {K : PySem.W.Frag} {mg : Str → Option Value} (T : Txt K mg) := T.a_law_moved
abbrev Txt.d_law_moved_v2 {K : PySem.W.Frag} {mg : Str → Option Value} (T : Txt K mg) := T.d_law_moved
abbrev Txt.F_law_moved_v2 {K : PySem.W.Frag} {mg : Str → Option Value} (T : Txt K mg) := T.F_law_moved
abbrev Txt.g_law_moved_v2 {K : PySem.W.Frag} {mg : Str → Option Value} (T : Txt K mg) := T.g_law_moved
abbrev Txt.b_law_moved_v2 {K : PySem.W.Frag} {mg : Str → Option Value} (T : Txt K mg) := T.b_law_moved
def cmOf {K : PySem.W.Frag} {mg : Str → Option Value} (T : Txt K mg) : String → Addr := fun s => if s = "Sheaf" then T.c_Sheaf else if s = "WornError" then T.c_WornError else if s = "InvalidSheaf" then T.c_InvalidSheaf else if s = "RepeatedRecord" then T.c_RepeatedRecord else if s = "UnknownRecord" then T.c_UnknownRecord else if s = "NoOutcome" then T.c_NoOutcome else if s = "Impossible" then T.c_Impossible else 0
def wdOf {K : PySem.W.Frag} {mg : Str → Option Value} (T : Txt K mg) : Wd := ⟨K, cmOf T⟩
theorem cm_Sheaf {K : PySem.W.Frag} {mg : Str → Option Value} (T : Txt K mg) : (wdOf T).cm "Sheaf" = T.c_Sheaf := by simp [wdOf, cmOf]
theorem cm_WornError {K : PySem.W.Frag} {mg : Str → Option Value} (T : Txt K mg) : (wdOf T).cm "WornError" = T.c_WornError := by simp [wdOf, cmOf]
theorem cm_InvalidSheaf {K : PySem.W.Frag} {mg : Str → Option Value} (T : Txt K mg) : (wdOf T).cm "InvalidSheaf" = T.c_InvalidSheaf := by simp [wdOf, cmOf]
theorem cm_RepeatedRecord {K : PySem.W.Frag} {mg : Str → Option Value} (T : Txt K mg) : (wdOf T).cm "RepeatedRecord" = T.c_RepeatedRecord := by simp [wdOf, cmOf]
theorem cm_UnknownRecord {K : PySem.W.Frag} {mg : Str → Option Value} (T : Txt K mg) : (wdOf T).cm "UnknownRecord" = T.c_UnknownRecord := by simp [wdOf, cmOf]
theorem cm_NoOutcome {K : PySem.W.Frag} {mg : Str → Option Value} (T : Txt K mg) : (wdOf T).cm "NoOutcome" = T.c_NoOutcome := by simp [wdOf, cmOf]
theorem cm_Impossible {K : PySem.W.Frag} {mg : Str → Option Value} (T : Txt K mg) : (wdOf T).cm "Impossible" = T.c_Impossible := by simp [wdOf, cmOf]
/-! ### the mirrors -/
noncomputable def m_law_cell : Ctx.T [.fz 0 Script, .fz 1 Int] → Rs Int := fun γ => Rs.bind (Rs.bind (Rs.ok γ.2.1) (fun x => Rs.bind (Rs.bind (Rs.ok γ.1) (fun x => Rs.ok (x.ns.length : Int))) (fun y => Rs.ok (decide (x < y))))) (fun b => if b = true then Rs.bind (Rs.bind (Rs.ok γ.1) (fun x => Rs.bind (Rs.ok γ.2.1) (fun y => getI x.ns y))) (fun x => Rs.ok x) else Rs.ok (0 : Int))
noncomputable def m_law_draws_l1 : Ctx.T [.fz 5 Int, .fz 4 Bool, .fz 3 Int, .ow 2 (List Int), .fz 0 Int, .bo 1 (List Int)] → Rs (Ctx.T [.fz 4 Bool, .fz 3 Int, .ow 2 (List Int), .fz 0 Int, .bo 1 (List Int)]) := fun γ => Rs.bind (Rs.bind (Rs.bind (Rs.ok γ.2.1) (fun b => if b = true then Rs.bind (Rs.ok γ.2.2.1) (fun x => Rs.bind (Rs.ok (0 : Int)) (fun y => Rs.ok (decide (y < x)))) else Rs.ok false)) (fun b => if b = true then Rs.bind (Rs.bind (Rs.bind (Rs.bind (Rs.ok γ.2.2.1) (fun x => Rs.ok x)) (fun x => Rs.bind (Rs.bind (Rs.ok γ.2.2.2.2.2.1) (fun x => Rs.bind (Rs.ok γ.1) (fun y => getI x y))) (fun y => if 0 < y then Rs.ok (x % y) else Rs.no))) (fun a => Rs.bind (appI γ.2.2.2.1 a) (fun ys => Rs.ok (γ.1, γ.2.1, γ.2.2.1, ys, γ.2.2.2.2.1, γ.2.2.2.2.2.1, ())))) (fun γ => Rs.bind (Rs.bind (Rs.bind (Rs.bind (Rs.ok γ.2.2.1) (fun x => Rs.ok x)) (fun x => Rs.bind (Rs.bind (Rs.ok γ.2.2.2.2.2.1) (fun x => Rs.bind (Rs.ok γ.1) (fun y => getI x y))) (fun y => if CDiv x y then Rs.ok (x / y) else Rs.no))) (fun a => Rs.ok (γ.1, γ.2.1, a, γ.2.2.2.1, γ.2.2.2.2.1, γ.2.2.2.2.2.1, ()))) (fun γ => Rs.ok (γ.2.1, γ.2.2.1, γ.2.2.2.1, γ.2.2.2.2.1, γ.2.2.2.2.2.1, ()))) else Rs.bind (Rs.bind (Rs.bind (Rs.bind (Rs.bind (Rs.bind (Rs.ok γ.2.2.2.2.1) (fun x => Rs.bind (Rs.bind (Rs.ok (7919 : Int)) (fun x => Rs.bind (Rs.ok γ.1) (fun y => if CMul x y then Rs.ok (x * y) else Rs.no))) (fun y => Rs.ok (x + y)))) (fun x => Rs.bind (Rs.ok (13 : Int)) (fun y => Rs.ok (x + y)))) (fun x => Rs.ok x)) (fun x => Rs.bind (Rs.ok (2147483647 : Int)) (fun y => if 0 < y then Rs.ok (x % y) else Rs.no))) (fun a => Rs.ok (a, γ.1, γ.2.1, γ.2.2.1, γ.2.2.2.1, γ.2.2.2.2.1, γ.2.2.2.2.2.1, ()))) (fun γ => Rs.bind (Rs.bind (Rs.bind (Rs.bind (Rs.bind (Rs.ok γ.1) (fun x => Rs.bind (Rs.bind (Rs.ok γ.1) (fun x => Rs.bind (Rs.ok (48271 : Int)) (fun y => Rs.ok (x + y)))) (fun y => if CMul x y then Rs.ok (x * y) else Rs.no))) (fun x => Rs.ok x)) (fun x => Rs.bind (Rs.ok (2147483629 : Int)) (fun y => if 0 < y then Rs.ok (x % y) else Rs.no))) (fun a => Rs.ok (a, γ.2.1, γ.2.2.1, γ.2.2.2.1, γ.2.2.2.2.1, γ.2.2.2.2.2.1, γ.2.2.2.2.2.2.1, ()))) (fun γ => Rs.bind (Rs.bind (Rs.bind (Rs.bind (Rs.bind (Rs.bind (Rs.ok γ.1) (fun x => Rs.bind (Rs.bind (Rs.ok γ.1) (fun x => Rs.bind (Rs.ok (69621 : Int)) (fun y => Rs.ok (x + y)))) (fun y => if CMul x y then Rs.ok (x * y) else Rs.no))) (fun x => Rs.bind (Rs.bind (Rs.ok (31 : Int)) (fun x => Rs.bind (Rs.ok γ.2.1) (fun y => if CMul x y then Rs.ok (x * y) else Rs.no))) (fun y => Rs.ok (x + y)))) (fun x => Rs.ok x)) (fun x => Rs.bind (Rs.ok (2147483647 : Int)) (fun y => if 0 < y then Rs.ok (x % y) else Rs.no))) (fun a => Rs.ok (a, γ.2.1, γ.2.2.1, γ.2.2.2.1, γ.2.2.2.2.1, γ.2.2.2.2.2.1, γ.2.2.2.2.2.2.1, ()))) (fun γ => Rs.bind (Rs.bind (Rs.bind (Rs.bind (Rs.bind (Rs.ok γ.1) (fun x => Rs.bind (Rs.ok (9 : Int)) (fun y => if CDiv x y then Rs.ok (x / y) else Rs.no))) (fun x => Rs.ok x)) (fun x => Rs.bind (Rs.bind (Rs.ok γ.2.2.2.2.2.2.1) (fun x => Rs.bind (Rs.ok γ.2.1) (fun y => getI x y))) (fun y => if 0 < y then Rs.ok (x % y) else Rs.no))) (fun a => Rs.bind (appI γ.2.2.2.2.1 a) (fun ys => Rs.ok (γ.1, γ.2.1, γ.2.2.1, γ.2.2.2.1, ys, γ.2.2.2.2.2.1, γ.2.2.2.2.2.2.1, ())))) (fun γ => Rs.ok (γ.2.2.1, γ.2.2.2.1, γ.2.2.2.2.1, γ.2.2.2.2.2.1, γ.2.2.2.2.2.2.1, ()))))))) (fun γ => Rs.ok (γ.1, γ.2.1, γ.2.2.1, γ.2.2.2.1, γ.2.2.2.2.1, ()))
noncomputable def m_law_draws : Ctx.T [.fz 0 Int, .bo 1 (List Int)] → Rs (List Int) := fun γ => Rs.bind (Rs.bind (Rs.bind (Rs.ok ([] : List Int)) Rs.ok) (fun a => Rs.ok (a, γ.1, γ.2.1, ()))) (fun γ => Rs.bind (Rs.bind (Rs.bind (Rs.ok γ.2.1) (fun x => Rs.ok x)) (fun a => Rs.ok (a, γ.1, γ.2.1, γ.2.2.1, ()))) (fun γ => Rs.bind (Rs.bind (Rs.bind (Rs.ok γ.1) (fun x => Rs.bind (Rs.bind (Rs.ok (10 : Int)) (fun x => Rs.bind (Rs.ok (18 : Int)) (fun y => if CPow x y then Rs.ok (x ^ y.toNat) else Rs.no))) (fun y => Rs.ok (decide (y ≤ x))))) (fun a => Rs.ok (a, γ.1, γ.2.1, γ.2.2.1, γ.2.2.2.1, ()))) (fun γ => Rs.bind (Rs.bind (Rs.bind (Rs.bind (Rs.ok γ.2.2.2.2.1) (fun x => Rs.ok (x.length : Int))) (fun n => Rng 0 n)) (fun xs => Rs.fold (fun γ x => m_law_draws_l1 (x, γ)) γ xs)) (fun γ => Rs.ok γ.2.2.1))))
noncomputable def m_law_names_l1 : Ctx.T [.fz 5 Int, .ow 4 (List Str), .ow 3 (List Int), .fz 2 Str, .fz 1 Int] → Rs (Ctx.T [.ow 4 (List Str), .ow 3 (List Int), .fz 2 Str, .fz 1 Int]) := fun γ => Rs.bind (Rs.bind (Rs.bind (Rs.bind (Rs.bind (Rs.bind (Rs.ok γ.2.2.1) (fun x => Rs.bind (Rs.ok (1 : Int)) (fun y => getI x y))) (fun x => Rs.bind (Rs.bind (Rs.ok γ.1) (fun x => Rs.bind (Rs.bind (Rs.ok (1 : Int)) (fun x => Rs.bind (Rs.bind (Rs.bind (Rs.ok γ.2.2.1) (fun x => Rs.bind (Rs.ok (2 : Int)) (fun y => getI x y))) (fun x => Rs.bind (Rs.ok (5 : Int)) (fun y => if CDiv x y then Rs.ok (x / y) else Rs.no))) (fun y => Rs.ok (x + y)))) (fun y => if CMul x y then Rs.ok (x * y) else Rs.no))) (fun y => Rs.ok (x + y)))) (fun x => Rs.ok x)) (fun x => Rs.bind (Rs.ok (36 : Int)) (fun y => if 0 < y then Rs.ok (x % y) else Rs.no))) (fun a => Rs.ok (a, γ.1, γ.2.1, γ.2.2.1, γ.2.2.2.1, γ.2.2.2.2.1, ()))) (fun γ => Rs.bind (Rs.bind (Rs.bind (Rs.bind (Rs.bind (Rs.ok γ.2.2.2.1) (fun x => Rs.bind (Rs.ok (0 : Int)) (fun y => getI x y))) (fun x => Rs.bind (Rs.ok (0 : Int)) (fun y => Rs.ok (decide (x = y))))) (fun b => if b = true then Rs.bind (Rs.bind (Rs.ok γ.2.2.2.2.2.1) (fun x => Rs.bind (Rs.bind (Rs.ok (1 : Int)) (fun x => Rs.bind (Rs.bind (Rs.bind (Rs.ok γ.2.2.2.1) (fun x => Rs.bind (Rs.ok (2 : Int)) (fun y => getI x y))) (fun x => Rs.bind (Rs.ok (5 : Int)) (fun y => if CDiv x y then Rs.ok (x / y) else Rs.no))) (fun y => Rs.ok (x + y)))) (fun y => if CMul x y then Rs.ok (x * y) else Rs.no))) (fun x => Rs.bind (Rs.ok (36 : Int)) (fun y => Rs.ok (decide (x ≤ y)))) else Rs.ok false)) (fun b => if b = true then Rs.bind (Rs.bind (Rs.bind (Rs.ok γ.2.2.2.2.1) (fun x => Rs.bind (Rs.ok γ.1) (fun y => getI (chars x) y))) (fun a => Rs.bind (appI γ.2.2.1 a) (fun ys => Rs.ok (γ.1, γ.2.1, ys, γ.2.2.2.1, γ.2.2.2.2.1, γ.2.2.2.2.2.1, ())))) (fun γ => Rs.ok (γ.2.2.1, γ.2.2.2.1, γ.2.2.2.2.1, γ.2.2.2.2.2.1, ())) else Rs.bind (Rs.bind (Rs.bind (Rs.bind (Rs.bind (Rs.bind (Rs.bind (Rs.ok (36 : Int)) (fun x => Rs.bind (Rs.bind (Rs.ok γ.2.2.2.1) (fun x => Rs.bind (Rs.ok (1 : Int)) (fun y => getI x y))) (fun y => if CMul x y then Rs.ok (x * y) else Rs.no))) (fun x => Rs.bind (Rs.bind (Rs.ok γ.2.2.2.1) (fun x => Rs.bind (Rs.ok (2 : Int)) (fun y => getI x y))) (fun y => Rs.ok (x + y)))) (fun x => Rs.bind (Rs.bind (Rs.ok (7 : Int)) (fun x => Rs.bind (Rs.ok γ.2.1) (fun y => if CMul x y then Rs.ok (x * y) else Rs.no))) (fun y => Rs.ok (x + y)))) (fun x => Rs.ok x)) (fun x => Rs.bind (Rs.ok (1296 : Int)) (fun y => if 0 < y then Rs.ok (x % y) else Rs.no))) (fun a => Rs.ok (a, γ.2.1, γ.2.2.1, γ.2.2.2.1, γ.2.2.2.2.1, γ.2.2.2.2.2.1, ()))) (fun γ => Rs.bind (Rs.bind (Rs.bind (Rs.bind (Rs.ok (4 : Int)) (fun x => Rs.bind (Rs.ok γ.2.1) (fun y => if CMul x y then Rs.ok (x * y) else Rs.no))) (fun x => Rs.bind (Rs.bind (Rs.bind (Rs.bind (Rs.bind (Rs.bind (Rs.ok γ.2.2.2.1) (fun x => Rs.bind (Rs.ok (2 : Int)) (fun y => getI x y))) (fun x => Rs.ok x)) (fun x => Rs.bind (Rs.ok (4 : Int)) (fun y => if 0 < y then Rs.ok (x % y) else Rs.no))) (fun x => Rs.bind (Rs.ok (1 : Int)) (fun y => Rs.ok (decide (y < x))))) (fun x => Rs.ok (if x = true then (1 : Int) else 0))) (fun y => if CMul x y then Rs.ok (x * y) else Rs.no))) (fun a => Rs.ok (a, γ.1, γ.2.2.1, γ.2.2.2.1, γ.2.2.2.2.1, γ.2.2.2.2.2.1, ()))) (fun γ => Rs.bind (Rs.bind (Rs.bind (Rs.bind (Rs.bind (Rs.ok γ.2.2.2.2.1) (fun x => Rs.bind (Rs.bind (Rs.ok γ.2.2.2.1) (fun x => Rs.bind (Rs.bind (Rs.ok (4 : Int)) (fun x => Rs.bind (Rs.ok γ.1) (fun y => Rs.ok (x + y)))) (fun y => getI x y))) (fun y => getI (chars x) y))) (fun x => Rs.bind (Rs.bind (Rs.ok γ.2.2.2.2.1) (fun x => Rs.bind (Rs.bind (Rs.ok γ.2.2.2.1) (fun x => Rs.bind (Rs.bind (Rs.ok (5 : Int)) (fun x => Rs.bind (Rs.ok γ.1) (fun y => Rs.ok (x + y)))) (fun y => getI x y))) (fun y => getI (chars x) y))) (fun y => catS x y))) (fun x => Rs.bind (Rs.bind (Rs.ok γ.2.2.2.2.1) (fun x => Rs.bind (Rs.bind (Rs.ok γ.2.2.2.1) (fun x => Rs.bind (Rs.bind (Rs.ok (6 : Int)) (fun x => Rs.bind (Rs.ok γ.1) (fun y => Rs.ok (x + y)))) (fun y => getI x y))) (fun y => getI (chars x) y))) (fun y => catS x y))) (fun a => Rs.ok (a, γ.1, γ.2.1, γ.2.2.1, γ.2.2.2.1, γ.2.2.2.2.1, γ.2.2.2.2.2.1, ()))) (fun γ => Rs.bind (Rs.bind (Rs.bind (Rs.bind (Rs.ok γ.1) (fun x => Rs.bind (Rs.ok γ.1) (fun y => catS x y))) (fun x => Rs.bind (Rs.ok none) (fun l => Rs.bind (Rs.bind (Rs.bind (Rs.ok γ.2.2.2.2.1) (fun x => Rs.bind (Rs.bind (Rs.ok (3 : Int)) (fun x => Rs.bind (Rs.ok γ.2.1) (fun y => Rs.ok (x + y)))) (fun y => getI x y))) (fun i => Rs.ok (some i))) (fun h => Rs.ok (cutS x l h))))) (fun a => Rs.ok (a, γ.2.1, γ.2.2.1, γ.2.2.2.1, γ.2.2.2.2.1, γ.2.2.2.2.2.1, γ.2.2.2.2.2.2.1, ()))) (fun γ => Rs.bind (Rs.bind (Rs.bind (Rs.bind (Rs.ok γ.2.2.2.2.2.1) (fun x => Rs.bind (Rs.bind (Rs.ok γ.2.2.1) (fun x => Rs.bind (Rs.ok (36 : Int)) (fun y => if CDiv x y then Rs.ok (x / y) else Rs.no))) (fun y => getI (chars x) y))) (fun x => Rs.bind (Rs.bind (Rs.ok γ.2.2.2.2.2.1) (fun x => Rs.bind (Rs.bind (Rs.bind (Rs.ok γ.2.2.1) (fun x => Rs.ok x)) (fun x => Rs.bind (Rs.ok (36 : Int)) (fun y => if 0 < y then Rs.ok (x % y) else Rs.no))) (fun y => getI (chars x) y))) (fun y => catS x y))) (fun a => Rs.ok (a, γ.1, γ.2.2.2.1, γ.2.2.2.2.1, γ.2.2.2.2.2.1, γ.2.2.2.2.2.2.1, ()))) (fun γ => Rs.bind (Rs.bind (Rs.bind (Rs.bind (Rs.bind (Rs.bind (Rs.ok γ.2.1) (fun x => Rs.bind (Rs.ok γ.1) (fun y => catS x y))) (fun a => Rs.bind (Rs.bind (Rs.bind (Rs.ok γ.1) (fun x => Rs.bind (Rs.ok γ.2.1) (fun y => catS x y))) (fun a => Rs.bind (Rs.ok ([] : List Str)) (fun g => Rs.ok (a :: g)))) (fun g => Rs.ok (a :: g)))) Rs.ok) (fun x => Rs.bind (Rs.bind (Rs.bind (Rs.bind (Rs.ok γ.2.2.2.1) (fun x => Rs.bind (Rs.ok (2 : Int)) (fun y => getI x y))) (fun x => Rs.ok x)) (fun x => Rs.bind (Rs.ok (2 : Int)) (fun y => if 0 < y then Rs.ok (x % y) else Rs.no))) (fun y => getI x y))) (fun a => Rs.bind (appI γ.2.2.1 a) (fun ys => Rs.ok (γ.1, γ.2.1, ys, γ.2.2.2.1, γ.2.2.2.2.1, γ.2.2.2.2.2.1, ())))) (fun γ => Rs.ok (γ.2.2.1, γ.2.2.2.1, γ.2.2.2.2.1, γ.2.2.2.2.2.1, ()))))))))) (fun γ => Rs.ok (γ.1, γ.2.1, γ.2.2.1, γ.2.2.2.1, ())))
noncomputable def m_law_names : Ctx.T [.fz 0 Int, .fz 1 Int] → Rs (List Str) := fun γ => Rs.bind (Rs.bind (Rs.ok ("abcdefghijklmnopqrstuvwxyz0123456789" : Str)) (fun a => Rs.ok (a, γ.1, γ.2.1, ()))) (fun γ => Rs.bind (Rs.bind (Rs.bind (Rs.bind (Rs.ok γ.2.1) (fun a => Rs.bind (Rs.bind (Rs.bind (Rs.bind (Rs.bind (Rs.ok (2 : Int)) (fun a => Rs.bind (Rs.bind (Rs.ok (36 : Int)) (fun a => Rs.bind (Rs.bind (Rs.ok (35 : Int)) (fun a => Rs.bind (Rs.ok ([] : List Int)) (fun g => Rs.ok (a :: g)))) (fun g => Rs.ok (a :: g)))) (fun g => Rs.ok (a :: g)))) Rs.ok) (fun x => Rs.bind (Rs.bind (Rs.bind (Rs.bind (Rs.ok (7 : Int)) (fun a => Rs.bind (Rs.bind (Rs.ok (36 : Int)) (fun a => Rs.bind (Rs.bind (Rs.ok (36 : Int)) (fun a => Rs.bind (Rs.bind (Rs.ok (36 : Int)) (fun a => Rs.bind (Rs.ok ([] : List Int)) (fun g => Rs.ok (a :: g)))) (fun g => Rs.ok (a :: g)))) (fun g => Rs.ok (a :: g)))) (fun g => Rs.ok (a :: g)))) Rs.ok) (fun x => Rs.bind (Rs.ok γ.2.2.1) (fun y => repI x y))) (fun y => catI x y))) (fun a => Rs.bind (Rs.ok ()) (fun g => Rs.ok (a, g)))) (fun g => Rs.ok (a, g)))) m_law_draws) (fun a => Rs.ok (a, γ.1, γ.2.2.1, ()))) (fun γ => Rs.bind (Rs.bind (Rs.bind (Rs.ok ([] : List Str)) Rs.ok) (fun a => Rs.ok (a, γ.1, γ.2.1, γ.2.2.1, ()))) (fun γ => Rs.bind (Rs.bind (Rs.bind (Rs.ok γ.2.2.2.1) (fun n => Rng 0 n)) (fun xs => Rs.fold (fun γ x => m_law_names_l1 (x, γ)) γ xs)) (fun γ => Rs.ok γ.1))))
noncomputable def m_law_levels_e1 : Ctx.T [.fz 6 Int, .ow 5 (List Int), .fz 2 Int, .fz 4 Int] → Rs Int := fun γ => Rs.bind (Rs.ok γ.2.2.2.1) (fun x => Rs.bind (Rs.bind (Rs.bind (Rs.ok (1 : Int)) (fun x => Rs.bind (Rs.bind (Rs.ok γ.2.1) (fun x => Rs.bind (Rs.bind (Rs.ok (2 : Int)) (fun x => Rs.bind (Rs.ok γ.2.2.1) (fun y => if CMul x y then Rs.ok (x * y) else Rs.no))) (fun y => getI x y))) (fun y => Rs.ok (x + y)))) (fun x => Rs.bind (Rs.bind (Rs.ok γ.2.1) (fun x => Rs.bind (Rs.bind (Rs.bind (Rs.ok (2 : Int)) (fun x => Rs.bind (Rs.ok γ.1) (fun y => if CMul x y then Rs.ok (x * y) else Rs.no))) (fun x => Rs.bind (Rs.ok (1 : Int)) (fun y => Rs.ok (x + y)))) (fun y => getI x y))) (fun y => if CMul x y then Rs.ok (x * y) else Rs.no))) (fun y => Rs.ok (x + y)))
noncomputable def m_law_levels_e2 : Ctx.T [.fz 6 Int, .ow 5 (List Int), .fz 2 Int, .fz 4 Int] → Rs Int := fun γ => Rs.bind (Rs.ok γ.2.2.2.1) (fun x => Rs.bind (Rs.bind (Rs.bind (Rs.bind (Rs.ok γ.1) (fun x => Rs.bind (Rs.bind (Rs.ok γ.2.1) (fun x => Rs.bind (Rs.bind (Rs.ok (2 : Int)) (fun x => Rs.bind (Rs.ok γ.2.2.1) (fun y => if CMul x y then Rs.ok (x * y) else Rs.no))) (fun y => getI x y))) (fun y => Rs.ok (x + y)))) (fun x => Rs.ok x)) (fun x => Rs.bind (Rs.ok γ.2.2.1) (fun y => if 0 < y then Rs.ok (x % y) else Rs.no))) (fun y => Rs.ok (x + y)))
noncomputable def m_law_levels_e3 : Ctx.T [.fz 6 Int, .ow 5 (List Int), .fz 4 Int] → Rs Int := fun γ => Rs.bind (Rs.ok γ.2.2.1) (fun x => Rs.bind (Rs.bind (Rs.ok γ.2.1) (fun x => Rs.bind (Rs.bind (Rs.ok (2 : Int)) (fun x => Rs.bind (Rs.ok γ.1) (fun y => if CMul x y then Rs.ok (x * y) else Rs.no))) (fun y => getI x y))) (fun y => Rs.ok (x + y)))
noncomputable def m_law_levels : Ctx.T [.fz 0 Int, .fz 1 Int, .fz 2 Int, .fz 3 Int, .fz 4 Int] → Rs (List Int) := fun γ => Rs.bind (Rs.bind (Rs.bind (Rs.bind (Rs.ok γ.1) (fun a => Rs.bind (Rs.bind (Rs.bind (Rs.bind (Rs.bind (Rs.bind (Rs.ok γ.2.2.2.1) (fun a => Rs.bind (Rs.bind (Rs.ok (2 : Int)) (fun a => Rs.bind (Rs.ok ([] : List Int)) (fun g => Rs.ok (a :: g)))) (fun g => Rs.ok (a :: g)))) Rs.ok) (fun x => Rs.bind (Rs.ok γ.2.2.1) (fun y => repI x y))) (fun x => Rs.bind (Rs.bind (Rs.bind (Rs.ok (40 : Int)) (fun a => Rs.bind (Rs.ok ([] : List Int)) (fun g => Rs.ok (a :: g)))) Rs.ok) (fun y => catI x y))) (fun a => Rs.bind (Rs.ok ()) (fun g => Rs.ok (a, g)))) (fun g => Rs.ok (a, g)))) m_law_draws) (fun a => Rs.ok (a, γ.2.1, γ.2.2.1, γ.2.2.2.2.1, ()))) (fun γ => Rs.bind (Rs.bind (Rs.ok γ.2.1) (fun x => Rs.bind (Rs.ok (0 : Int)) (fun y => Rs.ok (decide (x = y))))) (fun b => if b = true then Rs.bind (Rs.bind (Rs.bind (Rs.ok γ.2.2.2.1) (fun a => Rs.bind (Rs.ok ([] : List Int)) (fun g => Rs.ok (a :: g)))) Rs.ok) (fun x => Rs.bind (Rs.ok γ.2.2.1) (fun y => repI x y)) else Rs.bind (Rs.bind (Rs.ok γ.2.1) (fun x => Rs.bind (Rs.ok (1 : Int)) (fun y => Rs.ok (decide (x = y))))) (fun b => if b = true then Rs.bind (Rs.bind (Rs.ok γ.2.2.1) (fun n => Rng 0 n)) (fun xs => if xs.length ≤ 16777216 then Rs.comp (fun x => Rs.ok true) (fun x => m_law_levels_e1 (x, (γ.1, γ.2.2.1, γ.2.2.2.1, ()))) xs else Rs.no) else Rs.bind (Rs.bind (Rs.ok γ.2.1) (fun x => Rs.bind (Rs.ok (2 : Int)) (fun y => Rs.ok (decide (x = y))))) (fun b => if b = true then Rs.bind (Rs.bind (Rs.ok γ.2.2.1) (fun n => Rng 0 n)) (fun xs => if xs.length ≤ 16777216 then Rs.comp (fun x => Rs.ok true) (fun x => m_law_levels_e2 (x, (γ.1, γ.2.2.1, γ.2.2.2.1, ()))) xs else Rs.no) else Rs.bind (Rs.bind (Rs.ok γ.2.2.1) (fun n => Rng 0 n)) (fun xs => if xs.length ≤ 16777216 then Rs.comp (fun x => Rs.ok true) (fun x => m_law_levels_e3 (x, (γ.1, γ.2.2.2.1, ()))) xs else Rs.no)))))
noncomputable def m_law_deed_cell : Ctx.T [.fz 0 Script, .fz 1 Int] → Rs Int := fun γ => Rs.bind (Rs.bind (Rs.ok γ.2.1) (fun x => Rs.bind (Rs.bind (Rs.ok γ.1) (fun x => Rs.ok (x.ns.length : Int))) (fun y => Rs.ok (decide (x < y))))) (fun b => if b = true then Rs.bind (Rs.bind (Rs.ok γ.1) (fun x => Rs.bind (Rs.ok γ.2.1) (fun y => getI x.ns y))) (fun x => Rs.ok x) else Rs.bind (Rs.bind (Rs.ok (104729 : Int)) (fun x => Rs.bind (Rs.bind (Rs.ok γ.2.1) (fun x => Rs.bind (Rs.ok (1 : Int)) (fun y => Rs.ok (x + y)))) (fun y => if CMul x y then Rs.ok (x * y) else Rs.no))) (fun x => Rs.bind (Rs.bind (Rs.ok (31 : Int)) (fun x => Rs.bind (Rs.bind (Rs.bind (Rs.ok γ.1) (fun a => Rs.bind (Rs.bind (Rs.ok (1 : Int)) (fun a => Rs.bind (Rs.ok ()) (fun g => Rs.ok (a, g)))) (fun g => Rs.ok (a, g)))) m_law_cell) (fun y => if CMul x y then Rs.ok (x * y) else Rs.no))) (fun y => Rs.ok (x + y))))
noncomputable def m_law_moved_l1 : Ctx.T [.fz 4 Int, .ow 3 (List (Int × Str)), .bo 0 (List (Int × Str)), .fz 1 Int, .bo 2 (List Int)] → Rs (Ctx.T [.ow 3 (List (Int × Str)), .bo 0 (List (Int × Str)), .fz 1 Int, .bo 2 (List Int)]) := fun γ => Rs.bind (Rs.bind (Rs.bind (Rs.bind (Rs.bind (Rs.bind (Rs.ok γ.2.2.1) (fun x => Rs.bind (Rs.ok γ.2.2.2.1) (fun y => getI x y))) (fun x => Rs.ok x.1)) (fun x => Rs.bind (Rs.ok (1 : Int)) (fun y => Rs.ok (x - y)))) (fun x => Rs.bind (Rs.bind (Rs.bind (Rs.ok γ.2.2.1) (fun x => Rs.bind (Rs.ok γ.2.2.2.1) (fun y => getI x y))) (fun x => Rs.ok x.2)) (fun y => Rs.ok (x, y)))) (fun a => Rs.bind (Rs.ok γ.1) (fun k => Rs.bind (setI γ.2.1 k a) (fun ys => Rs.ok (γ.1, ys, γ.2.2.1, γ.2.2.2.1, γ.2.2.2.2.1, ()))))) (fun γ => Rs.ok (γ.2.1, γ.2.2.1, γ.2.2.2.1, γ.2.2.2.2.1, ()))
noncomputable def m_law_moved : Ctx.T [.bo 0 (List (Int × Str)), .fz 1 Int, .bo 2 (List Int)] → Rs (List (Int × Str)) := fun γ => Rs.bind (Rs.bind (Rs.bind (Rs.ok γ.1) (fun x => Rs.ok x)) (fun a => Rs.ok (a, γ.1, γ.2.1, γ.2.2.1, ()))) (fun γ => Rs.bind (Rs.bind (Rs.bind (Rs.bind (Rs.bind (Rs.bind (Rs.ok γ.2.2.1) (fun a => Rs.bind (Rs.ok ([] : List Int)) (fun g => Rs.ok (a :: g)))) Rs.ok) (fun x => Rs.bind (Rs.bind (Rs.ok γ.2.2.2.1) (fun x => Rs.ok x)) (fun y => catI x y))) Rs.ok) (fun xs => Rs.fold (fun γ x => m_law_moved_l1 (x, γ)) γ xs)) (fun γ => Rs.ok γ.1))
noncomputable def m_law_wild_log_t1 : Ctx.T [.fz 12 (Int × Str), .fz 11 Int, .fz 0 (List (Int × Str))] → Rs Bool := fun γ => Rs.bind (Rs.bind (Rs.ok γ.1) (fun x => Rs.ok x.1)) (fun x => Rs.bind (Rs.bind (Rs.bind (Rs.ok γ.2.2.1) (fun x => Rs.bind (Rs.ok γ.2.1) (fun y => getI x y))) (fun x => Rs.ok x.1)) (fun y => Rs.ok (decide (x < y))))
noncomputable def m_law_wild_log_e2 : Ctx.T [.fz 12 (Int × Str), .fz 11 Int, .fz 0 (List (Int × Str))] → Rs (Int × Str) := fun γ => Rs.ok γ.1
noncomputable def m_law_wild_log_t3 : Ctx.T [.fz 11 Int, .fz 0 (List (Int × Str))] → Rs Bool := fun γ => Rs.bind (Rs.bind (Rs.bind (Rs.bind (Rs.ok γ.2.1) Rs.ok) (fun xs => if xs.length ≤ 16777216 then Rs.comp (fun x => m_law_wild_log_t1 (x, (γ.1, γ.2.1, ()))) (fun x => m_law_wild_log_e2 (x, (γ.1, γ.2.1, ()))) xs else Rs.no)) (fun x => Rs.ok (x.length : Int))) (fun x => Rs.bind (Rs.ok (0 : Int)) (fun y => Rs.ok (decide (y < x))))
noncomputable def m_law_wild_log_e4 : Ctx.T [.fz 11 Int, .fz 0 (List (Int × Str))] → Rs Int := fun γ => Rs.ok γ.1
noncomputable def m_law_wild_log_t5 : Ctx.T [.fz 11 Int, .fz 8 Int, .fz 0 (List (Int × Str))] → Rs Bool := fun γ => Rs.bind (Rs.bind (Rs.bind (Rs.ok γ.2.2.1) (fun x => Rs.bind (Rs.ok γ.1) (fun y => getI x y))) (fun x => Rs.ok x.1)) (fun x => Rs.bind (Rs.bind (Rs.bind (Rs.ok γ.2.2.1) (fun x => Rs.bind (Rs.ok γ.2.1) (fun y => getI x y))) (fun x => Rs.ok x.1)) (fun y => Rs.ok (decide (x < y))))
noncomputable def m_law_wild_log_e6 : Ctx.T [.fz 11 Int, .fz 8 Int, .fz 0 (List (Int × Str))] → Rs Int := fun γ => Rs.ok γ.1
noncomputable def m_law_wild_log_t7 : Ctx.T [.fz 11 Int, .ow 9 (List Int), .ow 6 (List Int)] → Rs Bool := fun γ => Rs.bind (Rs.bind (Rs.ok γ.2.2.1) (fun x => Rs.bind (Rs.bind (Rs.ok (2 : Int)) (fun x => Rs.bind (Rs.ok γ.1) (fun y => Rs.ok (x + y)))) (fun y => getI x y))) (fun x => Rs.bind (Rs.ok (1 : Int)) (fun y => Rs.ok (decide (x = y))))
noncomputable def m_law_wild_log_e8 : Ctx.T [.fz 11 Int, .ow 9 (List Int), .ow 6 (List Int)] → Rs Int := fun γ => Rs.bind (Rs.ok γ.2.1) (fun x => Rs.bind (Rs.ok γ.1) (fun y => getI x y))
noncomputable def m_law_wild_log_l9 : Ctx.T [.fz 5 Int, .ow 4 (List (Int × (Tup Int))), .fz 0 (List (Int × Str)), .bo 1 (List Int), .fz 2 Int, .fz 3 Int] → Rs (Ctx.T [.ow 4 (List (Int × (Tup Int))), .fz 0 (List (Int × Str)), .bo 1 (List Int), .fz 2 Int, .fz 3 Int] ⊕ (List (Int × (Tup Int)))) := fun γ => Rs.bind (Rs.bind (Rs.bind (Rs.bind (Rs.ok γ.1) (fun a => Rs.bind (Rs.bind (Rs.bind (Rs.bind (Rs.bind (Rs.ok (64 : Int)) (fun a => Rs.bind (Rs.bind (Rs.ok (3 : Int)) (fun a => Rs.bind (Rs.ok ([] : List Int)) (fun g => Rs.ok (a :: g)))) (fun g => Rs.ok (a :: g)))) Rs.ok) (fun x => Rs.bind (Rs.bind (Rs.bind (Rs.bind (Rs.ok (2 : Int)) (fun a => Rs.bind (Rs.ok ([] : List Int)) (fun g => Rs.ok (a :: g)))) Rs.ok) (fun x => Rs.bind (Rs.bind (Rs.ok γ.2.2.1) (fun x => Rs.ok (x.length : Int))) (fun y => repI x y))) (fun y => catI x y))) (fun a => Rs.bind (Rs.ok ()) (fun g => Rs.ok (a, g)))) (fun g => Rs.ok (a, g)))) m_law_draws) (fun a => Rs.ok (a, γ.2.1, γ.2.2.1, γ.2.2.2.1, γ.2.2.2.2.1, γ.2.2.2.2.2.1, ()))) (fun γ => Rs.bind (Rs.bind (Rs.bind (Rs.bind (Rs.bind (Rs.ok γ.2.2.1) (fun x => Rs.ok (x.length : Int))) (fun n => Rng 0 n)) (fun xs => if xs.length ≤ 16777216 then Rs.comp (fun x => m_law_wild_log_t3 (x, (γ.2.2.1, ()))) (fun x => m_law_wild_log_e4 (x, (γ.2.2.1, ()))) xs else Rs.no)) (fun a => Rs.ok (a, γ.1, γ.2.1, γ.2.2.1, γ.2.2.2.1, γ.2.2.2.2.1, γ.2.2.2.2.2.1, ()))) (fun γ => Rs.bind (Rs.bind (Rs.bind (Rs.bind (Rs.ok γ.1) (fun x => Rs.ok (x.length : Int))) (fun x => Rs.bind (Rs.ok (0 : Int)) (fun y => Rs.ok (decide (x = y))))) (fun b => if b = true then Rs.ok true else Rs.bind (Rs.bind (Rs.ok γ.2.2.1) (fun x => Rs.ok (x.length : Int))) (fun x => Rs.bind (Rs.ok γ.2.2.2.2.2.2.1) (fun y => Rs.ok (decide (y ≤ x)))))) (fun b => if b = true then Rs.bind (Rs.ok γ.2.2.1) (fun z => Rs.ok (.inr z)) else Rs.bind (Rs.bind (Rs.bind (Rs.ok γ.1) (fun x => Rs.bind (Rs.bind (Rs.bind (Rs.bind (Rs.ok γ.2.1) (fun x => Rs.bind (Rs.ok (0 : Int)) (fun y => getI x y))) (fun x => Rs.ok x)) (fun x => Rs.bind (Rs.bind (Rs.ok γ.1) (fun x => Rs.ok (x.length : Int))) (fun y => if 0 < y then Rs.ok (x % y) else Rs.no))) (fun y => getI x y))) (fun a => Rs.ok (a, γ.2.1, γ.2.2.1, γ.2.2.2.1, γ.2.2.2.2.1, γ.2.2.2.2.2.1, γ.2.2.2.2.2.2.1, ()))) (fun γ => Rs.bind (Rs.bind (Rs.bind (Rs.bind (Rs.bind (Rs.ok γ.2.2.2.1) (fun x => Rs.ok (x.length : Int))) (fun n => Rng 0 n)) (fun xs => if xs.length ≤ 16777216 then Rs.comp (fun x => m_law_wild_log_t5 (x, (γ.1, γ.2.2.2.1, ()))) (fun x => m_law_wild_log_e6 (x, (γ.1, γ.2.2.2.1, ()))) xs else Rs.no)) (fun a => Rs.ok (a, γ.1, γ.2.1, γ.2.2.1, γ.2.2.2.1, γ.2.2.2.2.1, γ.2.2.2.2.2.1, γ.2.2.2.2.2.2.1, ()))) (fun γ => Rs.bind (Rs.bind (Rs.bind (Rs.bind (Rs.bind (Rs.ok γ.1) (fun x => Rs.ok (x.length : Int))) (fun n => Rng 0 n)) (fun xs => if xs.length ≤ 16777216 then Rs.comp (fun x => m_law_wild_log_t7 (x, (γ.1, γ.2.2.1, ()))) (fun x => m_law_wild_log_e8 (x, (γ.1, γ.2.2.1, ()))) xs else Rs.no)) (fun a => Rs.ok (a, γ.1, γ.2.1, γ.2.2.1, γ.2.2.2.1, γ.2.2.2.2.1, γ.2.2.2.2.2.1, γ.2.2.2.2.2.2.1, γ.2.2.2.2.2.2.2.1, ()))) (fun γ => Rs.bind (Rs.bind (Rs.bind (Rs.ok γ.1) (fun x => Rs.bind (Rs.ok none) (fun l => Rs.bind (Rs.bind (Rs.bind (Rs.ok (1 : Int)) (fun x => Rs.bind (Rs.bind (Rs.bind (Rs.bind (Rs.ok γ.2.2.2.1) (fun x => Rs.bind (Rs.ok (1 : Int)) (fun y => getI x y))) (fun x => Rs.bind (Rs.bind (Rs.ok γ.2.2.2.2.2.2.2.1) (fun x => Rs.bind (Rs.ok (1 : Int)) (fun y => Rs.ok (x - y)))) (fun y => if CMul x y then Rs.ok (x * y) else Rs.no))) (fun x => Rs.bind (Rs.ok (2 : Int)) (fun y => if CDiv x y then Rs.ok (x / y) else Rs.no))) (fun y => Rs.ok (x + y)))) (fun i => Rs.ok (some i))) (fun h => Rs.ok (cutI x l h))))) (fun a => Rs.ok (a, γ.2.1, γ.2.2.1, γ.2.2.2.1, γ.2.2.2.2.1, γ.2.2.2.2.2.1, γ.2.2.2.2.2.2.1, γ.2.2.2.2.2.2.2.1, γ.2.2.2.2.2.2.2.2.1, ()))) (fun γ => Rs.bind (Rs.bind (Rs.bind (Rs.bind (Rs.ok γ.1) (fun x => Rs.ok (x.length : Int))) (fun x => Rs.bind (Rs.ok (0 : Int)) (fun y => Rs.ok (decide (x = y))))) (fun b => if b = true then Rs.bind (Rs.bind (Rs.bind (Rs.bind (Rs.bind (Rs.ok γ.2.1) (fun x => Rs.bind (Rs.bind (Rs.bind (Rs.bind (Rs.bind (Rs.ok γ.2.2.2.1) (fun x => Rs.bind (Rs.ok (0 : Int)) (fun y => getI x y))) (fun x => Rs.bind (Rs.ok (8 : Int)) (fun y => if CDiv x y then Rs.ok (x / y) else Rs.no))) (fun x => Rs.ok x)) (fun x => Rs.bind (Rs.bind (Rs.ok γ.2.1) (fun x => Rs.ok (x.length : Int))) (fun y => if 0 < y then Rs.ok (x % y) else Rs.no))) (fun y => getI x y))) (fun a => Rs.bind (Rs.ok ([] : List Int)) (fun g => Rs.ok (a :: g)))) Rs.ok) (fun a => Rs.ok (a, γ.2.1, γ.2.2.1, γ.2.2.2.1, γ.2.2.2.2.1, γ.2.2.2.2.2.1, γ.2.2.2.2.2.2.1, γ.2.2.2.2.2.2.2.1, γ.2.2.2.2.2.2.2.2.1, ()))) (fun γ => Rs.ok (γ.1, γ.2.2.1, γ.2.2.2.2.1, γ.2.2.2.2.2.1, γ.2.2.2.2.2.2.1, γ.2.2.2.2.2.2.2.1, γ.2.2.2.2.2.2.2.2.1, ())) else Rs.ok (γ.1, γ.2.2.1, γ.2.2.2.2.1, γ.2.2.2.2.2.1, γ.2.2.2.2.2.2.1, γ.2.2.2.2.2.2.2.1, γ.2.2.2.2.2.2.2.2.1, ()))) (fun γ => Rs.bind (Rs.bind (Rs.bind (Rs.ok γ.2.1) (fun x => Rs.bind (Rs.bind (Rs.ok γ.1) (fun x => Rs.ok (Tup.mk x))) (fun y => Rs.ok (x, y)))) (fun a => Rs.bind (appI γ.2.2.1 a) (fun ys => Rs.ok (γ.1, γ.2.1, ys, γ.2.2.2.1, γ.2.2.2.2.1, γ.2.2.2.2.2.1, γ.2.2.2.2.2.2.1, ())))) (fun γ => Rs.bind (Rs.bind (Rs.bind (Rs.bind (Rs.ok γ.2.2.2.1) (fun a => Rs.bind (Rs.bind (Rs.ok γ.2.1) (fun a => Rs.bind (Rs.bind (Rs.ok γ.1) (fun a => Rs.bind (Rs.ok ()) (fun g => Rs.ok (a, g)))) (fun g => Rs.ok (a, g)))) (fun g => Rs.ok (a, g)))) m_law_moved) (fun a => Rs.ok (γ.1, γ.2.1, γ.2.2.1, a, γ.2.2.2.2.1, γ.2.2.2.2.2.1, γ.2.2.2.2.2.2.1, ()))) (fun γ => Rs.ok (.inl (γ.2.2.1, γ.2.2.2.1, γ.2.2.2.2.1, γ.2.2.2.2.2.1, γ.2.2.2.2.2.2.1, ()))))))))))))
noncomputable def m_law_wild_log_b10 : Ctx.T [.ow 4 (List (Int × (Tup Int))), .fz 0 (List (Int × Str)), .bo 1 (List Int), .fz 2 Int, .fz 3 Int] → Rs (List (Int × (Tup Int))) := fun γ => Rs.ok γ.1
noncomputable def m_law_wild_log : Ctx.T [.fz 0 (List (Int × Str)), .bo 1 (List Int), .fz 2 Int, .fz 3 Int] → Rs (List (Int × (Tup Int))) := fun γ => Rs.bind (Rs.bind (Rs.bind (Rs.ok ([] : List (Int × (Tup Int)))) Rs.ok) (fun a => Rs.ok (a, γ.1, γ.2.1, γ.2.2.1, γ.2.2.2.1, ()))) (fun γ => Rs.left (Rs.bind (Rs.ok γ.2.2.1) (fun xs => Rs.foldR (fun γ x => m_law_wild_log_l9 (x, γ)) γ xs)) m_law_wild_log_b10)
noncomputable def m_law_moved_v2_l1 : Ctx.T [.fz 4 Int, .ow 3 (List (Int × Str)), .bo 0 (List (Int × Str)), .fz 1 Int, .fz 2 (Tup Int)] → Rs (Ctx.T [.ow 3 (List (Int × Str)), .bo 0 (List (Int × Str)), .fz 1 Int, .fz 2 (Tup Int)]) := fun γ => Rs.bind (Rs.bind (Rs.bind (Rs.bind (Rs.bind (Rs.bind (Rs.ok γ.2.2.1) (fun x => Rs.bind (Rs.ok γ.2.2.2.1) (fun y => getI x y))) (fun x => Rs.ok x.1)) (fun x => Rs.bind (Rs.ok (1 : Int)) (fun y => Rs.ok (x - y)))) (fun x => Rs.bind (Rs.bind (Rs.bind (Rs.ok γ.2.2.1) (fun x => Rs.bind (Rs.ok γ.2.2.2.1) (fun y => getI x y))) (fun x => Rs.ok x.2)) (fun y => Rs.ok (x, y)))) (fun a => Rs.bind (Rs.ok γ.1) (fun k => Rs.bind (setI γ.2.1 k a) (fun ys => Rs.ok (γ.1, ys, γ.2.2.1, γ.2.2.2.1, γ.2.2.2.2.1, ()))))) (fun γ => Rs.ok (γ.2.1, γ.2.2.1, γ.2.2.2.1, γ.2.2.2.2.1, ()))
noncomputable def m_law_moved_v2 : Ctx.T [.bo 0 (List (Int × Str)), .fz 1 Int, .fz 2 (Tup Int)] → Rs (List (Int × Str)) := fun γ => Rs.bind (Rs.bind (Rs.bind (Rs.ok γ.1) (fun x => Rs.ok x)) (fun a => Rs.ok (a, γ.1, γ.2.1, γ.2.2.1, ()))) (fun γ => Rs.bind (Rs.bind (Rs.bind (Rs.bind (Rs.bind (Rs.bind (Rs.ok γ.2.2.1) (fun a => Rs.bind (Rs.ok ([] : List Int)) (fun g => Rs.ok (a :: g)))) Rs.ok) (fun x => Rs.bind (Rs.bind (Rs.ok γ.2.2.2.1) (fun x => Rs.ok x.items)) (fun y => catI x y))) Rs.ok) (fun xs => Rs.fold (fun γ x => m_law_moved_v2_l1 (x, γ)) γ xs)) (fun γ => Rs.ok γ.1))
noncomputable def m_law_played_l1 : Ctx.T [.fz 2 (Int × (Tup Int)), .fz 0 (List (Int × Str)), .bo 1 (List (Int × (Tup Int)))] → Rs (Ctx.T [.fz 0 (List (Int × Str)), .bo 1 (List (Int × (Tup Int)))]) := fun γ => Rs.bind (Rs.bind (Rs.bind (Rs.bind (Rs.ok γ.2.1) (fun a => Rs.bind (Rs.bind (Rs.bind (Rs.ok γ.1) (fun x => Rs.ok x.1)) (fun a => Rs.bind (Rs.bind (Rs.bind (Rs.ok γ.1) (fun x => Rs.ok x.2)) (fun a => Rs.bind (Rs.ok ()) (fun g => Rs.ok (a, g)))) (fun g => Rs.ok (a, g)))) (fun g => Rs.ok (a, g)))) m_law_moved_v2) (fun a => Rs.ok (γ.1, a, γ.2.2.1, ()))) (fun γ => Rs.ok (γ.2.1, γ.2.2.1, ()))
noncomputable def m_law_played : Ctx.T [.fz 0 (List (Int × Str)), .bo 1 (List (Int × (Tup Int)))] → Rs (List (Int × Str)) := fun γ => Rs.bind (Rs.bind (Rs.ok γ.2.1) (fun xs => Rs.fold (fun γ x => m_law_played_l1 (x, γ)) γ xs)) (fun γ => Rs.ok γ.1)
noncomputable def m_law_finished_e1 : Ctx.T [.fz 10 (Int × Str)] → Rs Int := fun γ => Rs.bind (Rs.ok γ.1) (fun x => Rs.ok x.1)
noncomputable def m_law_finished_t2 : Ctx.T [.fz 9 Int, .fz 5 Int, .fz 0 (List (Int × Str))] → Rs Bool := fun γ => Rs.bind (Rs.bind (Rs.bind (Rs.ok γ.2.2.1) (fun x => Rs.bind (Rs.ok γ.1) (fun y => getI x y))) (fun x => Rs.ok x.1)) (fun x => Rs.bind (Rs.ok γ.2.1) (fun y => Rs.ok (decide (x < y))))
noncomputable def m_law_finished_e3 : Ctx.T [.fz 9 Int, .fz 5 Int, .fz 0 (List (Int × Str))] → Rs Int := fun γ => Rs.ok γ.1
noncomputable def m_law_finished_t4 : Ctx.T [.fz 9 Int, .fz 5 Int, .fz 0 (List (Int × Str))] → Rs Bool := fun γ => Rs.bind (Rs.bind (Rs.bind (Rs.ok γ.2.2.1) (fun x => Rs.bind (Rs.ok γ.1) (fun y => getI x y))) (fun x => Rs.ok x.1)) (fun x => Rs.bind (Rs.ok γ.2.1) (fun y => Rs.ok (decide (x = y))))
noncomputable def m_law_finished_e5 : Ctx.T [.fz 9 Int, .fz 5 Int, .fz 0 (List (Int × Str))] → Rs Int := fun γ => Rs.ok γ.1
noncomputable def m_law_finished_l6 : Ctx.T [.fz 4 Int, .ow 3 (List (Int × (Tup Int))), .fz 0 (List (Int × Str)), .fz 2 Int] → Rs (Ctx.T [.ow 3 (List (Int × (Tup Int))), .fz 0 (List (Int × Str)), .fz 2 Int] ⊕ (List (Int × (Tup Int)))) := fun γ => Rs.bind (Rs.bind (Rs.bind (Rs.bind (Rs.bind (Rs.ok γ.2.2.1) Rs.ok) (fun xs => if xs.length ≤ 16777216 then Rs.comp (fun x => Rs.ok true) (fun x => m_law_finished_e1 (x, (()))) xs else Rs.no)) maxI) (fun a => Rs.ok (a, γ.1, γ.2.1, γ.2.2.1, γ.2.2.2.1, ()))) (fun γ => Rs.bind (Rs.bind (Rs.bind (Rs.bind (Rs.bind (Rs.ok γ.2.2.2.1) (fun x => Rs.ok (x.length : Int))) (fun n => Rng 0 n)) (fun xs => if xs.length ≤ 16777216 then Rs.comp (fun x => m_law_finished_t2 (x, (γ.1, γ.2.2.2.1, ()))) (fun x => m_law_finished_e3 (x, (γ.1, γ.2.2.2.1, ()))) xs else Rs.no)) (fun a => Rs.ok (a, γ.1, γ.2.1, γ.2.2.1, γ.2.2.2.1, γ.2.2.2.2.1, ()))) (fun γ => Rs.bind (Rs.bind (Rs.bind (Rs.ok γ.1) (fun x => Rs.ok (x.length : Int))) (fun x => Rs.bind (Rs.ok (0 : Int)) (fun y => Rs.ok (decide (x = y))))) (fun b => if b = true then Rs.bind (Rs.ok γ.2.2.2.1) (fun z => Rs.ok (.inr z)) else Rs.bind (Rs.bind (Rs.bind (Rs.bind (Rs.bind (Rs.bind (Rs.ok γ.2.2.2.2.1) (fun x => Rs.ok (x.length : Int))) (fun n => Rng 0 n)) (fun xs => if xs.length ≤ 16777216 then Rs.comp (fun x => m_law_finished_t4 (x, (γ.2.1, γ.2.2.2.2.1, ()))) (fun x => m_law_finished_e5 (x, (γ.2.1, γ.2.2.2.2.1, ()))) xs else Rs.no)) (fun x => Rs.bind (Rs.ok (0 : Int)) (fun y => getI x y))) (fun a => Rs.ok (a, γ.1, γ.2.2.1, γ.2.2.2.1, γ.2.2.2.2.1, γ.2.2.2.2.2.1, ()))) (fun γ => Rs.bind (Rs.bind (Rs.bind (Rs.ok γ.2.1) (fun x => Rs.bind (Rs.bind (Rs.bind (Rs.bind (Rs.ok γ.2.2.2.2.2.1) (fun x => Rs.bind (Rs.bind (Rs.ok (7 : Int)) (fun x => Rs.bind (Rs.ok γ.2.2.1) (fun y => if CMul x y then Rs.ok (x * y) else Rs.no))) (fun y => Rs.ok (x + y)))) (fun x => Rs.ok x)) (fun x => Rs.bind (Rs.bind (Rs.ok γ.2.1) (fun x => Rs.ok (x.length : Int))) (fun y => if 0 < y then Rs.ok (x % y) else Rs.no))) (fun y => getI x y))) (fun a => Rs.ok (a, γ.1, γ.2.2.2.1, γ.2.2.2.2.1, γ.2.2.2.2.2.1, ()))) (fun γ => Rs.bind (Rs.bind (Rs.bind (Rs.ok γ.2.1) (fun x => Rs.bind (Rs.bind (Rs.bind (Rs.ok γ.1) (fun a => Rs.bind (Rs.ok ([] : List Int)) (fun g => Rs.ok (a :: g)))) (fun a => Rs.ok (Tup.mk a))) (fun y => Rs.ok (x, y)))) (fun a => Rs.bind (appI γ.2.2.1 a) (fun ys => Rs.ok (γ.1, γ.2.1, ys, γ.2.2.2.1, γ.2.2.2.2.1, ())))) (fun γ => Rs.bind (Rs.bind (Rs.bind (Rs.bind (Rs.ok γ.2.2.2.1) (fun a => Rs.bind (Rs.bind (Rs.ok γ.2.1) (fun a => Rs.bind (Rs.bind (Rs.bind (Rs.bind (Rs.ok γ.1) (fun a => Rs.bind (Rs.ok ([] : List Int)) (fun g => Rs.ok (a :: g)))) Rs.ok) (fun a => Rs.bind (Rs.ok ()) (fun g => Rs.ok (a, g)))) (fun g => Rs.ok (a, g)))) (fun g => Rs.ok (a, g)))) m_law_moved) (fun a => Rs.ok (γ.1, γ.2.1, γ.2.2.1, a, γ.2.2.2.2.1, ()))) (fun γ => Rs.ok (.inl (γ.2.2.1, γ.2.2.2.1, γ.2.2.2.2.1, ())))))))))
noncomputable def m_law_finished_b7 : Ctx.T [.ow 3 (List (Int × (Tup Int))), .fz 0 (List (Int × Str)), .fz 2 Int] → Rs (List (Int × (Tup Int))) := fun γ => Rs.ok γ.1
noncomputable def m_law_finished : Ctx.T [.fz 0 (List (Int × Str)), .bo 1 (List (Int × (Tup Int))), .fz 2 Int] → Rs (List (Int × (Tup Int))) := fun γ => Rs.bind (Rs.bind (Rs.bind (Rs.ok γ.2.1) (fun x => Rs.ok x)) (fun a => Rs.ok (a, γ.1, γ.2.2.1, ()))) (fun γ => Rs.left (Rs.bind (Rs.bind (Rs.ok (1600 : Int)) (fun n => Rng 0 n)) (fun xs => Rs.foldR (fun γ x => m_law_finished_l6 (x, γ)) γ xs)) m_law_finished_b7)
noncomputable def m_law_run_e1 : Ctx.T [.fz 6 Int, .fz 0 Script] → Rs Int := fun γ => Rs.bind (Rs.bind (Rs.ok γ.2.1) (fun a => Rs.bind (Rs.bind (Rs.bind (Rs.ok (6 : Int)) (fun x => Rs.bind (Rs.ok γ.1) (fun y => Rs.ok (x + y)))) (fun a => Rs.bind (Rs.ok ()) (fun g => Rs.ok (a, g)))) (fun g => Rs.ok (a, g)))) m_law_deed_cell
noncomputable def m_law_run : Ctx.T [.fz 0 Script, .fz 1 (List (Int × Str)), .fz 2 Int] → Rs (List (Int × Str)) := fun γ => Rs.bind (Rs.bind (Rs.bind (Rs.bind (Rs.bind (Rs.bind (Rs.ok γ.1) (fun a => Rs.bind (Rs.bind (Rs.ok (5 : Int)) (fun a => Rs.bind (Rs.ok ()) (fun g => Rs.ok (a, g)))) (fun g => Rs.ok (a, g)))) m_law_deed_cell) (fun a => Rs.bind (Rs.bind (Rs.bind (Rs.bind (Rs.ok (13 : Int)) (fun a => Rs.bind (Rs.bind (Rs.ok (60 : Int)) (fun a => Rs.bind (Rs.ok ([] : List Int)) (fun g => Rs.ok (a :: g)))) (fun g => Rs.ok (a :: g)))) Rs.ok) (fun a => Rs.bind (Rs.ok ()) (fun g => Rs.ok (a, g)))) (fun g => Rs.ok (a, g)))) m_law_draws) (fun a => Rs.ok (a, γ.1, γ.2.1, γ.2.2.1, ()))) (fun γ => Rs.bind (Rs.bind (Rs.bind (Rs.bind (Rs.bind (Rs.ok γ.1) (fun x => Rs.bind (Rs.ok (0 : Int)) (fun y => getI x y))) (fun n => Rng 0 n)) (fun xs => if xs.length ≤ 16777216 then Rs.comp (fun x => Rs.ok true) (fun x => m_law_run_e1 (x, (γ.2.1, ()))) xs else Rs.no)) (fun a => Rs.ok (a, γ.1, γ.2.2.1, γ.2.2.2.1, ()))) (fun γ => Rs.bind (Rs.bind (Rs.bind (Rs.bind (Rs.ok γ.2.2.1) (fun a => Rs.bind (Rs.bind (Rs.bind (Rs.bind (Rs.ok γ.2.2.1) (fun a => Rs.bind (Rs.bind (Rs.ok γ.1) (fun a => Rs.bind (Rs.bind (Rs.ok γ.2.2.2.1) (fun a => Rs.bind (Rs.bind (Rs.ok (12 : Int)) (fun a => Rs.bind (Rs.ok ()) (fun g => Rs.ok (a, g)))) (fun g => Rs.ok (a, g)))) (fun g => Rs.ok (a, g)))) (fun g => Rs.ok (a, g)))) m_law_wild_log) (fun a => Rs.bind (Rs.ok ()) (fun g => Rs.ok (a, g)))) (fun g => Rs.ok (a, g)))) m_law_played) (fun a => Rs.ok (a, γ.2.1, ()))) (fun γ => Rs.bind (Rs.bind (Rs.ok γ.1) (fun a => Rs.bind (Rs.bind (Rs.bind (Rs.bind (Rs.ok γ.1) (fun a => Rs.bind (Rs.bind (Rs.bind (Rs.ok ([] : List (Int × (Tup Int)))) Rs.ok) (fun a => Rs.bind (Rs.bind (Rs.bind (Rs.ok γ.2.1) (fun x => Rs.bind (Rs.ok (1 : Int)) (fun y => getI x y))) (fun a => Rs.bind (Rs.ok ()) (fun g => Rs.ok (a, g)))) (fun g => Rs.ok (a, g)))) (fun g => Rs.ok (a, g)))) m_law_finished) (fun a => Rs.bind (Rs.ok ()) (fun g => Rs.ok (a, g)))) (fun g => Rs.ok (a, g)))) m_law_played)))
noncomputable def m_law_order_l1 : Ctx.T [.fz 3 Int, .fz 2 Int, .ow 1 (List Int), .bo 0 (List Int)] → Rs (Ctx.T [.fz 2 Int, .ow 1 (List Int), .bo 0 (List Int)]) := fun γ => Rs.bind (Rs.bind (Rs.bind (Rs.bind (Rs.bind (Rs.ok γ.2.2.2.1) (fun x => Rs.bind (Rs.ok γ.1) (fun y => getI x y))) (fun x => Rs.bind (Rs.ok γ.2.1) (fun y => Rs.ok (decide (x = y))))) (fun b => if b = true then Rs.bind (Rs.ok γ.1) (fun x => Rs.bind (Rs.ok γ.2.2.1) (fun y => Rs.ok (!decide (x ∈ y)))) else Rs.ok false)) (fun b => if b = true then Rs.bind (Rs.bind (Rs.ok γ.1) (fun a => Rs.bind (appI γ.2.2.1 a) (fun ys => Rs.ok (γ.1, γ.2.1, ys, γ.2.2.2.1, ())))) (fun γ => Rs.ok (γ.2.1, γ.2.2.1, γ.2.2.2.1, ())) else Rs.ok (γ.2.1, γ.2.2.1, γ.2.2.2.1, ()))) (fun γ => Rs.ok (γ.1, γ.2.1, γ.2.2.1, ()))
noncomputable def m_law_order_l2 : Ctx.T [.fz 2 Int, .ow 1 (List Int), .bo 0 (List Int)] → Rs (Ctx.T [.ow 1 (List Int), .bo 0 (List Int)]) := fun γ => Rs.bind (Rs.bind (Rs.bind (Rs.bind (Rs.ok γ.2.2.1) (fun x => Rs.ok (x.length : Int))) (fun n => Rng 0 n)) (fun xs => Rs.fold (fun γ x => m_law_order_l1 (x, γ)) γ xs)) (fun γ => Rs.ok (γ.2.1, γ.2.2.1, ()))
noncomputable def m_law_order : Ctx.T [.bo 0 (List Int)] → Rs (List Int) := fun γ => Rs.bind (Rs.bind (Rs.bind (Rs.ok ([] : List Int)) Rs.ok) (fun a => Rs.ok (a, γ.1, ()))) (fun γ => Rs.bind (Rs.bind (Rs.bind (Rs.bind (Rs.ok γ.2.1) (fun x => Rs.ok (sortI x))) Rs.ok) (fun xs => Rs.fold (fun γ x => m_law_order_l2 (x, γ)) γ xs)) (fun γ => Rs.ok γ.1))
noncomputable def m_law_lists_l1 : Ctx.T [.fz 6 Int, .ow 5 (List Int), .ow 4 (List Int), .ow 3 (List Int), .fz 2 Int, .fz 1 (List Int)] → Rs (Ctx.T [.ow 5 (List Int), .ow 4 (List Int), .ow 3 (List Int), .fz 2 Int, .fz 1 (List Int)]) := fun γ => Rs.bind (Rs.bind (Rs.bind (Rs.bind (Rs.ok γ.2.1) (fun x => Rs.bind (Rs.bind (Rs.ok γ.2.2.2.1) (fun x => Rs.bind (Rs.bind (Rs.ok (5 : Int)) (fun x => Rs.bind (Rs.ok γ.1) (fun y => Rs.ok (x + y)))) (fun y => getI x y))) (fun y => getI x y))) (fun x => Rs.bind (Rs.ok (1 : Int)) (fun y => Rs.ok (x + y)))) (fun a => Rs.bind (Rs.bind (Rs.ok γ.2.2.2.1) (fun x => Rs.bind (Rs.bind (Rs.ok (5 : Int)) (fun x => Rs.bind (Rs.ok γ.1) (fun y => Rs.ok (x + y)))) (fun y => getI x y))) (fun k => Rs.bind (setI γ.2.1 k a) (fun ys => Rs.ok (γ.1, ys, γ.2.2.1, γ.2.2.2.1, γ.2.2.2.2.1, γ.2.2.2.2.2.1, ()))))) (fun γ => Rs.ok (γ.2.1, γ.2.2.1, γ.2.2.2.1, γ.2.2.2.2.1, γ.2.2.2.2.2.1, ()))
noncomputable def m_law_lists_e2 : Ctx.T [.fz 6 Int, .ow 3 (List Int), .fz 2 Int] → Rs Int := fun γ => Rs.bind (Rs.bind (Rs.ok γ.2.1) (fun x => Rs.bind (Rs.bind (Rs.bind (Rs.ok (5 : Int)) (fun x => Rs.bind (Rs.ok γ.2.2.1) (fun y => Rs.ok (x + y)))) (fun x => Rs.bind (Rs.ok γ.1) (fun y => Rs.ok (x + y)))) (fun y => getI x y))) (fun x => Rs.bind (Rs.ok (2 : Int)) (fun y => Rs.ok (x - y)))
noncomputable def m_law_lists_b3 : Ctx.T [.fz 8 (List Int), .fz 7 (List Int), .fz 5 (List Int), .fz 4 (List Int), .ow 3 (List Int), .fz 2 Int, .fz 1 (List Int)] → Rs (List (List Int)) := fun γ => Rs.bind (Rs.bind (Rs.ok γ.2.2.2.2.2.2.1) (fun a => Rs.bind (Rs.bind (Rs.ok γ.2.2.2.1) (fun a => Rs.bind (Rs.bind (Rs.ok γ.2.2.1) (fun a => Rs.bind (Rs.bind (Rs.ok γ.2.1) (fun a => Rs.bind (Rs.bind (Rs.ok γ.1) (fun a => Rs.bind (Rs.bind (Rs.bind (Rs.ok γ.2.2.2.2.2.2.1) (fun x => Rs.bind (Rs.bind (Rs.bind (Rs.ok γ.2.2.2.2.1) (fun x => Rs.bind (Rs.ok (3 : Int)) (fun y => getI x y))) (fun i => Rs.ok (some i))) (fun l => Rs.bind (Rs.bind (Rs.bind (Rs.bind (Rs.ok γ.2.2.2.2.2.1) (fun x => Rs.bind (Rs.ok (1 : Int)) (fun y => Rs.ok (x - y)))) (fun x => Rs.bind (Rs.bind (Rs.ok γ.2.2.2.2.1) (fun x => Rs.bind (Rs.ok (3 : Int)) (fun y => getI x y))) (fun y => Rs.ok (x + y)))) (fun i => Rs.ok (some i))) (fun h => Rs.ok (cutI x l h))))) (fun a => Rs.bind (Rs.ok ([] : List (List Int))) (fun g => Rs.ok (a :: g)))) (fun g => Rs.ok (a :: g)))) (fun g => Rs.ok (a :: g)))) (fun g => Rs.ok (a :: g)))) (fun g => Rs.ok (a :: g)))) (fun g => Rs.ok (a :: g)))) Rs.ok
noncomputable def m_law_lists_b4 : Ctx.T [.ow 8 (List Int), .fz 7 (List Int), .fz 5 (List Int), .fz 4 (List Int), .ow 3 (List Int), .fz 2 Int, .fz 1 (List Int)] → Rs (List (List Int)) := fun γ => m_law_lists_b3 (γ.1, γ.2.1, γ.2.2.1, γ.2.2.2.1, γ.2.2.2.2.1, γ.2.2.2.2.2.1, γ.2.2.2.2.2.2.1, ())
noncomputable def m_law_lists_b5 : Ctx.T [.ow 8 (List Int), .ow 7 (List Int), .fz 5 (List Int), .fz 4 (List Int), .ow 3 (List Int), .fz 2 Int, .fz 1 (List Int)] → Rs (List (List Int)) := fun γ => m_law_lists_b4 (γ.1, γ.2.1, γ.2.2.1, γ.2.2.2.1, γ.2.2.2.2.1, γ.2.2.2.2.2.1, γ.2.2.2.2.2.2.1, ())
noncomputable def m_law_lists_b6 : Ctx.T [.ow 8 (List Int), .ow 7 (List Int), .ow 5 (List Int), .fz 4 (List Int), .ow 3 (List Int), .fz 2 Int, .fz 1 (List Int)] → Rs (List (List Int)) := fun γ => m_law_lists_b5 (γ.1, γ.2.1, γ.2.2.1, γ.2.2.2.1, γ.2.2.2.2.1, γ.2.2.2.2.2.1, γ.2.2.2.2.2.2.1, ())
noncomputable def m_law_lists : Ctx.T [.fz 0 Int, .fz 1 (List Int)] → Rs (List (List Int)) := fun γ => Rs.bind (Rs.bind (Rs.bind (Rs.ok γ.2.1) (fun x => Rs.ok (x.length : Int))) (fun a => Rs.ok (a, γ.1, γ.2.1, ()))) (fun γ => Rs.bind (Rs.bind (Rs.bind (Rs.bind (Rs.ok γ.2.1) (fun a => Rs.bind (Rs.bind (Rs.bind (Rs.bind (Rs.bind (Rs.bind (Rs.ok (3 : Int)) (fun a => Rs.bind (Rs.bind (Rs.ok γ.1) (fun a => Rs.bind (Rs.bind (Rs.ok γ.1) (fun a => Rs.bind (Rs.bind (Rs.ok (2 : Int)) (fun a => Rs.bind (Rs.bind (Rs.ok (3 : Int)) (fun a => Rs.bind (Rs.ok ([] : List Int)) (fun g => Rs.ok (a :: g)))) (fun g => Rs.ok (a :: g)))) (fun g => Rs.ok (a :: g)))) (fun g => Rs.ok (a :: g)))) (fun g => Rs.ok (a :: g)))) Rs.ok) (fun x => Rs.bind (Rs.bind (Rs.bind (Rs.bind (Rs.ok γ.1) (fun a => Rs.bind (Rs.ok ([] : List Int)) (fun g => Rs.ok (a :: g)))) Rs.ok) (fun x => Rs.bind (Rs.ok γ.1) (fun y => repI x y))) (fun y => catI x y))) (fun x => Rs.bind (Rs.bind (Rs.bind (Rs.bind (Rs.bind (Rs.ok γ.1) (fun x => Rs.bind (Rs.ok (5 : Int)) (fun y => Rs.ok (x + y)))) (fun a => Rs.bind (Rs.ok ([] : List Int)) (fun g => Rs.ok (a :: g)))) Rs.ok) (fun x => Rs.bind (Rs.bind (Rs.ok γ.1) (fun x => Rs.bind (Rs.ok (2 : Int)) (fun y => Rs.ok (x + y)))) (fun y => repI x y))) (fun y => catI x y))) (fun a => Rs.bind (Rs.ok ()) (fun g => Rs.ok (a, g)))) (fun g => Rs.ok (a, g)))) m_law_draws) (fun a => Rs.ok (a, γ.1, γ.2.2.1, ()))) (fun γ => Rs.bind (Rs.bind (Rs.bind (Rs.ok γ.2.2.1) (fun x => Rs.ok x)) (fun a => Rs.ok (a, γ.1, γ.2.1, γ.2.2.1, ()))) (fun γ => Rs.bind (Rs.bind (Rs.bind (Rs.bind (Rs.ok γ.2.1) (fun x => Rs.bind (Rs.ok (0 : Int)) (fun y => getI x y))) (fun x => Rs.bind (Rs.ok (1 : Int)) (fun y => Rs.ok (!decide (x = y))))) (fun b => if b = true then Rs.bind (Rs.bind (Rs.bind (Rs.bind (Rs.ok γ.1) (fun x => Rs.bind (Rs.bind (Rs.ok γ.2.1) (fun x => Rs.bind (Rs.ok (1 : Int)) (fun y => getI x y))) (fun y => getI x y))) (fun x => Rs.bind (Rs.ok (1 : Int)) (fun y => Rs.ok (x - y)))) (fun a => Rs.bind (Rs.bind (Rs.ok γ.2.1) (fun x => Rs.bind (Rs.ok (1 : Int)) (fun y => getI x y))) (fun k => Rs.bind (setI γ.1 k a) (fun ys => Rs.ok (ys, γ.2.1, γ.2.2.1, γ.2.2.2.1, ()))))) (fun γ => Rs.ok (γ.1, γ.2.1, γ.2.2.1, γ.2.2.2.1, ())) else Rs.ok (γ.1, γ.2.1, γ.2.2.1, γ.2.2.2.1, ()))) (fun γ => Rs.bind (Rs.bind (Rs.bind (Rs.bind (Rs.ok γ.2.1) (fun x => Rs.bind (Rs.ok (0 : Int)) (fun y => getI x y))) (fun x => Rs.bind (Rs.ok (2 : Int)) (fun y => Rs.ok (!decide (x = y))))) (fun b => if b = true then Rs.bind (Rs.bind (Rs.bind (Rs.bind (Rs.ok γ.1) (fun x => Rs.bind (Rs.bind (Rs.ok γ.2.1) (fun x => Rs.bind (Rs.ok (2 : Int)) (fun y => getI x y))) (fun y => getI x y))) (fun x => Rs.bind (Rs.ok (1 : Int)) (fun y => Rs.ok (x + y)))) (fun a => Rs.bind (Rs.bind (Rs.ok γ.2.1) (fun x => Rs.bind (Rs.ok (2 : Int)) (fun y => getI x y))) (fun k => Rs.bind (setI γ.1 k a) (fun ys => Rs.ok (ys, γ.2.1, γ.2.2.1, γ.2.2.2.1, ()))))) (fun γ => Rs.ok (γ.1, γ.2.1, γ.2.2.1, γ.2.2.2.1, ())) else Rs.ok (γ.1, γ.2.1, γ.2.2.1, γ.2.2.2.1, ()))) (fun γ => Rs.bind (Rs.bind (Rs.bind (Rs.bind (Rs.bind (Rs.ok (0 : Int)) (fun a => Rs.bind (Rs.ok ([] : List Int)) (fun g => Rs.ok (a :: g)))) Rs.ok) (fun x => Rs.bind (Rs.ok γ.2.2.1) (fun y => repI x y))) (fun a => Rs.ok (a, γ.1, γ.2.1, γ.2.2.1, γ.2.2.2.1, ()))) (fun γ => Rs.bind (Rs.bind (Rs.bind (Rs.ok γ.2.2.2.1) (fun n => Rng 0 n)) (fun xs => Rs.fold (fun γ x => m_law_lists_l1 (x, γ)) γ xs)) (fun γ => Rs.bind (Rs.bind (Rs.bind (Rs.bind (Rs.bind (Rs.bind (Rs.ok γ.2.2.2.1) (fun x => Rs.bind (Rs.ok (1 : Int)) (fun y => Rs.ok (x - y)))) (fun x => Rs.bind (Rs.bind (Rs.ok γ.2.2.1) (fun x => Rs.bind (Rs.ok (4 : Int)) (fun y => getI x y))) (fun y => Rs.ok (x + y)))) (fun n => Rng 0 n)) (fun xs => if xs.length ≤ 16777216 then Rs.comp (fun x => Rs.ok true) (fun x => m_law_lists_e2 (x, (γ.2.2.1, γ.2.2.2.1, ()))) xs else Rs.no)) (fun a => Rs.ok (a, γ.1, γ.2.1, γ.2.2.1, γ.2.2.2.1, γ.2.2.2.2.1, ()))) (fun γ => Rs.bind (Rs.bind (Rs.bind (Rs.ok γ.2.2.2.2.2.1) (fun x => Rs.bind (Rs.bind (Rs.bind (Rs.bind (Rs.ok γ.2.2.2.1) (fun x => Rs.bind (Rs.ok (3 : Int)) (fun y => getI x y))) (fun a => Rs.bind (Rs.ok ([] : List Int)) (fun g => Rs.ok (a :: g)))) Rs.ok) (fun y => catI x y))) (fun a => Rs.ok (a, γ.1, γ.2.1, γ.2.2.1, γ.2.2.2.1, γ.2.2.2.2.1, γ.2.2.2.2.2.1, ()))) (fun γ => Rs.bind (Rs.bind (Rs.bind (Rs.bind (Rs.ok γ.2.2.2.2.1) (fun x => Rs.bind (Rs.ok (3 : Int)) (fun y => getI x y))) (fun x => Rs.bind (Rs.ok (1 : Int)) (fun y => Rs.ok (decide (x = y))))) (fun b => if b = true then Rs.bind (Rs.bind (Rs.bind (Rs.bind (Rs.bind (Rs.ok (0 : Int)) (fun a => Rs.bind (Rs.ok ([] : List Int)) (fun g => Rs.ok (a :: g)))) Rs.ok) (fun x => Rs.bind (Rs.ok γ.2.2.2.2.2.2.1) (fun y => catI x y))) (fun a => Rs.ok (a, γ.2.1, γ.2.2.1, γ.2.2.2.1, γ.2.2.2.2.1, γ.2.2.2.2.2.1, γ.2.2.2.2.2.2.1, ()))) (fun γ => Rs.ok (γ.1, γ.2.1, γ.2.2.1, γ.2.2.2.1, γ.2.2.2.2.1, γ.2.2.2.2.2.1, γ.2.2.2.2.2.2.1, ())) else Rs.ok (γ.1, γ.2.1, γ.2.2.1, γ.2.2.2.1, γ.2.2.2.2.1, γ.2.2.2.2.2.1, γ.2.2.2.2.2.2.1, ()))) (fun γ => m_law_lists_b6 (γ.1, γ.2.1, γ.2.2.1, γ.2.2.2.1, γ.2.2.2.2.1, γ.2.2.2.2.2.1, γ.2.2.2.2.2.2.1, ())))))))))))
noncomputable def m_valid_record_l1 : Ctx.T [.fz 1 Str, .fz 0 Str] → Rs (Ctx.T [.fz 0 Str] ⊕ Bool) := fun γ => Rs.bind (Rs.bind (Rs.ok γ.1) (fun x => Rs.bind (Rs.ok ("abcdefghijklmnopqrstuvwxyz0123456789" : Str)) (fun y => notInS x y))) (fun b => if b = true then Rs.bind (Rs.ok false) (fun z => Rs.ok (.inr z)) else Rs.ok (.inl (γ.2.1, ())))
noncomputable def m_valid_record_b2 : Ctx.T [.fz 0 Str] → Rs Bool := fun γ => Rs.ok true
noncomputable def m_valid_record : Ctx.T [.fz 0 Str] → Rs Bool := fun γ => Rs.bind (Rs.bind (Rs.bind (Rs.bind (Rs.ok γ.1) (fun x => Rs.ok (x.length : Int))) (fun x => Rs.bind (Rs.ok (1 : Int)) (fun y => Rs.ok (decide (x < y))))) (fun b => if b = true then Rs.ok true else Rs.bind (Rs.bind (Rs.ok γ.1) (fun x => Rs.ok (x.length : Int))) (fun x => Rs.bind (Rs.ok (8 : Int)) (fun y => Rs.ok (decide (y < x)))))) (fun b => if b = true then Rs.ok false else Rs.left (Rs.bind (Rs.bind (Rs.ok γ.1) (fun x => Rs.ok (chars x))) (fun xs => Rs.foldR (fun γ x => m_valid_record_l1 (x, γ)) γ xs)) m_valid_record_b2)
noncomputable def m_Sheaf_init_l1 : Ctx.T [.fz 3 (Int × Str), .fz 2 Int, .ow 0 (Ini "Sheaf"), .bo 1 (List (Int × Str))] → Rs (Ctx.T [.ow 0 (Ini "Sheaf"), .bo 1 (List (Int × Str))]) := fun γ => Rs.bind (Rs.bind (Rs.bind (Rs.bind (Rs.bind (Rs.bind (Rs.ok γ.1) (fun x => Rs.ok x.2)) (fun a => Rs.bind (Rs.ok ()) (fun g => Rs.ok (a, g)))) m_valid_record) (fun b => Rs.ok (!b))) (fun b => if b = true then Rs.bind (Rs.rai "InvalidSheaf" "index" (Rs.ok γ.2.1) : Rs Unit) (fun _ => Rs.no) else Rs.ok (γ.2.2.1, γ.2.2.2.1, ()))) (fun γ => Rs.ok (γ.1, γ.2.1, ()))
noncomputable def m_Sheaf_init : Ctx.T [.ow 0 (Ini "Sheaf"), .bo 1 (List (Int × Str))] → Rs (Ctx.T [.ow 0 Sheaf]) := fun γ => Rs.bind (Rs.bind (Rs.bind (Rs.bind (Rs.ok γ.2.1) (fun x => Rs.ok (x.length : Int))) (fun x => Rs.bind (Rs.ok (0 : Int)) (fun y => Rs.ok (decide (x = y))))) (fun b => if b = true then Rs.bind (Rs.rai "InvalidSheaf" "index" (Rs.ok (0 : Int)) : Rs Unit) (fun _ => Rs.no) else Rs.ok (γ.1, γ.2.1, ()))) (fun γ => Rs.bind (Rs.bind (Rs.ok (enumI γ.2.1)) (fun xs => Rs.fold (fun γ x => m_Sheaf_init_l1 (x.2, x.1, γ)) γ xs)) (fun γ => Rs.bind (Rs.bind (Rs.bind (Rs.ok γ.2.1) (fun x => Rs.ok (Tup.mk x))) (fun z => Rs.ok (Sheaf.mk z, γ.2))) (fun γ => Rs.ok (γ.1, ()))))
noncomputable def mi_Sheaf_init : Ctx.T [.bo 1 (List (Int × Str))] → Rs Sheaf := fun γ => Rs.bind (m_Sheaf_init (⟨⟩, γ)) (fun g => Rs.ok g.1)
noncomputable def m_Sheaf_rows : Ctx.T [.bo 0 Sheaf] → Rs (List (Int × Str)) := fun γ => Rs.bind (Rs.bind (Rs.ok γ.1) (fun b => Rs.ok b.rows)) (fun x => Rs.ok x.items)
noncomputable def m_Sheaf_shares_l1 : Ctx.T [.fz 2 (Int × Str), .ow 1 (Dct Str Int), .bo 0 Sheaf] → Rs (Ctx.T [.ow 1 (Dct Str Int), .bo 0 Sheaf]) := fun γ => Rs.bind (Rs.bind (Rs.bind (Rs.bind (Rs.bind (Rs.ok γ.2.1) (fun d => Rs.ok (DV.mk d))) (fun x => Rs.bind (Rs.bind (Rs.ok γ.1) (fun x => Rs.ok x.2)) (fun y => Rs.bind (Rs.ok (0 : Int)) (fun z => Rs.ok ((x.d.get? y).getD z))))) (fun x => Rs.bind (Rs.ok (1 : Int)) (fun y => Rs.ok (x + y)))) (fun a => Rs.bind (Rs.bind (Rs.ok γ.1) (fun x => Rs.ok x.2)) (fun k => Rs.bind (dputR γ.2.1 k a) (fun ys => Rs.ok (γ.1, ys, γ.2.2.1, ()))))) (fun γ => Rs.ok (γ.2.1, γ.2.2.1, ()))
noncomputable def m_Sheaf_shares : Ctx.T [.bo 0 Sheaf] → Rs (Dct Str Int) := fun γ => Rs.bind (Rs.bind (Rs.ok (⟨[]⟩ : Dct Str Int)) (fun a => Rs.ok (a, γ.1, ()))) (fun γ => Rs.bind (Rs.bind (Rs.bind (Rs.bind (Rs.ok γ.2.1) (fun b => Rs.ok b.rows)) (fun t => Rs.ok t.items)) (fun xs => Rs.fold (fun γ x => m_Sheaf_shares_l1 (x, γ)) γ xs)) (fun γ => Rs.ok γ.1))
noncomputable def m_ascending_l1 : Ctx.T [.fz 2 Str, .ow 1 (List Str), .bo 0 (List Str)] → Rs (Ctx.T [.ow 1 (List Str), .bo 0 (List Str)]) := fun γ => Rs.bind (Rs.bind (Rs.bind (Rs.bind (Rs.bind (Rs.ok γ.2.1) (fun x => Rs.ok (!x.isEmpty))) (fun b => Rs.ok (!b))) (fun b => if b = true then Rs.ok true else Rs.bind (Rs.bind (Rs.ok γ.2.1) (fun x => Rs.bind (Rs.bind (Rs.ok (1 : Int)) (fun x => Rs.ok (-x))) (fun y => getI x y))) (fun x => Rs.bind (Rs.ok γ.1) (fun y => Rs.ok (!decide (x = y)))))) (fun b => if b = true then Rs.bind (Rs.bind (Rs.ok γ.1) (fun a => Rs.bind (appI γ.2.1 a) (fun ys => Rs.ok (γ.1, ys, γ.2.2.1, ())))) (fun γ => Rs.ok (γ.2.1, γ.2.2.1, ())) else Rs.ok (γ.2.1, γ.2.2.1, ()))) (fun γ => Rs.ok (γ.1, γ.2.1, ()))
noncomputable def m_ascending : Ctx.T [.bo 0 (List Str)] → Rs (List Str) := fun γ => Rs.bind (Rs.bind (Rs.bind (Rs.ok ([] : List Str)) Rs.ok) (fun a => Rs.ok (a, γ.1, ()))) (fun γ => Rs.bind (Rs.bind (Rs.bind (Rs.bind (Rs.ok γ.2.1) sortS) Rs.ok) (fun xs => Rs.fold (fun γ x => m_ascending_l1 (x, γ)) γ xs)) (fun γ => Rs.ok γ.1))
noncomputable def m_Sheaf_records_e1 : Ctx.T [.fz 1 (Int × Str)] → Rs Str := fun γ => Rs.bind (Rs.ok γ.1) (fun x => Rs.ok x.2)
noncomputable def m_Sheaf_records : Ctx.T [.bo 0 Sheaf] → Rs (List Str) := fun γ => Rs.bind (Rs.bind (Rs.bind (Rs.bind (Rs.bind (Rs.ok γ.1) (fun b => Rs.ok b.rows)) (fun t => Rs.ok t.items)) (fun xs => if xs.length ≤ 16777216 then Rs.comp (fun x => Rs.ok true) (fun x => m_Sheaf_records_e1 (x, (()))) xs else Rs.no)) (fun a => Rs.bind (Rs.ok ()) (fun g => Rs.ok (a, g)))) m_ascending
noncomputable def m_outcome_order_l1 : Ctx.T [.fz 2 Str, .ow 1 (Dct Str Int), .bo 0 Sheaf] → Rs (Ctx.T [.ow 1 (Dct Str Int), .bo 0 Sheaf]) := fun γ => Rs.bind (Rs.bind (Rs.bind (Rs.bind (Rs.bind (Rs.ok γ.2.1) (fun d => Rs.ok (DV.mk d))) (fun x => Rs.bind (Rs.ok γ.1) (fun y => dgetR x.d y))) (fun x => Rs.bind (Rs.ok (1 : Int)) (fun y => Rs.ok (decide (y < x))))) (fun b => if b = true then Rs.bind (Rs.rai "RepeatedRecord" "record" (Rs.ok γ.1) : Rs Unit) (fun _ => Rs.no) else Rs.ok (γ.2.1, γ.2.2.1, ()))) (fun γ => Rs.ok (γ.1, γ.2.1, ()))
noncomputable def m_outcome_order_e2 : Ctx.T [.fz 5 Int, .ow 3 (List (Int × Str))] → Rs (Int × Int) := fun γ => Rs.bind (Rs.bind (Rs.bind (Rs.ok γ.2.1) (fun x => Rs.bind (Rs.ok γ.1) (fun y => getI x y))) (fun x => Rs.ok x.1)) (fun x => Rs.bind (Rs.ok γ.1) (fun y => Rs.ok (x, y)))
noncomputable def m_outcome_order_e3 : Ctx.T [.fz 4 (Int × Int)] → Rs Int := fun γ => Rs.bind (Rs.ok γ.1) (fun x => Rs.ok x.2)
noncomputable def m_outcome_order : Ctx.T [.bo 0 Sheaf] → Rs (List Int) := fun γ => Rs.bind (Rs.bind (Rs.bind (Rs.ok γ.1) (fun s => m_Sheaf_shares (s, ()))) (fun a => Rs.ok (a, γ.1, ()))) (fun γ => Rs.bind (Rs.bind (Rs.bind (Rs.bind (Rs.ok γ.2.1) (fun s => m_Sheaf_records (s, ()))) Rs.ok) (fun xs => Rs.fold (fun γ x => m_outcome_order_l1 (x, γ)) γ xs)) (fun γ => Rs.bind (Rs.bind (Rs.bind (Rs.ok γ.2.1) (fun s => m_Sheaf_rows (s, ()))) (fun a => Rs.ok (a, ()))) (fun γ => Rs.bind (Rs.bind (Rs.bind (Rs.bind (Rs.bind (Rs.bind (Rs.ok γ.1) (fun x => Rs.ok (x.length : Int))) (fun n => Rng 0 n)) (fun xs => if xs.length ≤ 16777216 then Rs.comp (fun x => Rs.ok true) (fun x => m_outcome_order_e2 (x, (γ.1, ()))) xs else Rs.no)) (fun x => Rs.ok (x.mergeSort SortT.le))) Rs.ok) (fun xs => if xs.length ≤ 16777216 then Rs.comp (fun x => Rs.ok true) (fun x => m_outcome_order_e3 (x, (()))) xs else Rs.no))))
noncomputable def m_ordered_levels_e1 : Ctx.T [.fz 2 Int, .ow 1 (List (Int × Str))] → Rs Int := fun γ => Rs.bind (Rs.bind (Rs.ok γ.2.1) (fun x => Rs.bind (Rs.ok γ.1) (fun y => getI x y))) (fun x => Rs.ok x.1)
noncomputable def m_ordered_levels : Ctx.T [.bo 0 Sheaf] → Rs (List Int) := fun γ => Rs.bind (Rs.bind (Rs.bind (Rs.ok γ.1) (fun s => m_Sheaf_rows (s, ()))) (fun a => Rs.ok (a, γ.1, ()))) (fun γ => Rs.bind (Rs.bind (Rs.bind (Rs.bind (Rs.ok γ.2.1) (fun a => Rs.bind (Rs.ok ()) (fun g => Rs.ok (a, g)))) m_outcome_order) Rs.ok) (fun xs => if xs.length ≤ 16777216 then Rs.comp (fun x => Rs.ok true) (fun x => m_ordered_levels_e1 (x, (γ.1, ()))) xs else Rs.no))
noncomputable def m_capped_power_w1 : Ctx.T [.fz 4 Int, .fz 3 Int, .fz 0 Int, .fz 2 Int] → Rs Bool := fun γ => Rs.bind (Rs.bind (Rs.ok γ.1) (fun x => Rs.bind (Rs.ok (0 : Int)) (fun y => Rs.ok (decide (y < x))))) (fun b => if b = true then Rs.bind (Rs.ok γ.2.1) (fun x => Rs.bind (Rs.ok γ.2.2.2.1) (fun y => Rs.ok (decide (x < y)))) else Rs.ok false)
noncomputable def m_capped_power_l2 : Ctx.T [.fz 4 Int, .fz 3 Int, .fz 0 Int, .fz 2 Int] → Rs (Ctx.T [.fz 4 Int, .fz 3 Int, .fz 0 Int, .fz 2 Int]) := fun γ => Rs.bind (Rs.bind (Rs.bind (Rs.ok γ.2.1) (fun x => Rs.bind (Rs.ok γ.2.2.1) (fun y => if CMul x y then Rs.ok (x * y) else Rs.no))) (fun a => Rs.ok (γ.1, a, γ.2.2.1, γ.2.2.2.1, ()))) (fun γ => Rs.bind (Rs.bind (Rs.bind (Rs.ok γ.1) (fun x => Rs.bind (Rs.ok (1 : Int)) (fun y => Rs.ok (x - y)))) (fun a => Rs.ok (a, γ.2.1, γ.2.2.1, γ.2.2.2.1, ()))) (fun γ => Rs.ok (γ.1, γ.2.1, γ.2.2.1, γ.2.2.2.1, ())))
noncomputable def m_capped_power : Ctx.T [.fz 0 Int, .fz 1 Int, .fz 2 Int] → Rs Int := fun γ => Rs.bind (Rs.bind (Rs.ok (1 : Int)) (fun a => Rs.ok (a, γ.1, γ.2.1, γ.2.2.1, ()))) (fun γ => Rs.bind (Rs.bind (Rs.ok γ.2.2.1) (fun a => Rs.ok (a, γ.1, γ.2.1, γ.2.2.2.1, ()))) (fun γ => Rs.bind (Rs.whl m_capped_power_w1 m_capped_power_l2 γ) (fun γ => Rs.bind (Rs.bind (Rs.bind (Rs.ok γ.2.1) (fun a => Rs.bind (Rs.bind (Rs.ok γ.2.2.2.1) (fun a => Rs.bind (Rs.ok ([] : List Int)) (fun g => Rs.ok (a :: g)))) (fun g => Rs.ok (a :: g)))) Rs.ok) minI)))
noncomputable def m_capped_caps_e1 : Ctx.T [.fz 3 Int, .bo 0 (List Int), .fz 1 Int, .fz 2 Int] → Rs Int := fun γ => Rs.bind (Rs.bind (Rs.ok γ.1) (fun x => Rs.bind (Rs.ok γ.2.2.1) (fun y => Rs.ok (decide (y ≤ x))))) (fun b => if b = true then Rs.bind (Rs.bind (Rs.bind (Rs.ok γ.2.2.2.1) (fun x => Rs.bind (Rs.ok (1 : Int)) (fun y => Rs.ok (x + y)))) (fun a => Rs.bind (Rs.bind (Rs.bind (Rs.ok γ.1) (fun x => Rs.bind (Rs.ok γ.2.2.1) (fun y => Rs.ok (x - y)))) (fun a => Rs.bind (Rs.bind (Rs.bind (Rs.ok γ.2.1) (fun x => Rs.ok (x.length : Int))) (fun a => Rs.bind (Rs.ok ()) (fun g => Rs.ok (a, g)))) (fun g => Rs.ok (a, g)))) (fun g => Rs.ok (a, g)))) m_capped_power else Rs.ok (0 : Int))
noncomputable def m_capped_caps : Ctx.T [.bo 0 (List Int), .fz 1 Int, .fz 2 Int] → Rs (List Int) := fun γ => Rs.bind (Rs.ok γ.1) (fun xs => if xs.length ≤ 16777216 then Rs.comp (fun x => Rs.ok true) (fun x => m_capped_caps_e1 (x, (γ.1, γ.2.1, γ.2.2.1, ()))) xs else Rs.no)
noncomputable def m_is_outcome_e1 : Ctx.T [.fz 9 Int, .ow 6 (List Int), .bo 2 (List Int)] → Rs Bool := fun γ => Rs.bind (Rs.bind (Rs.ok γ.2.2.1) (fun x => Rs.bind (Rs.ok γ.1) (fun y => getI x y))) (fun x => Rs.bind (Rs.bind (Rs.ok γ.2.1) (fun x => Rs.bind (Rs.ok γ.1) (fun y => getI x y))) (fun y => Rs.ok (decide (y < x))))
noncomputable def m_is_outcome_t2 : Ctx.T [.fz 9 Int, .fz 7 Int, .ow 4 (List Int), .bo 2 (List Int)] → Rs Bool := fun γ => Rs.bind (Rs.bind (Rs.bind (Rs.ok γ.2.2.1) (fun x => Rs.bind (Rs.ok γ.1) (fun y => getI x y))) (fun x => Rs.bind (Rs.ok γ.2.1) (fun y => Rs.ok (decide (x ≤ y))))) (fun b => if b = true then Rs.bind (Rs.bind (Rs.ok γ.2.2.2.1) (fun x => Rs.bind (Rs.ok γ.1) (fun y => getI x y))) (fun x => Rs.bind (Rs.ok (0 : Int)) (fun y => Rs.ok (decide (x = y)))) else Rs.ok false)
noncomputable def m_is_outcome_e3 : Ctx.T [.fz 9 Int, .fz 7 Int, .ow 4 (List Int), .bo 2 (List Int)] → Rs Int := fun γ => Rs.ok γ.1
noncomputable def m_is_outcome_l4 : Ctx.T [.fz 7 Int, .fz 5 Int, .ow 4 (List Int), .fz 1 Int, .bo 2 (List Int)] → Rs (Ctx.T [.fz 5 Int, .ow 4 (List Int), .fz 1 Int, .bo 2 (List Int)] ⊕ Bool) := fun γ => Rs.bind (Rs.bind (Rs.bind (Rs.bind (Rs.bind (Rs.ok γ.2.1) (fun n => Rng 0 n)) (fun xs => if xs.length ≤ 16777216 then Rs.comp (fun x => m_is_outcome_t2 (x, (γ.1, γ.2.2.1, γ.2.2.2.2.1, ()))) (fun x => m_is_outcome_e3 (x, (γ.1, γ.2.2.1, γ.2.2.2.2.1, ()))) xs else Rs.no)) (fun x => Rs.ok (x.length : Int))) (fun a => Rs.ok (a, γ.1, γ.2.1, γ.2.2.1, γ.2.2.2.1, γ.2.2.2.2.1, ()))) (fun γ => Rs.bind (Rs.bind (Rs.ok γ.1) (fun x => Rs.bind (Rs.bind (Rs.bind (Rs.ok γ.2.1) (fun x => Rs.bind (Rs.ok (1 : Int)) (fun y => Rs.ok (x + y)))) (fun x => Rs.bind (Rs.ok γ.2.2.2.2.1) (fun y => Rs.ok (x - y)))) (fun y => Rs.ok (decide (x < y))))) (fun b => if b = true then Rs.bind (Rs.ok false) (fun z => Rs.ok (.inr z)) else Rs.ok (.inl (γ.2.2.1, γ.2.2.2.1, γ.2.2.2.2.1, γ.2.2.2.2.2.1, ()))))
noncomputable def m_is_outcome_b5 : Ctx.T [.fz 5 Int, .ow 4 (List Int), .fz 1 Int, .bo 2 (List Int)] → Rs Bool := fun γ => Rs.ok true
noncomputable def m_is_outcome_b6 : Ctx.T [.fz 5 Int, .ow 4 (List Int), .fz 1 Int, .bo 2 (List Int)] → Rs Bool := fun γ => Rs.left (Rs.bind (Rs.bind (Rs.ok γ.2.2.1) (fun a => Rs.bind (Rs.bind (Rs.ok γ.2.1) (fun x => Rs.bind (Rs.bind (Rs.ok (1 : Int)) (fun x => Rs.ok (-x))) (fun y => getI x y))) (fun b => Rng a b))) (fun xs => Rs.foldR (fun γ x => m_is_outcome_l4 (x, γ)) γ xs)) m_is_outcome_b5
noncomputable def m_is_outcome : Ctx.T [.bo 0 Sheaf, .fz 1 Int, .bo 2 (List Int), .fz 3 Int] → Rs Bool := fun γ => Rs.bind (Rs.bind (Rs.bind (Rs.bind (Rs.ok γ.1) (fun a => Rs.bind (Rs.ok ()) (fun g => Rs.ok (a, g)))) m_ordered_levels) (fun a => Rs.ok (a, γ.2.1, γ.2.2.1, γ.2.2.2.1, ()))) (fun γ => Rs.bind (Rs.bind (Rs.bind (Rs.ok γ.1) (fun x => Rs.ok (x.length : Int))) (fun a => Rs.ok (a, γ.1, γ.2.1, γ.2.2.1, γ.2.2.2.1, ()))) (fun γ => Rs.bind (Rs.bind (Rs.bind (Rs.bind (Rs.ok γ.2.2.2.1) (fun x => Rs.ok (x.length : Int))) (fun x => Rs.bind (Rs.ok γ.1) (fun y => Rs.ok (!decide (x = y))))) (fun b => if b = true then Rs.ok true else Rs.bind (Rs.bind (Rs.bind (Rs.ok γ.2.2.2.1) minI) (fun x => Rs.bind (Rs.ok (0 : Int)) (fun y => Rs.ok (decide (x < y))))) (fun b => if b = true then Rs.ok true else Rs.bind (Rs.bind (Rs.ok γ.2.2.2.1) (fun x => Rs.ok x.sum)) (fun x => Rs.bind (Rs.ok γ.1) (fun y => Rs.ok (!decide (x = y))))))) (fun b => if b = true then Rs.ok false else Rs.bind (Rs.bind (Rs.bind (Rs.bind (Rs.ok γ.2.1) (fun a => Rs.bind (Rs.bind (Rs.ok γ.2.2.1) (fun a => Rs.bind (Rs.bind (Rs.ok γ.2.2.2.2.1) (fun a => Rs.bind (Rs.ok ()) (fun g => Rs.ok (a, g)))) (fun g => Rs.ok (a, g)))) (fun g => Rs.ok (a, g)))) m_capped_caps) (fun a => Rs.ok (a, γ.1, γ.2.1, γ.2.2.1, γ.2.2.2.1, ()))) (fun γ => Rs.bind (Rs.bind (Rs.bind (Rs.bind (Rs.ok γ.2.1) (fun n => Rng 0 n)) (fun xs => if xs.length ≤ 16777216 then Rs.comp (fun x => Rs.ok true) (fun x => m_is_outcome_e1 (x, (γ.1, γ.2.2.2.2.1, ()))) xs else Rs.no)) (fun x => Rs.ok (x.any id))) (fun b => if b = true then Rs.ok false else m_is_outcome_b6 (γ.2.1, γ.2.2.1, γ.2.2.2.1, γ.2.2.2.2.1, ()))))))
noncomputable def m_law_told : Ctx.T [.bo 0 Sheaf, .fz 1 Int, .bo 2 (List Int), .fz 3 Int, .fz 4 Bool] → Rs Bool := fun γ => Rs.bind (Rs.ok γ.2.2.2.2.1) (fun b => if b = true then Rs.bind (Rs.bind (Rs.ok γ.1) (fun a => Rs.bind (Rs.bind (Rs.ok γ.2.1) (fun a => Rs.bind (Rs.bind (Rs.ok γ.2.2.1) (fun a => Rs.bind (Rs.ok ()) (fun g => Rs.ok (a, g)))) (fun g => Rs.ok (a, g)))) (fun g => Rs.ok (a, g)))) (fun g => m_is_outcome (g.1, g.2.1, g.2.2.1, (1 : Int), ())) else Rs.bind (Rs.bind (Rs.ok γ.1) (fun a => Rs.bind (Rs.bind (Rs.ok γ.2.1) (fun a => Rs.bind (Rs.bind (Rs.ok γ.2.2.1) (fun a => Rs.bind (Rs.ok ()) (fun g => Rs.ok (a, g)))) (fun g => Rs.ok (a, g)))) (fun g => Rs.ok (a, g)))) (fun g => Rs.bind (Rs.ok γ.2.2.2.1) (fun a => m_is_outcome (g.1, g.2.1, g.2.2.1, a, ()))))
noncomputable def m_law_low_t1 : Ctx.T [.fz 2 Int, .fz 1 Int] → Rs Bool := fun γ => Rs.bind (Rs.ok γ.1) (fun x => Rs.bind (Rs.ok γ.2.1) (fun y => Rs.ok (decide (x < y))))
noncomputable def m_law_low_e2 : Ctx.T [.fz 2 Int, .fz 1 Int] → Rs Int := fun γ => Rs.ok γ.1
noncomputable def m_law_low_e3 : Ctx.T [.fz 1 Int, .bo 0 (List Int)] → Rs Int := fun γ => Rs.bind (Rs.ok γ.1) (fun x => Rs.bind (Rs.bind (Rs.bind (Rs.bind (Rs.ok γ.2.1) Rs.ok) (fun xs => if xs.length ≤ 16777216 then Rs.comp (fun x => m_law_low_t1 (x, (γ.1, ()))) (fun x => m_law_low_e2 (x, (γ.1, ()))) xs else Rs.no)) (fun x => Rs.ok (x.length : Int))) (fun y => Rs.ok (x - y)))
noncomputable def m_law_low : Ctx.T [.bo 0 (List Int)] → Rs Int := fun γ => Rs.bind (Rs.bind (Rs.ok γ.1) (fun xs => if xs.length ≤ 16777216 then Rs.comp (fun x => Rs.ok true) (fun x => m_law_low_e3 (x, (γ.1, ()))) xs else Rs.no)) maxI
noncomputable def m_law_power_l1 : Ctx.T [.fz 3 Int, .fz 2 Int, .fz 0 Int, .fz 1 Int] → Rs (Ctx.T [.fz 2 Int, .fz 0 Int, .fz 1 Int]) := fun γ => Rs.bind (Rs.bind (Rs.bind (Rs.ok γ.2.1) (fun x => Rs.bind (Rs.ok γ.2.2.1) (fun y => if CMul x y then Rs.ok (x * y) else Rs.no))) (fun a => Rs.ok (γ.1, a, γ.2.2.1, γ.2.2.2.1, ()))) (fun γ => Rs.ok (γ.2.1, γ.2.2.1, γ.2.2.2.1, ()))
noncomputable def m_law_power : Ctx.T [.fz 0 Int, .fz 1 Int] → Rs Int := fun γ => Rs.bind (Rs.bind (Rs.ok (1 : Int)) (fun a => Rs.ok (a, γ.1, γ.2.1, ()))) (fun γ => Rs.bind (Rs.bind (Rs.bind (Rs.ok γ.2.2.1) (fun n => Rng 0 n)) (fun xs => Rs.fold (fun γ x => m_law_power_l1 (x, γ)) γ xs)) (fun γ => Rs.ok γ.1))
noncomputable def m_law_cap : Ctx.T [.fz 0 Int, .fz 1 Int, .fz 2 Int] → Rs Int := fun γ => Rs.bind (Rs.bind (Rs.ok γ.1) (fun x => Rs.bind (Rs.ok γ.2.1) (fun y => Rs.ok (decide (x < y))))) (fun b => if b = true then Rs.ok (0 : Int) else Rs.bind (Rs.bind (Rs.bind (Rs.ok γ.2.2.1) (fun x => Rs.bind (Rs.ok (1 : Int)) (fun y => Rs.ok (x + y)))) (fun a => Rs.bind (Rs.bind (Rs.bind (Rs.ok γ.1) (fun x => Rs.bind (Rs.ok γ.2.1) (fun y => Rs.ok (x - y)))) (fun a => Rs.bind (Rs.ok ()) (fun g => Rs.ok (a, g)))) (fun g => Rs.ok (a, g)))) m_law_power)
noncomputable def m_law_high_e1 : Ctx.T [.fz 4 Int, .fz 3 Int, .fz 2 Int, .fz 1 Int] → Rs Int := fun γ => Rs.bind (Rs.bind (Rs.ok γ.1) (fun a => Rs.bind (Rs.bind (Rs.bind (Rs.ok γ.2.2.1) (fun x => Rs.bind (Rs.ok γ.2.1) (fun y => Rs.ok (x - y)))) (fun a => Rs.bind (Rs.bind (Rs.ok γ.2.2.2.1) (fun a => Rs.bind (Rs.ok ()) (fun g => Rs.ok (a, g)))) (fun g => Rs.ok (a, g)))) (fun g => Rs.ok (a, g)))) m_law_cap
noncomputable def m_law_high_l2 : Ctx.T [.fz 3 Int, .fz 2 Int, .bo 0 (List Int), .fz 1 Int] → Rs (Ctx.T [.fz 2 Int, .bo 0 (List Int), .fz 1 Int] ⊕ Int) := fun γ => Rs.bind (Rs.bind (Rs.bind (Rs.bind (Rs.ok γ.2.2.1) (fun xs => if xs.length ≤ 16777216 then Rs.comp (fun x => Rs.ok true) (fun x => m_law_high_e1 (x, (γ.1, γ.2.1, γ.2.2.2.1, ()))) xs else Rs.no)) (fun x => Rs.ok x.sum)) (fun x => Rs.bind (Rs.bind (Rs.ok γ.2.2.1) (fun x => Rs.ok (x.length : Int))) (fun y => Rs.ok (decide (y ≤ x))))) (fun b => if b = true then Rs.bind (Rs.bind (Rs.ok γ.2.1) (fun x => Rs.bind (Rs.ok γ.1) (fun y => Rs.ok (x - y)))) (fun z => Rs.ok (.inr z)) else Rs.ok (.inl (γ.2.1, γ.2.2.1, γ.2.2.2.1, ())))
noncomputable def m_law_high_b3 : Ctx.T [.fz 2 Int, .bo 0 (List Int), .fz 1 Int] → Rs Int := fun γ => Rs.bind (Rs.ok γ.1) (fun x => Rs.bind (Rs.ok (60 : Int)) (fun y => Rs.ok (x - y)))
noncomputable def m_law_high : Ctx.T [.bo 0 (List Int), .fz 1 Int] → Rs Int := fun γ => Rs.bind (Rs.bind (Rs.bind (Rs.ok γ.1) maxI) (fun a => Rs.ok (a, γ.1, γ.2.1, ()))) (fun γ => Rs.left (Rs.bind (Rs.bind (Rs.ok (60 : Int)) (fun n => Rng 0 n)) (fun xs => Rs.foldR (fun γ x => m_law_high_l2 (x, γ)) γ xs)) m_law_high_b3)
noncomputable def m_law_is_outcome_t1 : Ctx.T [.fz 8 Int] → Rs Bool := fun γ => Rs.bind (Rs.ok γ.1) (fun x => Rs.bind (Rs.ok (0 : Int)) (fun y => Rs.ok (decide (x < y))))
noncomputable def m_law_is_outcome_e2 : Ctx.T [.fz 8 Int] → Rs Int := fun γ => Rs.ok γ.1
noncomputable def m_law_is_outcome_l3 : Ctx.T [.fz 5 Int, .fz 4 Int, .bo 0 (List Int), .fz 1 Int, .bo 2 (List Int), .fz 3 Int] → Rs (Ctx.T [.fz 4 Int, .bo 0 (List Int), .fz 1 Int, .bo 2 (List Int), .fz 3 Int] ⊕ Bool) := fun γ => Rs.bind (Rs.bind (Rs.bind (Rs.ok γ.2.2.2.2.1) (fun x => Rs.bind (Rs.ok γ.1) (fun y => getI x y))) (fun x => Rs.bind (Rs.bind (Rs.bind (Rs.bind (Rs.ok γ.2.2.1) (fun x => Rs.bind (Rs.ok γ.1) (fun y => getI x y))) (fun a => Rs.bind (Rs.bind (Rs.ok γ.2.2.2.1) (fun a => Rs.bind (Rs.bind (Rs.ok γ.2.2.2.2.2.1) (fun a => Rs.bind (Rs.ok ()) (fun g => Rs.ok (a, g)))) (fun g => Rs.ok (a, g)))) (fun g => Rs.ok (a, g)))) m_law_cap) (fun y => Rs.ok (decide (y < x))))) (fun b => if b = true then Rs.bind (Rs.ok false) (fun z => Rs.ok (.inr z)) else Rs.ok (.inl (γ.2.1, γ.2.2.1, γ.2.2.2.1, γ.2.2.2.2.1, γ.2.2.2.2.2.1, ())))
noncomputable def m_law_is_outcome_t4 : Ctx.T [.fz 5 Int, .fz 6 Int, .bo 0 (List Int), .bo 2 (List Int)] → Rs Bool := fun γ => Rs.bind (Rs.bind (Rs.bind (Rs.ok γ.2.2.1) (fun x => Rs.bind (Rs.ok γ.1) (fun y => getI x y))) (fun x => Rs.bind (Rs.ok γ.2.1) (fun y => Rs.ok (decide (x ≤ y))))) (fun b => if b = true then Rs.bind (Rs.bind (Rs.ok γ.2.2.2.1) (fun x => Rs.bind (Rs.ok γ.1) (fun y => getI x y))) (fun x => Rs.bind (Rs.ok (0 : Int)) (fun y => Rs.ok (decide (x = y)))) else Rs.ok false)
noncomputable def m_law_is_outcome_e5 : Ctx.T [.fz 5 Int, .fz 6 Int, .bo 0 (List Int), .bo 2 (List Int)] → Rs Int := fun γ => Rs.ok γ.1
noncomputable def m_law_is_outcome_l6 : Ctx.T [.fz 6 Int, .fz 4 Int, .bo 0 (List Int), .fz 1 Int, .bo 2 (List Int)] → Rs (Ctx.T [.fz 4 Int, .bo 0 (List Int), .fz 1 Int, .bo 2 (List Int)] ⊕ Bool) := fun γ => Rs.bind (Rs.bind (Rs.bind (Rs.bind (Rs.bind (Rs.ok γ.2.1) (fun n => Rng 0 n)) (fun xs => if xs.length ≤ 16777216 then Rs.comp (fun x => m_law_is_outcome_t4 (x, (γ.1, γ.2.2.1, γ.2.2.2.2.1, ()))) (fun x => m_law_is_outcome_e5 (x, (γ.1, γ.2.2.1, γ.2.2.2.2.1, ()))) xs else Rs.no)) (fun x => Rs.ok (x.length : Int))) (fun a => Rs.ok (a, γ.1, γ.2.1, γ.2.2.1, γ.2.2.2.1, γ.2.2.2.2.1, ()))) (fun γ => Rs.bind (Rs.bind (Rs.ok γ.1) (fun x => Rs.bind (Rs.bind (Rs.bind (Rs.ok γ.2.1) (fun x => Rs.bind (Rs.ok (1 : Int)) (fun y => Rs.ok (x + y)))) (fun x => Rs.bind (Rs.ok γ.2.2.2.2.1) (fun y => Rs.ok (x - y)))) (fun y => Rs.ok (decide (x < y))))) (fun b => if b = true then Rs.bind (Rs.ok false) (fun z => Rs.ok (.inr z)) else Rs.ok (.inl (γ.2.2.1, γ.2.2.2.1, γ.2.2.2.2.1, γ.2.2.2.2.2.1, ()))))
noncomputable def m_law_is_outcome_b7 : Ctx.T [.fz 4 Int, .bo 0 (List Int), .fz 1 Int, .bo 2 (List Int)] → Rs Bool := fun γ => Rs.ok true
noncomputable def m_law_is_outcome_b8 : Ctx.T [.fz 4 Int, .bo 0 (List Int), .fz 1 Int, .bo 2 (List Int)] → Rs Bool := fun γ => Rs.left (Rs.bind (Rs.bind (Rs.ok γ.2.2.1) (fun a => Rs.bind (Rs.bind (Rs.ok γ.2.1) maxI) (fun b => Rng a b))) (fun xs => Rs.foldR (fun γ x => m_law_is_outcome_l6 (x, γ)) γ xs)) m_law_is_outcome_b7
noncomputable def m_law_is_outcome_b9 : Ctx.T [.fz 4 Int, .bo 0 (List Int), .fz 1 Int, .bo 2 (List Int), .fz 3 Int] → Rs Bool := fun γ => m_law_is_outcome_b8 (γ.1, γ.2.1, γ.2.2.1, γ.2.2.2.1, ())
noncomputable def m_law_is_outcome : Ctx.T [.bo 0 (List Int), .fz 1 Int, .bo 2 (List Int), .fz 3 Int] → Rs Bool := fun γ => Rs.bind (Rs.bind (Rs.bind (Rs.ok γ.1) (fun x => Rs.ok (x.length : Int))) (fun a => Rs.ok (a, γ.1, γ.2.1, γ.2.2.1, γ.2.2.2.1, ()))) (fun γ => Rs.bind (Rs.bind (Rs.bind (Rs.ok γ.2.2.1) (fun x => Rs.bind (Rs.bind (Rs.bind (Rs.ok γ.2.1) (fun a => Rs.bind (Rs.ok ()) (fun g => Rs.ok (a, g)))) m_law_low) (fun y => Rs.ok (decide (x < y))))) (fun b => if b = true then Rs.ok true else Rs.bind (Rs.bind (Rs.ok γ.2.2.1) (fun x => Rs.bind (Rs.bind (Rs.bind (Rs.ok γ.2.1) (fun a => Rs.bind (Rs.bind (Rs.ok γ.2.2.2.2.1) (fun a => Rs.bind (Rs.ok ()) (fun g => Rs.ok (a, g)))) (fun g => Rs.ok (a, g)))) m_law_high) (fun y => Rs.ok (decide (y < x))))) (fun b => if b = true then Rs.ok true else Rs.bind (Rs.bind (Rs.ok γ.2.2.2.1) (fun x => Rs.ok (x.length : Int))) (fun x => Rs.bind (Rs.ok γ.1) (fun y => Rs.ok (!decide (x = y))))))) (fun b => if b = true then Rs.ok false else Rs.bind (Rs.bind (Rs.bind (Rs.bind (Rs.bind (Rs.ok γ.2.2.2.1) (fun xs => if xs.length ≤ 16777216 then Rs.comp (fun x => m_law_is_outcome_t1 (x, (()))) (fun x => m_law_is_outcome_e2 (x, (()))) xs else Rs.no)) (fun x => Rs.ok (x.length : Int))) (fun x => Rs.bind (Rs.ok (0 : Int)) (fun y => Rs.ok (decide (y < x))))) (fun b => if b = true then Rs.ok true else Rs.bind (Rs.bind (Rs.ok γ.2.2.2.1) (fun x => Rs.ok x.sum)) (fun x => Rs.bind (Rs.ok γ.1) (fun y => Rs.ok (!decide (x = y)))))) (fun b => if b = true then Rs.ok false else Rs.left (Rs.bind (Rs.bind (Rs.ok γ.1) (fun n => Rng 0 n)) (fun xs => Rs.foldR (fun γ x => m_law_is_outcome_l3 (x, γ)) γ xs)) m_law_is_outcome_b9)))
noncomputable def m_law_right : Ctx.T [.bo 0 Sheaf, .bo 1 (List Int), .fz 2 Int, .bo 3 (List Int), .fz 4 Int, .fz 5 Bool] → Rs Bool := fun γ => Rs.bind (Rs.bind (Rs.bind (Rs.ok γ.2.2.2.1) (fun x => Rs.ok x)) (fun a => Rs.ok (a, γ.1, γ.2.1, γ.2.2.1, γ.2.2.2.1, γ.2.2.2.2.1, γ.2.2.2.2.2.1, ()))) (fun γ => Rs.bind (Rs.bind (Rs.bind (Rs.bind (Rs.ok γ.2.1) (fun a => Rs.bind (Rs.bind (Rs.ok γ.2.2.2.1) (fun a => Rs.bind (Rs.bind (Rs.ok γ.1) (fun a => Rs.bind (Rs.bind (Rs.ok γ.2.2.2.2.2.1) (fun a => Rs.bind (Rs.bind (Rs.ok γ.2.2.2.2.2.2.1) (fun a => Rs.bind (Rs.ok ()) (fun g => Rs.ok (a, g)))) (fun g => Rs.ok (a, g)))) (fun g => Rs.ok (a, g)))) (fun g => Rs.ok (a, g)))) (fun g => Rs.ok (a, g)))) m_law_told) (fun a => Rs.ok (a, γ.1, γ.2.2.1, γ.2.2.2.1, γ.2.2.2.2.1, γ.2.2.2.2.2.1, ()))) (fun γ => Rs.bind (Rs.bind (Rs.ok γ.2.1) (fun x => Rs.bind (Rs.ok γ.2.2.2.2.1) (fun y => Rs.ok (!decide (x = y))))) (fun b => if b = true then Rs.ok false else Rs.bind (Rs.bind (Rs.bind (Rs.ok γ.2.2.1) (fun a => Rs.bind (Rs.bind (Rs.ok γ.2.2.2.1) (fun a => Rs.bind (Rs.bind (Rs.ok γ.2.2.2.2.1) (fun a => Rs.bind (Rs.bind (Rs.ok γ.2.2.2.2.2.1) (fun a => Rs.bind (Rs.ok ()) (fun g => Rs.ok (a, g)))) (fun g => Rs.ok (a, g)))) (fun g => Rs.ok (a, g)))) (fun g => Rs.ok (a, g)))) m_law_is_outcome) (fun b => if b = true then Rs.bind (Rs.ok γ.1) (fun x => Rs.bind (Rs.ok true) (fun y => Rs.ok (x == y))) else Rs.bind (Rs.ok γ.1) (fun x => Rs.bind (Rs.ok false) (fun y => Rs.ok (x == y)))))))
noncomputable def m_law_is_integer : Ctx.T [.fz 0 Int] → Rs Bool := fun γ => Rs.bind (Rs.bind (Rs.ok γ.1) (fun _ => Rs.ok true)) (fun b => if b = true then Rs.bind (Rs.bind (Rs.ok γ.1) (fun _ => Rs.ok false)) (fun b => Rs.ok (!b)) else Rs.ok false)
noncomputable def m_law_same_integers_t1 : Ctx.T [.fz 2 Int] → Rs Bool := fun γ => Rs.bind (Rs.bind (Rs.bind (Rs.ok γ.1) (fun a => Rs.bind (Rs.ok ()) (fun g => Rs.ok (a, g)))) m_law_is_integer) (fun b => Rs.ok (!b))
noncomputable def m_law_same_integers_e2 : Ctx.T [.fz 2 Int] → Rs Int := fun γ => Rs.ok γ.1
noncomputable def m_law_same_integers : Ctx.T [.bo 0 (List Int), .bo 1 (List Int)] → Rs Bool := fun γ => Rs.bind (Rs.bind (Rs.bind (Rs.ok γ.1) (fun _ => Rs.ok true)) (fun b => Rs.ok (!b))) (fun b => if b = true then Rs.ok false else Rs.bind (Rs.bind (Rs.bind (Rs.bind (Rs.ok γ.1) (fun xs => if xs.length ≤ 16777216 then Rs.comp (fun x => m_law_same_integers_t1 (x, (()))) (fun x => m_law_same_integers_e2 (x, (()))) xs else Rs.no)) (fun x => Rs.ok (x.length : Int))) (fun x => Rs.bind (Rs.ok (0 : Int)) (fun y => Rs.ok (decide (x = y))))) (fun b => if b = true then Rs.bind (Rs.ok γ.1) (fun x => Rs.bind (Rs.ok γ.2.1) (fun y => Rs.ok (decide (x = y)))) else Rs.ok false))
noncomputable def m_law_repeated_e1 : Ctx.T [.fz 3 (Int × Str)] → Rs Str := fun γ => Rs.bind (Rs.ok γ.1) (fun x => Rs.ok x.2)
noncomputable def m_law_repeated_e2 : Ctx.T [.fz 3 (Int × Str)] → Rs Str := fun γ => Rs.bind (Rs.ok γ.1) (fun x => Rs.ok x.2)
noncomputable def m_law_repeated_l3 : Ctx.T [.fz 2 Int, .ow 1 (List Str), .bo 0 (List (Int × Str))] → Rs (Ctx.T [.ow 1 (List Str), .bo 0 (List (Int × Str))]) := fun γ => Rs.bind (Rs.bind (Rs.bind (Rs.bind (Rs.bind (Rs.ok γ.2.2.1) (fun x => Rs.bind (Rs.ok γ.1) (fun y => getI x y))) (fun x => Rs.ok x.2)) (fun x => Rs.bind (Rs.bind (Rs.bind (Rs.bind (Rs.ok γ.2.2.1) (fun x => Rs.bind (Rs.ok none) (fun l => Rs.bind (Rs.bind (Rs.ok γ.1) (fun i => Rs.ok (some i))) (fun h => Rs.ok (cutI x l h))))) Rs.ok) (fun xs => if xs.length ≤ 16777216 then Rs.comp (fun x => Rs.ok true) (fun x => m_law_repeated_e2 (x, (()))) xs else Rs.no)) (fun y => Rs.ok (decide (x ∈ y))))) (fun b => if b = true then Rs.bind (Rs.bind (Rs.bind (Rs.bind (Rs.ok γ.2.2.1) (fun x => Rs.bind (Rs.ok γ.1) (fun y => getI x y))) (fun x => Rs.ok x.2)) (fun a => Rs.bind (appI γ.2.1 a) (fun ys => Rs.ok (γ.1, ys, γ.2.2.1, ())))) (fun γ => Rs.ok (γ.2.1, γ.2.2.1, ())) else Rs.ok (γ.2.1, γ.2.2.1, ()))) (fun γ => Rs.ok (γ.1, γ.2.1, ()))
noncomputable def m_law_repeated : Ctx.T [.bo 0 (List (Int × Str))] → Rs (Option Str) := fun γ => Rs.bind (Rs.bind (Rs.bind (Rs.ok ([] : List Str)) Rs.ok) (fun a => Rs.ok (a, γ.1, ()))) (fun γ => Rs.bind (Rs.bind (Rs.bind (Rs.bind (Rs.ok γ.2.1) (fun x => Rs.ok (x.length : Int))) (fun n => Rng 0 n)) (fun xs => Rs.fold (fun γ x => m_law_repeated_l3 (x, γ)) γ xs)) (fun γ => Rs.bind (Rs.bind (Rs.bind (Rs.ok γ.1) (fun x => Rs.ok (x.length : Int))) (fun x => Rs.bind (Rs.ok (0 : Int)) (fun y => Rs.ok (decide (x = y))))) (fun b => if b = true then Rs.ok (none : (Option Str)) else Rs.bind (Rs.bind (Rs.bind (Rs.ok γ.1) sortS) (fun x => Rs.bind (Rs.ok (0 : Int)) (fun y => getI x y))) (fun a => Rs.ok (some a)))))
noncomputable def m_law_refused_y1 : Ctx.T [.fz 7 (Option Str), .ow 6 (List Int), .bo 0 Sheaf, .fz 1 Int, .fz 2 (Option (List Int)), .fz 3 Int, .fz 4 Bool, .fz 5 Str] → Rs (Ctx.T [.fz 7 (Option Str), .fz 5 Str] ⊕ Bool) := fun γ => Rs.bind (Rs.bind (Rs.bind (Rs.bind (Rs.ok γ.2.2.2.2.1) (fun x => Rs.bind (Rs.ok ()) (fun y => Rs.ok x.isNone))) (fun b => if b = true then Rs.bind (Rs.bind (Rs.bind (Rs.bind (Rs.ok γ.2.2.1) (fun a => Rs.bind (Rs.ok ()) (fun g => Rs.ok (a, g)))) m_outcome_order) (fun _ => Rs.ok γ)) (fun γ => Rs.ok (γ.1, γ.2.2.2.2.2.2.2.1, ())) else Rs.bind (Rs.bind (Rs.bind (Rs.bind (Rs.ok γ.2.2.1) (fun a => Rs.bind (Rs.bind (Rs.ok γ.2.2.2.1) (fun a => Rs.bind (Rs.bind (Rs.ok γ.2.1) (fun a => Rs.bind (Rs.bind (Rs.ok γ.2.2.2.2.2.1) (fun a => Rs.bind (Rs.bind (Rs.ok γ.2.2.2.2.2.2.1) (fun a => Rs.bind (Rs.ok ()) (fun g => Rs.ok (a, g)))) (fun g => Rs.ok (a, g)))) (fun g => Rs.ok (a, g)))) (fun g => Rs.ok (a, g)))) (fun g => Rs.ok (a, g)))) m_law_told) (fun _ => Rs.ok γ)) (fun γ => Rs.ok (γ.1, γ.2.2.2.2.2.2.2.1, ())))) (fun γ => Rs.ok (γ.1, γ.2.1, ()))) (fun x => Rs.ok (.inl x))
noncomputable def m_law_refused_x2 : Ctx.T [.fz 8 Exc, .fz 7 (Option Str), .fz 5 Str] → Rs (Ctx.T [.fz 7 (Option Str), .fz 5 Str] ⊕ Bool) := fun γ => Rs.bind (Rs.bind (Rs.bind (Rs.ok true) (fun b => Rs.ok (!b))) (fun b => if b = true then Rs.ok true else Rs.bind (Rs.ok true) (fun b => Rs.ok (!b)))) (fun b => if b = true then Rs.bind (Rs.ok false) (fun z => Rs.ok (.inr z)) else Rs.bind (Rs.ok false) (fun b => if b = true then Rs.bind (Rs.ok false) (fun z => Rs.ok (.inr z)) else Rs.bind (Rs.bind (Rs.bind ((Exc.at γ.1 "record" : Rs Str)) (fun a => Rs.ok (some a))) (fun a => Rs.ok (γ.1, a, γ.2.2.1, ()))) (fun γ => Rs.ok (.inl (γ.2.1, γ.2.2.1, ())))))
noncomputable def m_law_refused_b3 : Ctx.T [.fz 7 (Option Str), .fz 5 Str] → Rs Bool := fun γ => Rs.bind (Rs.bind (Rs.ok γ.1) (fun o => Rs.ok o.isSome)) (fun b => if b = true then Rs.bind (Rs.bind (Rs.ok γ.1) theI) (fun x => Rs.bind (Rs.ok γ.2.1) (fun y => Rs.ok (decide (x = y)))) else Rs.ok false)
noncomputable def m_law_refused : Ctx.T [.bo 0 Sheaf, .fz 1 Int, .fz 2 (Option (List Int)), .fz 3 Int, .fz 4 Bool, .fz 5 Str] → Rs Bool := fun γ => Rs.bind (Rs.bind (Rs.bind (Rs.bind (Rs.ok γ.2.2.1) (fun o => Rs.ok (o.getD []))) (fun x => Rs.ok x)) (fun a => Rs.ok (a, γ.1, γ.2.1, γ.2.2.1, γ.2.2.2.1, γ.2.2.2.2.1, γ.2.2.2.2.2.1, ()))) (fun γ => Rs.bind (Rs.bind (Rs.ok (none : (Option Str))) (fun a => Rs.ok (a, γ.1, γ.2.1, γ.2.2.1, γ.2.2.2.1, γ.2.2.2.2.1, γ.2.2.2.2.2.1, γ.2.2.2.2.2.2.1, ()))) (fun γ => Rs.left (Rs.try "RepeatedRecord" [] (m_law_refused_y1 γ) (fun x => Rs.nox (m_law_refused_x2 (x, γ.1, γ.2.2.2.2.2.2.2.1, ())))) m_law_refused_b3))
noncomputable def m_law_e1 : Ctx.T [.fz 20 Int, .ow 5 (List Int), .ow 4 (List Str)] → Rs (Int × Str) := fun γ => Rs.bind (Rs.bind (Rs.ok γ.2.1) (fun x => Rs.bind (Rs.ok γ.1) (fun y => getI x y))) (fun x => Rs.bind (Rs.bind (Rs.ok γ.2.2.1) (fun x => Rs.bind (Rs.ok γ.1) (fun y => getI x y))) (fun y => Rs.ok (x, y)))
noncomputable def m_law_t2 : Ctx.T [.fz 21 (Int × Str), .fz 20 Int, .ow 4 (List Str)] → Rs Bool := fun γ => Rs.bind (Rs.bind (Rs.ok γ.1) (fun x => Rs.ok x.2)) (fun x => Rs.bind (Rs.bind (Rs.ok γ.2.2.1) (fun x => Rs.bind (Rs.ok γ.2.1) (fun y => getI x y))) (fun y => Rs.ok (decide (x = y))))
noncomputable def m_law_e3 : Ctx.T [.fz 21 (Int × Str), .fz 20 Int, .ow 4 (List Str)] → Rs (Int × Str) := fun γ => Rs.ok γ.1
noncomputable def m_law_e4 : Ctx.T [.fz 20 Int, .fz 9 (List (Int × Str)), .ow 4 (List Str)] → Rs Int := fun γ => Rs.bind (Rs.bind (Rs.bind (Rs.ok γ.2.1) Rs.ok) (fun xs => if xs.length ≤ 16777216 then Rs.comp (fun x => m_law_t2 (x, (γ.1, γ.2.2.1, ()))) (fun x => m_law_e3 (x, (γ.1, γ.2.2.1, ()))) xs else Rs.no)) (fun x => Rs.ok (x.length : Int))
noncomputable def m_law_e5 : Ctx.T [.fz 20 Int, .ow 5 (List Int)] → Rs Int := fun γ => Rs.bind (Rs.ok γ.2.1) (fun x => Rs.bind (Rs.ok γ.1) (fun y => getI x y))
noncomputable def m_law_l6 : Ctx.T [.fz 19 Int, .fz 15 (List Int), .ow 14 (List Int), .ow 13 Sheaf, .fz 12 (List (List Int)), .fz 11 (List Int), .ow 10 (List Int), .fz 9 (List (Int × Str)), .fz 8 Int, .ow 7 (List Int), .fz 6 (List (Int × Str)), .ow 5 (List Int), .ow 4 (List Str), .fz 2 Int, .ow 1 (List Int)] → Rs (Ctx.T [.fz 15 (List Int), .ow 14 (List Int), .ow 13 Sheaf, .fz 12 (List (List Int)), .fz 11 (List Int), .ow 10 (List Int), .fz 9 (List (Int × Str)), .fz 8 Int, .ow 7 (List Int), .fz 6 (List (Int × Str)), .ow 5 (List Int), .ow 4 (List Str), .fz 2 Int, .ow 1 (List Int)] ⊕ Bool) := fun γ => Rs.bind (Rs.bind (Rs.bind (Rs.bind (Rs.ok γ.2.2.2.1) (fun a => Rs.bind (Rs.bind (Rs.ok γ.2.2.1) (fun a => Rs.bind (Rs.bind (Rs.ok γ.1) (fun a => Rs.bind (Rs.bind (Rs.ok γ.2.1) (fun a => Rs.bind (Rs.bind (Rs.ok γ.2.2.2.2.2.2.2.2.1) (fun a => Rs.bind (Rs.bind (Rs.bind (Rs.bind (Rs.ok γ.2.2.2.2.2.2.2.2.2.1) (fun x => Rs.bind (Rs.ok (0 : Int)) (fun y => getI x y))) (fun x => Rs.bind (Rs.ok (0 : Int)) (fun y => Rs.ok (decide (x = y))))) (fun a => Rs.bind (Rs.ok ()) (fun g => Rs.ok (a, g)))) (fun g => Rs.ok (a, g)))) (fun g => Rs.ok (a, g)))) (fun g => Rs.ok (a, g)))) (fun g => Rs.ok (a, g)))) (fun g => Rs.ok (a, g)))) m_law_right) (fun b => Rs.ok (!b))) (fun b => if b = true then Rs.bind (Rs.ok false) (fun z => Rs.ok (.inr z)) else Rs.ok (.inl (γ.2.1, γ.2.2.1, γ.2.2.2.1, γ.2.2.2.2.1, γ.2.2.2.2.2.1, γ.2.2.2.2.2.2.1, γ.2.2.2.2.2.2.2.1, γ.2.2.2.2.2.2.2.2.1, γ.2.2.2.2.2.2.2.2.2.1, γ.2.2.2.2.2.2.2.2.2.2.1, γ.2.2.2.2.2.2.2.2.2.2.2.1, γ.2.2.2.2.2.2.2.2.2.2.2.2.1, γ.2.2.2.2.2.2.2.2.2.2.2.2.2.1, γ.2.2.2.2.2.2.2.2.2.2.2.2.2.2.1, ())))
noncomputable def m_law_b7 : Ctx.T [.fz 15 (List Int), .ow 14 (List Int), .ow 13 Sheaf, .fz 12 (List (List Int)), .fz 11 (List Int), .ow 10 (List Int), .fz 9 (List (Int × Str)), .fz 8 Int, .ow 7 (List Int), .fz 6 (List (Int × Str)), .ow 5 (List Int), .ow 4 (List Str), .fz 2 Int, .ow 1 (List Int)] → Rs (Ctx.T [.ow 14 (List Int), .ow 13 Sheaf, .fz 12 (List (List Int)), .fz 11 (List Int), .ow 10 (List Int), .fz 9 (List (Int × Str)), .fz 8 Int, .ow 7 (List Int), .fz 6 (List (Int × Str)), .ow 5 (List Int), .ow 4 (List Str), .fz 2 Int, .ow 1 (List Int)] ⊕ Bool) := fun γ => Rs.bind (Rs.bind (Rs.bind (Rs.bind (Rs.ok γ.2.2.1) (fun a => Rs.bind (Rs.bind (Rs.ok γ.2.1) (fun a => Rs.bind (Rs.bind (Rs.bind (Rs.bind (Rs.ok γ.2.2.2.2.2.2.1) (fun x => Rs.bind (Rs.ok (0 : Int)) (fun y => getI x y))) (fun x => Rs.ok x.1)) (fun a => Rs.bind (Rs.bind (Rs.ok γ.1) (fun a => Rs.bind (Rs.bind (Rs.bind (Rs.ok (1 : Int)) (fun x => Rs.bind (Rs.bind (Rs.bind (Rs.ok γ.2.2.2.2.2.2.2.1) (fun x => Rs.ok x)) (fun x => Rs.bind (Rs.ok (6 : Int)) (fun y => if 0 < y then Rs.ok (x % y) else Rs.no))) (fun y => Rs.ok (x + y)))) (fun a => Rs.bind (Rs.bind (Rs.ok false) (fun a => Rs.bind (Rs.ok ()) (fun g => Rs.ok (a, g)))) (fun g => Rs.ok (a, g)))) (fun g => Rs.ok (a, g)))) (fun g => Rs.ok (a, g)))) (fun g => Rs.ok (a, g)))) (fun g => Rs.ok (a, g)))) m_law_right) (fun b => Rs.ok (!b))) (fun b => if b = true then Rs.bind (Rs.ok false) (fun z => Rs.ok (.inr z)) else Rs.ok (.inl (γ.2.1, γ.2.2.1, γ.2.2.2.1, γ.2.2.2.2.1, γ.2.2.2.2.2.1, γ.2.2.2.2.2.2.1, γ.2.2.2.2.2.2.2.1, γ.2.2.2.2.2.2.2.2.1, γ.2.2.2.2.2.2.2.2.2.1, γ.2.2.2.2.2.2.2.2.2.2.1, γ.2.2.2.2.2.2.2.2.2.2.2.1, γ.2.2.2.2.2.2.2.2.2.2.2.2.1, γ.2.2.2.2.2.2.2.2.2.2.2.2.2.1, ())))
noncomputable def m_law_l8 : Ctx.T [.fz 15 (List Int), .ow 14 (List Int), .ow 13 Sheaf, .fz 12 (List (List Int)), .fz 11 (List Int), .ow 10 (List Int), .fz 9 (List (Int × Str)), .fz 8 Int, .ow 7 (List Int), .fz 6 (List (Int × Str)), .ow 5 (List Int), .ow 4 (List Str), .fz 2 Int, .ow 1 (List Int)] → Rs (Ctx.T [.ow 14 (List Int), .ow 13 Sheaf, .fz 12 (List (List Int)), .fz 11 (List Int), .ow 10 (List Int), .fz 9 (List (Int × Str)), .fz 8 Int, .ow 7 (List Int), .fz 6 (List (Int × Str)), .ow 5 (List Int), .ow 4 (List Str), .fz 2 Int, .ow 1 (List Int)] ⊕ Bool) := fun γ => Rs.leftG (Rs.bind (Rs.bind (Rs.bind (Rs.bind (Rs.bind (Rs.bind (Rs.bind (Rs.ok γ.2.2.2.2.2.2.2.2.2.2.1) maxI) (fun x => Rs.bind (Rs.ok (2 : Int)) (fun y => Rs.ok (x + y)))) (fun x => Rs.bind (Rs.bind (Rs.ok γ.2.2.2.2.2.2.2.2.1) (fun x => Rs.bind (Rs.ok (2 : Int)) (fun y => getI x y))) (fun y => Rs.ok (x - y)))) (fun a => Rs.bind (Rs.bind (Rs.bind (Rs.bind (Rs.ok γ.2.2.2.2.2.2.1) (fun x => Rs.bind (Rs.ok (0 : Int)) (fun y => getI x y))) (fun x => Rs.ok x.1)) (fun a => Rs.bind (Rs.bind (Rs.bind (Rs.bind (Rs.bind (Rs.ok γ.2.2.2.2.2.2.1) (fun x => Rs.bind (Rs.ok (0 : Int)) (fun y => getI x y))) (fun x => Rs.ok x.1)) (fun x => Rs.bind (Rs.ok (1 : Int)) (fun y => Rs.ok (x - y)))) (fun a => Rs.bind (Rs.ok ([] : List Int)) (fun g => Rs.ok (a :: g)))) (fun g => Rs.ok (a :: g)))) (fun g => Rs.ok (a :: g)))) Rs.ok) Rs.ok) (fun xs => Rs.foldR (fun γ x => m_law_l6 (x, γ)) γ xs)) m_law_b7
noncomputable def m_law_e9 : Ctx.T [.fz 20 Int, .ow 7 (List Int), .ow 5 (List Int), .ow 4 (List Str)] → Rs (Int × Str) := fun γ => Rs.bind (Rs.bind (Rs.ok γ.2.2.1) (fun x => Rs.bind (Rs.ok γ.1) (fun y => getI x y))) (fun x => Rs.bind (Rs.bind (Rs.ok γ.2.2.2.1) (fun x => Rs.bind (Rs.bind (Rs.ok γ.2.1) (fun x => Rs.bind (Rs.bind (Rs.ok (3 : Int)) (fun x => Rs.bind (Rs.ok γ.1) (fun y => Rs.ok (x + y)))) (fun y => getI x y))) (fun y => getI x y))) (fun y => Rs.ok (x, y)))
noncomputable def m_law_b10 : Ctx.T [.fz 15 (Option (List Int)), .fz 18 (Option Str), .ow 17 (List (Int × Str)), .fz 12 (List (List Int)), .fz 11 (List Int), .fz 9 (List (Int × Str)), .fz 8 Int, .ow 7 (List Int), .ow 5 (List Int)] → Rs (Ctx.T [.fz 15 (Option (List Int)), .fz 18 (Option Str), .ow 17 (List (Int × Str)), .fz 12 (List (List Int)), .fz 11 (List Int), .fz 9 (List (Int × Str)), .fz 8 Int, .ow 7 (List Int), .ow 5 (List Int)] ⊕ Bool) := fun γ => Rs.ok (.inl (γ.1, γ.2.1, γ.2.2.1, γ.2.2.2.1, γ.2.2.2.2.1, γ.2.2.2.2.2.1, γ.2.2.2.2.2.2.1, γ.2.2.2.2.2.2.2.1, γ.2.2.2.2.2.2.2.2.1, ()))
noncomputable def m_law_l11 : Ctx.T [.fz 19 Int, .fz 15 (Option (List Int)), .fz 18 (Option Str), .ow 17 (List (Int × Str)), .fz 12 (List (List Int)), .fz 11 (List Int), .fz 9 (List (Int × Str)), .fz 8 Int, .ow 7 (List Int), .ow 5 (List Int)] → Rs (Ctx.T [.fz 15 (Option (List Int)), .fz 18 (Option Str), .ow 17 (List (Int × Str)), .fz 12 (List (List Int)), .fz 11 (List Int), .fz 9 (List (Int × Str)), .fz 8 Int, .ow 7 (List Int), .ow 5 (List Int)] ⊕ Bool) := fun γ => Rs.leftG (Rs.bind (Rs.bind (Rs.ok γ.2.2.1) (fun x => Rs.bind (Rs.ok ()) (fun y => Rs.ok x.isSome))) (fun b => if b = true then Rs.bind (Rs.bind (Rs.bind (Rs.bind (Rs.bind (Rs.bind (Rs.bind (Rs.ok γ.2.2.2.1) (fun x => Rs.ok x)) (fun a => Rs.bind (Rs.ok ()) (fun g => Rs.ok (a, g)))) mi_Sheaf_init) (fun a => Rs.bind (Rs.bind (Rs.ok γ.1) (fun a => Rs.bind (Rs.bind (Rs.ok γ.2.1) (fun a => Rs.bind (Rs.bind (Rs.ok γ.2.2.2.2.2.2.2.1) (fun a => Rs.bind (Rs.bind (Rs.bind (Rs.bind (Rs.ok γ.2.2.2.2.2.2.2.2.1) (fun x => Rs.bind (Rs.ok (0 : Int)) (fun y => getI x y))) (fun x => Rs.bind (Rs.ok (0 : Int)) (fun y => Rs.ok (decide (x = y))))) (fun a => Rs.bind (Rs.bind (Rs.bind (Rs.ok γ.2.2.1) theI) (fun a => Rs.bind (Rs.ok ()) (fun g => Rs.ok (a, g)))) (fun g => Rs.ok (a, g)))) (fun g => Rs.ok (a, g)))) (fun g => Rs.ok (a, g)))) (fun g => Rs.ok (a, g)))) (fun g => Rs.ok (a, g)))) m_law_refused) (fun b => Rs.ok (!b))) (fun b => if b = true then Rs.bind (Rs.ok false) (fun z => Rs.ok (.inr z)) else Rs.ok (.inl (γ.2.1, γ.2.2.1, γ.2.2.2.1, γ.2.2.2.2.1, γ.2.2.2.2.2.1, γ.2.2.2.2.2.2.1, γ.2.2.2.2.2.2.2.1, γ.2.2.2.2.2.2.2.2.1, γ.2.2.2.2.2.2.2.2.2.1, ()))) else Rs.bind (Rs.ok (γ.2.1, γ.2.2.1, γ.2.2.2.1, γ.2.2.2.2.1, γ.2.2.2.2.2.1, γ.2.2.2.2.2.2.1, γ.2.2.2.2.2.2.2.1, γ.2.2.2.2.2.2.2.2.1, γ.2.2.2.2.2.2.2.2.2.1, ())) (fun x => Rs.ok (.inl x)))) m_law_b10
noncomputable def m_law_b12 : Ctx.T [.fz 15 (Option (List Int)), .fz 18 (Option Str), .ow 17 (List (Int × Str)), .fz 12 (List (List Int)), .fz 11 (List Int), .fz 9 (List (Int × Str)), .fz 8 Int, .ow 7 (List Int), .ow 5 (List Int)] → Rs (Ctx.T [.fz 18 (Option Str), .ow 17 (List (Int × Str)), .fz 12 (List (List Int)), .fz 11 (List Int), .fz 9 (List (Int × Str)), .fz 8 Int, .ow 7 (List Int), .ow 5 (List Int)] ⊕ Bool) := fun γ => Rs.ok (.inl (γ.2.1, γ.2.2.1, γ.2.2.2.1, γ.2.2.2.2.1, γ.2.2.2.2.2.1, γ.2.2.2.2.2.2.1, γ.2.2.2.2.2.2.2.1, γ.2.2.2.2.2.2.2.2.1, ()))
noncomputable def m_law_l13 : Ctx.T [.fz 15 (Option (List Int)), .fz 18 (Option Str), .ow 17 (List (Int × Str)), .fz 12 (List (List Int)), .fz 11 (List Int), .fz 9 (List (Int × Str)), .fz 8 Int, .ow 7 (List Int), .ow 5 (List Int)] → Rs (Ctx.T [.fz 18 (Option Str), .ow 17 (List (Int × Str)), .fz 12 (List (List Int)), .fz 11 (List Int), .fz 9 (List (Int × Str)), .fz 8 Int, .ow 7 (List Int), .ow 5 (List Int)] ⊕ Bool) := fun γ => Rs.leftG (Rs.bind (Rs.bind (Rs.bind (Rs.bind (Rs.bind (Rs.bind (Rs.ok γ.2.2.2.2.2.1) (fun x => Rs.bind (Rs.ok (0 : Int)) (fun y => getI x y))) (fun x => Rs.ok x.1)) (fun a => Rs.bind (Rs.bind (Rs.bind (Rs.bind (Rs.bind (Rs.ok γ.2.2.2.2.2.2.2.2.1) maxI) (fun x => Rs.bind (Rs.ok (2 : Int)) (fun y => Rs.ok (x + y)))) (fun x => Rs.bind (Rs.bind (Rs.ok γ.2.2.2.2.2.2.2.1) (fun x => Rs.bind (Rs.ok (2 : Int)) (fun y => getI x y))) (fun y => Rs.ok (x - y)))) (fun a => Rs.bind (Rs.bind (Rs.bind (Rs.bind (Rs.bind (Rs.ok γ.2.2.2.2.2.1) (fun x => Rs.bind (Rs.ok (0 : Int)) (fun y => getI x y))) (fun x => Rs.ok x.1)) (fun x => Rs.bind (Rs.ok (1 : Int)) (fun y => Rs.ok (x - y)))) (fun a => Rs.bind (Rs.ok ([] : List Int)) (fun g => Rs.ok (a :: g)))) (fun g => Rs.ok (a :: g)))) (fun g => Rs.ok (a :: g)))) Rs.ok) Rs.ok) (fun xs => Rs.foldR (fun γ x => m_law_l11 (x, γ)) γ xs)) m_law_b12
noncomputable def m_law_b14 : Ctx.T [.fz 18 (Option Str), .ow 17 (List (Int × Str)), .fz 12 (List (List Int)), .fz 11 (List Int), .fz 9 (List (Int × Str)), .fz 8 Int, .ow 7 (List Int), .ow 5 (List Int)] → Rs Bool := fun γ => Rs.ok true
noncomputable def m_law_b15 : Ctx.T [.ow 14 (List Int), .ow 13 Sheaf, .fz 12 (List (List Int)), .fz 11 (List Int), .ow 10 (List Int), .fz 9 (List (Int × Str)), .fz 8 Int, .ow 7 (List Int), .fz 6 (List (Int × Str)), .ow 5 (List Int), .ow 4 (List Str), .fz 2 Int, .ow 1 (List Int)] → Rs Bool := fun γ => Rs.bind (Rs.bind (Rs.bind (Rs.bind (Rs.ok γ.2.1) (fun a => Rs.bind (Rs.ok ()) (fun g => Rs.ok (a, g)))) m_outcome_order) (fun a => Rs.ok (a, γ.2.1, γ.2.2.1, γ.2.2.2.1, γ.2.2.2.2.1, γ.2.2.2.2.2.1, γ.2.2.2.2.2.2.1, γ.2.2.2.2.2.2.2.1, γ.2.2.2.2.2.2.2.2.1, γ.2.2.2.2.2.2.2.2.2.1, γ.2.2.2.2.2.2.2.2.2.2.1, γ.2.2.2.2.2.2.2.2.2.2.2.1, γ.2.2.2.2.2.2.2.2.2.2.2.2.1, ()))) (fun γ => Rs.bind (Rs.bind (Rs.bind (Rs.bind (Rs.ok γ.1) (fun a => Rs.bind (Rs.bind (Rs.ok γ.2.2.2.2.1) (fun a => Rs.bind (Rs.ok ()) (fun g => Rs.ok (a, g)))) (fun g => Rs.ok (a, g)))) m_law_same_integers) (fun b => Rs.ok (!b))) (fun b => if b = true then Rs.ok false else Rs.bind (Rs.bind (Rs.bind (Rs.ok γ.1) (fun x => Rs.bind (Rs.ok (0 : Int)) (fun y => getI x y))) (fun a => Rs.bind (appI γ.1 a) (fun ys => Rs.ok (ys, γ.2.1, γ.2.2.1, γ.2.2.2.1, γ.2.2.2.2.1, γ.2.2.2.2.2.1, γ.2.2.2.2.2.2.1, γ.2.2.2.2.2.2.2.1, γ.2.2.2.2.2.2.2.2.1, γ.2.2.2.2.2.2.2.2.2.1, γ.2.2.2.2.2.2.2.2.2.2.1, γ.2.2.2.2.2.2.2.2.2.2.2.1, γ.2.2.2.2.2.2.2.2.2.2.2.2.1, ())))) (fun γ => Rs.bind (Rs.bind (Rs.ok γ.2.2.2.2.2.2.2.2.2.2.2.1) (fun a => Rs.bind (Rs.ok (0 : Int)) (fun k => Rs.bind (setI γ.1 k a) (fun ys => Rs.ok (ys, γ.2.1, γ.2.2.1, γ.2.2.2.1, γ.2.2.2.2.1, γ.2.2.2.2.2.1, γ.2.2.2.2.2.2.1, γ.2.2.2.2.2.2.2.1, γ.2.2.2.2.2.2.2.2.1, γ.2.2.2.2.2.2.2.2.2.1, γ.2.2.2.2.2.2.2.2.2.2.1, γ.2.2.2.2.2.2.2.2.2.2.2.1, γ.2.2.2.2.2.2.2.2.2.2.2.2.1, ()))))) (fun γ => Rs.bind (Rs.bind (Rs.bind (Rs.bind (Rs.bind (Rs.bind (Rs.bind (Rs.ok γ.2.1) (fun a => Rs.bind (Rs.ok ()) (fun g => Rs.ok (a, g)))) m_outcome_order) (fun a => Rs.bind (Rs.bind (Rs.ok γ.2.2.2.2.1) (fun a => Rs.bind (Rs.ok ()) (fun g => Rs.ok (a, g)))) (fun g => Rs.ok (a, g)))) m_law_same_integers) (fun b => Rs.ok (!b))) (fun b => if b = true then Rs.ok true else Rs.bind (Rs.bind (Rs.ok γ.2.1) (fun s => m_Sheaf_rows (s, ()))) (fun x => Rs.bind (Rs.ok γ.2.2.2.2.2.2.2.2.1) (fun y => Rs.ok (!decide (x = y)))))) (fun b => if b = true then Rs.ok false else Rs.bind (Rs.bind (Rs.bind (Rs.ok γ.2.2.2.2.2.2.2.2.2.2.2.2.1) (fun x => Rs.bind (Rs.ok (6 : Int)) (fun y => getI x y))) (fun x => Rs.bind (Rs.ok (0 : Int)) (fun y => Rs.ok (decide (y < x))))) (fun b => if b = true then Rs.ok true else Rs.bind (Rs.bind (Rs.bind (Rs.bind (Rs.ok γ.2.2.2.2.2.2.2.2.2.2.2.1) (fun n => Rng 0 n)) (fun xs => if xs.length ≤ 16777216 then Rs.comp (fun x => Rs.ok true) (fun x => m_law_e9 (x, (γ.2.2.2.2.2.2.2.1, γ.2.2.2.2.2.2.2.2.2.1, γ.2.2.2.2.2.2.2.2.2.2.1, ()))) xs else Rs.no)) (fun a => Rs.ok (a, γ.2.2.1, γ.2.2.2.1, γ.2.2.2.2.2.1, γ.2.2.2.2.2.2.1, γ.2.2.2.2.2.2.2.1, γ.2.2.2.2.2.2.2.2.2.1, ()))) (fun γ => Rs.bind (Rs.bind (Rs.bind (Rs.bind (Rs.ok γ.1) (fun a => Rs.bind (Rs.ok ()) (fun g => Rs.ok (a, g)))) m_law_repeated) (fun a => Rs.ok (a, γ.1, γ.2.1, γ.2.2.1, γ.2.2.2.1, γ.2.2.2.2.1, γ.2.2.2.2.2.1, γ.2.2.2.2.2.2.1, ()))) (fun γ => Rs.left (Rs.bind (Rs.bind (Rs.bind (Rs.bind (Rs.ok (none : (Option (List Int)))) (fun a => Rs.bind (Rs.bind (Rs.bind (Rs.ok γ.2.2.2.1) (fun a => Rs.ok (some a))) (fun a => Rs.bind (Rs.bind (Rs.bind (Rs.bind (Rs.ok γ.2.2.1) (fun x => Rs.bind (Rs.ok (3 : Int)) (fun y => getI x y))) (fun a => Rs.ok (some a))) (fun a => Rs.bind (Rs.ok ([] : List (Option (List Int)))) (fun g => Rs.ok (a :: g)))) (fun g => Rs.ok (a :: g)))) (fun g => Rs.ok (a :: g)))) Rs.ok) Rs.ok) (fun xs => Rs.foldR (fun γ x => m_law_l13 (x, γ)) γ xs)) m_law_b14))))))))
noncomputable def m_law_b16 : Ctx.T [.ow 14 (List Int), .ow 13 Sheaf, .fz 12 (List (List Int)), .fz 11 (List Int), .ow 10 (List Int), .fz 9 (List (Int × Str)), .fz 8 Int, .ow 7 (List Int), .fz 6 (List (Int × Str)), .ow 5 (List Int), .ow 4 (List Str), .fz 2 Int, .ow 1 (List Int)] → Rs Bool := fun γ => Rs.left (Rs.bind (Rs.bind (Rs.ok γ.2.2.1) Rs.ok) (fun xs => Rs.foldR (fun γ x => m_law_l8 (x, γ)) γ xs)) m_law_b15
noncomputable def m_law_b17 : Ctx.T [.fz 11 (List Int), .ow 10 (List Int), .fz 9 (List (Int × Str)), .fz 8 Int, .ow 7 (List Int), .fz 6 (List (Int × Str)), .ow 5 (List Int), .ow 4 (List Str), .fz 2 Int, .ow 1 (List Int), .fz 0 Script] → Rs Bool := fun γ => Rs.bind (Rs.bind (Rs.bind (Rs.bind (Rs.bind (Rs.bind (Rs.ok γ.2.2.2.2.2.2.2.2.2.2.1) (fun a => Rs.bind (Rs.bind (Rs.ok (4 : Int)) (fun a => Rs.bind (Rs.ok ()) (fun g => Rs.ok (a, g)))) (fun g => Rs.ok (a, g)))) m_law_deed_cell) (fun a => Rs.bind (Rs.bind (Rs.ok γ.1) (fun a => Rs.bind (Rs.ok ()) (fun g => Rs.ok (a, g)))) (fun g => Rs.ok (a, g)))) m_law_lists) (fun a => Rs.ok (a, γ.1, γ.2.1, γ.2.2.1, γ.2.2.2.1, γ.2.2.2.2.1, γ.2.2.2.2.2.1, γ.2.2.2.2.2.2.1, γ.2.2.2.2.2.2.2.1, γ.2.2.2.2.2.2.2.2.1, γ.2.2.2.2.2.2.2.2.2.1, ()))) (fun γ => Rs.bind (Rs.bind (Rs.bind (Rs.bind (Rs.bind (Rs.ok γ.2.2.2.2.2.2.1) (fun x => Rs.ok x)) (fun a => Rs.bind (Rs.ok ()) (fun g => Rs.ok (a, g)))) mi_Sheaf_init) (fun a => Rs.ok (a, γ.1, γ.2.1, γ.2.2.1, γ.2.2.2.1, γ.2.2.2.2.1, γ.2.2.2.2.2.1, γ.2.2.2.2.2.2.1, γ.2.2.2.2.2.2.2.1, γ.2.2.2.2.2.2.2.2.1, γ.2.2.2.2.2.2.2.2.2.1, γ.2.2.2.2.2.2.2.2.2.2.1, ()))) (fun γ => Rs.bind (Rs.bind (Rs.bind (Rs.bind (Rs.ok γ.2.2.2.1) Rs.ok) (fun xs => if xs.length ≤ 16777216 then Rs.comp (fun x => Rs.ok true) (fun x => m_law_e5 (x, (γ.2.2.2.2.2.2.2.2.1, ()))) xs else Rs.no)) (fun a => Rs.ok (a, γ.1, γ.2.1, γ.2.2.1, γ.2.2.2.1, γ.2.2.2.2.1, γ.2.2.2.2.2.1, γ.2.2.2.2.2.2.1, γ.2.2.2.2.2.2.2.1, γ.2.2.2.2.2.2.2.2.1, γ.2.2.2.2.2.2.2.2.2.1, γ.2.2.2.2.2.2.2.2.2.2.1, γ.2.2.2.2.2.2.2.2.2.2.2.1, ()))) (fun γ => m_law_b16 (γ.1, γ.2.1, γ.2.2.1, γ.2.2.2.1, γ.2.2.2.2.1, γ.2.2.2.2.2.1, γ.2.2.2.2.2.2.1, γ.2.2.2.2.2.2.2.1, γ.2.2.2.2.2.2.2.2.1, γ.2.2.2.2.2.2.2.2.2.1, γ.2.2.2.2.2.2.2.2.2.2.1, γ.2.2.2.2.2.2.2.2.2.2.2.1, γ.2.2.2.2.2.2.2.2.2.2.2.2.1, ()))))
noncomputable def m_law_b18 : Ctx.T [.fz 8 Int, .ow 7 (List Int), .fz 6 (List (Int × Str)), .ow 5 (List Int), .ow 4 (List Str), .fz 2 Int, .ow 1 (List Int), .fz 0 Script] → Rs Bool := fun γ => Rs.bind (Rs.bind (Rs.bind (Rs.bind (Rs.ok γ.2.2.2.2.2.2.2.1) (fun a => Rs.bind (Rs.bind (Rs.ok γ.2.2.1) (fun a => Rs.bind (Rs.bind (Rs.ok γ.1) (fun a => Rs.bind (Rs.ok ()) (fun g => Rs.ok (a, g)))) (fun g => Rs.ok (a, g)))) (fun g => Rs.ok (a, g)))) m_law_run) (fun a => Rs.ok (a, γ.1, γ.2.1, γ.2.2.1, γ.2.2.2.1, γ.2.2.2.2.1, γ.2.2.2.2.2.1, γ.2.2.2.2.2.2.1, γ.2.2.2.2.2.2.2.1, ()))) (fun γ => Rs.bind (Rs.bind (Rs.bind (Rs.bind (Rs.ok γ.2.2.2.2.1) (fun a => Rs.bind (Rs.ok ()) (fun g => Rs.ok (a, g)))) m_law_order) (fun a => Rs.ok (a, γ.1, γ.2.1, γ.2.2.1, γ.2.2.2.1, γ.2.2.2.2.1, γ.2.2.2.2.2.1, γ.2.2.2.2.2.2.1, γ.2.2.2.2.2.2.2.1, γ.2.2.2.2.2.2.2.2.1, ()))) (fun γ => Rs.bind (Rs.bind (Rs.bind (Rs.bind (Rs.ok γ.1) Rs.ok) (fun xs => if xs.length ≤ 16777216 then Rs.comp (fun x => Rs.ok true) (fun x => m_law_e4 (x, (γ.2.1, γ.2.2.2.2.2.2.1, ()))) xs else Rs.no)) (fun a => Rs.ok (a, γ.1, γ.2.1, γ.2.2.1, γ.2.2.2.1, γ.2.2.2.2.1, γ.2.2.2.2.2.1, γ.2.2.2.2.2.2.1, γ.2.2.2.2.2.2.2.1, γ.2.2.2.2.2.2.2.2.1, γ.2.2.2.2.2.2.2.2.2.1, ()))) (fun γ => m_law_b17 (γ.1, γ.2.1, γ.2.2.1, γ.2.2.2.1, γ.2.2.2.2.1, γ.2.2.2.2.2.1, γ.2.2.2.2.2.2.1, γ.2.2.2.2.2.2.2.1, γ.2.2.2.2.2.2.2.2.1, γ.2.2.2.2.2.2.2.2.2.1, γ.2.2.2.2.2.2.2.2.2.2.1, ()))))
noncomputable def m_law : Ctx.T [.fz 0 Script] → Rs Bool := fun γ => Rs.bind (Rs.bind (Rs.bind (Rs.bind (Rs.bind (Rs.bind (Rs.ok γ.1) (fun a => Rs.bind (Rs.bind (Rs.ok (0 : Int)) (fun a => Rs.bind (Rs.ok ()) (fun g => Rs.ok (a, g)))) (fun g => Rs.ok (a, g)))) m_law_cell) (fun a => Rs.bind (Rs.bind (Rs.bind (Rs.bind (Rs.ok (24 : Int)) (fun a => Rs.bind (Rs.bind (Rs.ok (6 : Int)) (fun a => Rs.bind (Rs.bind (Rs.ok (5 : Int)) (fun a => Rs.bind (Rs.bind (Rs.ok (13 : Int)) (fun a => Rs.bind (Rs.bind (Rs.ok (16 : Int)) (fun a => Rs.bind (Rs.bind (Rs.ok (2 : Int)) (fun a => Rs.bind (Rs.bind (Rs.ok (6 : Int)) (fun a => Rs.bind (Rs.ok ([] : List Int)) (fun g => Rs.ok (a :: g)))) (fun g => Rs.ok (a :: g)))) (fun g => Rs.ok (a :: g)))) (fun g => Rs.ok (a :: g)))) (fun g => Rs.ok (a :: g)))) (fun g => Rs.ok (a :: g)))) (fun g => Rs.ok (a :: g)))) Rs.ok) (fun a => Rs.bind (Rs.ok ()) (fun g => Rs.ok (a, g)))) (fun g => Rs.ok (a, g)))) m_law_draws) (fun a => Rs.ok (a, γ.1, ()))) (fun γ => Rs.bind (Rs.bind (Rs.bind (Rs.ok (1 : Int)) (fun x => Rs.bind (Rs.bind (Rs.ok γ.1) (fun x => Rs.bind (Rs.ok (1 : Int)) (fun y => getI x y))) (fun y => Rs.ok (x + y)))) (fun a => Rs.ok (a, γ.1, γ.2.1, ()))) (fun γ => Rs.bind (Rs.bind (Rs.bind (Rs.bind (Rs.ok γ.2.1) (fun x => Rs.bind (Rs.ok (3 : Int)) (fun y => getI x y))) (fun x => Rs.bind (Rs.ok (6 : Int)) (fun y => Rs.ok (x - y)))) (fun a => Rs.ok (a, γ.1, γ.2.1, γ.2.2.1, ()))) (fun γ => Rs.bind (Rs.bind (Rs.bind (Rs.bind (Rs.ok γ.2.2.1) (fun x => Rs.bind (Rs.ok (4 : Int)) (fun y => getI x y))) (fun x => Rs.bind (Rs.ok (0 : Int)) (fun y => Rs.ok (decide (x = y))))) (fun b => if b = true then Rs.bind (Rs.bind (Rs.bind (Rs.bind (Rs.ok (1800 : Int)) (fun x => Rs.bind (Rs.bind (Rs.ok γ.2.2.1) (fun x => Rs.bind (Rs.ok (5 : Int)) (fun y => getI x y))) (fun y => if CMul x y then Rs.ok (x * y) else Rs.no))) (fun x => Rs.bind (Rs.ok (900 : Int)) (fun y => Rs.ok (x - y)))) (fun a => Rs.ok (a, γ.2.1, γ.2.2.1, γ.2.2.2.1, ()))) (fun γ => Rs.ok (γ.1, γ.2.1, γ.2.2.1, γ.2.2.2.1, ())) else Rs.ok (γ.1, γ.2.1, γ.2.2.1, γ.2.2.2.1, ()))) (fun γ => Rs.bind (Rs.bind (Rs.bind (Rs.bind (Rs.bind (Rs.bind (Rs.ok γ.2.2.2.1) (fun a => Rs.bind (Rs.bind (Rs.ok (2 : Int)) (fun a => Rs.bind (Rs.ok ()) (fun g => Rs.ok (a, g)))) (fun g => Rs.ok (a, g)))) m_law_cell) (fun a => Rs.bind (Rs.bind (Rs.ok γ.2.1) (fun a => Rs.bind (Rs.ok ()) (fun g => Rs.ok (a, g)))) (fun g => Rs.ok (a, g)))) m_law_names) (fun a => Rs.ok (a, γ.1, γ.2.1, γ.2.2.1, γ.2.2.2.1, ()))) (fun γ => Rs.bind (Rs.bind (Rs.bind (Rs.bind (Rs.bind (Rs.bind (Rs.ok γ.2.2.2.2.1) (fun a => Rs.bind (Rs.bind (Rs.ok (1 : Int)) (fun a => Rs.bind (Rs.ok ()) (fun g => Rs.ok (a, g)))) (fun g => Rs.ok (a, g)))) m_law_cell) (fun a => Rs.bind (Rs.bind (Rs.bind (Rs.ok γ.2.2.2.1) (fun x => Rs.bind (Rs.ok (0 : Int)) (fun y => getI x y))) (fun a => Rs.bind (Rs.bind (Rs.ok γ.2.2.1) (fun a => Rs.bind (Rs.bind (Rs.bind (Rs.ok (1 : Int)) (fun x => Rs.bind (Rs.bind (Rs.ok γ.2.2.2.1) (fun x => Rs.bind (Rs.ok (2 : Int)) (fun y => getI x y))) (fun y => Rs.ok (x + y)))) (fun a => Rs.bind (Rs.bind (Rs.ok γ.2.1) (fun a => Rs.bind (Rs.ok ()) (fun g => Rs.ok (a, g)))) (fun g => Rs.ok (a, g)))) (fun g => Rs.ok (a, g)))) (fun g => Rs.ok (a, g)))) (fun g => Rs.ok (a, g)))) m_law_levels) (fun a => Rs.ok (a, γ.1, γ.2.2.1, γ.2.2.2.1, γ.2.2.2.2.1, ()))) (fun γ => Rs.bind (Rs.bind (Rs.bind (Rs.bind (Rs.ok γ.2.2.1) (fun n => Rng 0 n)) (fun xs => if xs.length ≤ 16777216 then Rs.comp (fun x => Rs.ok true) (fun x => m_law_e1 (x, (γ.1, γ.2.1, ()))) xs else Rs.no)) (fun a => Rs.ok (a, γ.1, γ.2.1, γ.2.2.1, γ.2.2.2.1, γ.2.2.2.2.1, ()))) (fun γ => Rs.bind (Rs.bind (Rs.bind (Rs.bind (Rs.bind (Rs.bind (Rs.ok γ.2.2.2.2.2.1) (fun a => Rs.bind (Rs.bind (Rs.ok (3 : Int)) (fun a => Rs.bind (Rs.ok ()) (fun g => Rs.ok (a, g)))) (fun g => Rs.ok (a, g)))) m_law_deed_cell) (fun a => Rs.bind (Rs.bind (Rs.bind (Rs.bind (Rs.bind (Rs.ok (4 : Int)) (fun a => Rs.bind (Rs.bind (Rs.ok (6 : Int)) (fun a => Rs.bind (Rs.bind (Rs.bind (Rs.ok γ.2.2.2.1) (fun x => Rs.bind (Rs.ok (5 : Int)) (fun y => Rs.ok (x + y)))) (fun a => Rs.bind (Rs.ok ([] : List Int)) (fun g => Rs.ok (a :: g)))) (fun g => Rs.ok (a :: g)))) (fun g => Rs.ok (a :: g)))) Rs.ok) (fun x => Rs.bind (Rs.bind (Rs.bind (Rs.bind (Rs.ok γ.2.2.2.1) (fun a => Rs.bind (Rs.ok ([] : List Int)) (fun g => Rs.ok (a :: g)))) Rs.ok) (fun x => Rs.bind (Rs.ok γ.2.2.2.1) (fun y => repI x y))) (fun y => catI x y))) (fun a => Rs.bind (Rs.ok ()) (fun g => Rs.ok (a, g)))) (fun g => Rs.ok (a, g)))) m_law_draws) (fun a => Rs.ok (a, γ.1, γ.2.1, γ.2.2.1, γ.2.2.2.1, γ.2.2.2.2.1, γ.2.2.2.2.2.1, ()))) (fun γ => Rs.bind (Rs.bind (Rs.ok (1 : Int)) (fun a => Rs.ok (a, γ.1, γ.2.1, γ.2.2.1, γ.2.2.2.1, γ.2.2.2.2.1, γ.2.2.2.2.2.1, γ.2.2.2.2.2.2.1, ()))) (fun γ => Rs.bind (Rs.bind (Rs.bind (Rs.bind (Rs.ok γ.2.1) (fun x => Rs.bind (Rs.ok (0 : Int)) (fun y => getI x y))) (fun x => Rs.bind (Rs.ok (2 : Int)) (fun y => Rs.ok (decide (y ≤ x))))) (fun b => if b = true then Rs.bind (Rs.bind (Rs.bind (Rs.ok (1 : Int)) (fun x => Rs.bind (Rs.bind (Rs.ok γ.2.1) (fun x => Rs.bind (Rs.ok (1 : Int)) (fun y => getI x y))) (fun y => Rs.ok (x + y)))) (fun a => Rs.ok (a, γ.2.1, γ.2.2.1, γ.2.2.2.1, γ.2.2.2.2.1, γ.2.2.2.2.2.1, γ.2.2.2.2.2.2.1, γ.2.2.2.2.2.2.2.1, ()))) (fun γ => Rs.ok (γ.1, γ.2.1, γ.2.2.1, γ.2.2.2.1, γ.2.2.2.2.1, γ.2.2.2.2.2.1, γ.2.2.2.2.2.2.1, γ.2.2.2.2.2.2.2.1, ())) else Rs.ok (γ.1, γ.2.1, γ.2.2.1, γ.2.2.2.1, γ.2.2.2.2.1, γ.2.2.2.2.2.1, γ.2.2.2.2.2.2.1, γ.2.2.2.2.2.2.2.1, ()))) (fun γ => m_law_b18 (γ.1, γ.2.1, γ.2.2.1, γ.2.2.2.1, γ.2.2.2.2.1, γ.2.2.2.2.2.1, γ.2.2.2.2.2.2.1, γ.2.2.2.2.2.2.2.1, ())))))))))))
end Wk
set_option Elab.async false
set_option linter.all false
set_option maxRecDepth 100000
set_option maxHeartbeats 4000000
namespace Wk
open PySem PySem.Spec PyProof.Rows L2 Wm
/-! ### each def keeps its mirror -/
section
variable {P : Program} {w : World} {K : PySem.W.Frag} {mg : Str → Option Value} {base : Heap}
theorem ok_law_cell (T : Txt K mg) : FnOk P w K mg base (L2N.CX P w) 2 T.a_law_cell T.d_law_cell ["script", "k"] (spF (wdOf T) (kF : Kd (wdOf T) Int) [.fz 0 Script, .fz 1 Int] m_law_cell) :=
  fn_ok T.F_law_cell sc_law_cell rfl (fun cdv A outer s H E hr =>
    b_ifT (q_cmp op_lt m_lt (e_var (Var.s (Var.z))) (e_b1 call_len_seq m_lenScript (by rfl) T.n_len bt_len (e_var (Var.z)))) (t_ret (e_t1 call_int1 m_int (by rfl) T.n_int bt_int (e_ix ix_list m_ixScript (e_var (Var.z)) (e_var (Var.s (Var.z)))))) (t_ret (e_int)))
theorem ok_law_draws (T : Txt K mg) : FnOk P w K mg base (L2N.CX P w) 2 T.a_law_draws T.d_law_draws ["cell", "sizes"] (spF (wdOf T) (kO : Kd (wdOf T) (List Int)) [.fz 0 Int, .bo 1 (List Int)] m_law_draws) :=
  fn_ok T.F_law_draws sc_law_draws rfl (fun cdv A outer s H E hr =>
    b_consT (c1 := [.ow 2 (List Int), .fz 0 Int, .bo 1 (List Int)]) (s_setO sc_law_draws.nd (e_lst (l_nil (α := Int))) (Sub.keep (Sub.keep (Sub.nil))) (by exact ⟨(show 2 < 7 by decide), trivial⟩) rfl) (b_consT (c1 := [.fz 3 Int, .ow 2 (List Int), .fz 0 Int, .bo 1 (List Int)]) (s_set sc_law_draws.nd (e_t1 call_int1 m_int (by rfl) T.n_int bt_int (e_var (Var.s (Var.z)))) (Sub.keep (Sub.keep (Sub.keep (Sub.nil)))) (by exact ⟨(show 3 < 7 by decide), trivial⟩) rfl) (b_consT (c1 := [.fz 4 Bool, .fz 3 Int, .ow 2 (List Int), .fz 0 Int, .bo 1 (List Int)]) (s_set sc_law_draws.nd (e_cmp op_ge m_ge (e_var (Var.z)) (e_op op_pow m_pow (e_int) (e_int))) (Sub.keep (Sub.keep (Sub.keep (Sub.keep (Sub.nil))))) (by exact ⟨(show 4 < 7 by decide), trivial⟩) rfl) (b_consT (c1 := [.fz 4 Bool, .fz 3 Int, .ow 2 (List Int), .fz 0 Int, .bo 1 (List Int)]) (s_for (mb := m_law_draws_l1) (passes_of rfl) rfl (by first | exact .inl rfl | exact .inr rfl) (i_rng1 (fr := .g) (by rfl) T.n_range (e_b1 call_len_seq m_lenL (by rfl) T.n_len bt_len (e_varB (Var.s (Var.s (Var.s (Var.s (Var.z)))))))) (pg_name (i := 5) sc_law_draws.nd rfl (by first | exact .inl rfl | exact .inr rfl)) (g_name (by exact ⟨(show 5 < 7 by decide), trivial⟩) rfl) (b_cons (c1 := [.fz 4 Bool, .fz 3 Int, .ow 2 (List Int), .fz 0 Int, .bo 1 (List Int)]) (s_if (PW.pt (q_and (q_val (e_var (Var.s (Var.z)))) (q_and1 (q_cmp op_gt m_gt (e_var (Var.s (Var.s (Var.z)))) (e_int))))) (b_cons (c1 := [.fz 5 Int, .fz 4 Bool, .fz 3 Int, .ow 2 (List Int), .fz 0 Int, .bo 1 (List Int)]) (s_append (Var.s (Var.s (Var.s (Var.z)))) (e_op op_mod m_mod (e_t1 call_int1 m_int (by rfl) T.n_int bt_int (e_var (Var.s (Var.s (Var.z))))) (e_ix ix_list m_ixL (e_varB (Var.s (Var.s (Var.s (Var.s (Var.s (Var.z))))))) (e_var (Var.z))))) (b_cons (c1 := [.fz 5 Int, .fz 4 Bool, .fz 3 Int, .ow 2 (List Int), .fz 0 Int, .bo 1 (List Int)]) (s_upd sc_law_draws.nd (e_op op_fdiv m_div (e_t1 call_int1 m_int (by rfl) T.n_int bt_int (e_var (Var.s (Var.s (Var.z))))) (e_ix ix_list m_ixL (e_varB (Var.s (Var.s (Var.s (Var.s (Var.s (Var.z))))))) (e_var (Var.z)))) (Var.s (Var.s (Var.z))) (by exact ⟨(show 3 < 7 by decide), trivial⟩)) (b_nil (Sub.skip (Sub.keep (Sub.keep (Sub.keep (Sub.keep (Sub.keep (Sub.nil)))))))))) (b_cons (c1 := [.fz 6 Int, .fz 5 Int, .fz 4 Bool, .fz 3 Int, .ow 2 (List Int), .fz 0 Int, .bo 1 (List Int)]) (s_set sc_law_draws.nd (e_op op_mod m_mod (e_t1 call_int1 m_int (by rfl) T.n_int bt_int (e_op op_add m_add (e_op op_add m_add (e_var (Var.s (Var.s (Var.s (Var.s (Var.z)))))) (e_op op_mul m_mul (e_int) (e_var (Var.z)))) (e_int))) (e_int)) (Sub.keep (Sub.keep (Sub.keep (Sub.keep (Sub.keep (Sub.keep (Sub.nil))))))) (by exact ⟨(show 6 < 7 by decide), trivial⟩) rfl) (b_cons (c1 := [.fz 6 Int, .fz 5 Int, .fz 4 Bool, .fz 3 Int, .ow 2 (List Int), .fz 0 Int, .bo 1 (List Int)]) (s_upd sc_law_draws.nd (e_op op_mod m_mod (e_t1 call_int1 m_int (by rfl) T.n_int bt_int (e_op op_mul m_mul (e_var (Var.z)) (e_op op_add m_add (e_var (Var.z)) (e_int)))) (e_int)) (Var.z) (by exact ⟨(show 6 < 7 by decide), trivial⟩)) (b_cons (c1 := [.fz 6 Int, .fz 5 Int, .fz 4 Bool, .fz 3 Int, .ow 2 (List Int), .fz 0 Int, .bo 1 (List Int)]) (s_upd sc_law_draws.nd (e_op op_mod m_mod (e_t1 call_int1 m_int (by rfl) T.n_int bt_int (e_op op_add m_add (e_op op_mul m_mul (e_var (Var.z)) (e_op op_add m_add (e_var (Var.z)) (e_int))) (e_op op_mul m_mul (e_int) (e_var (Var.s (Var.z)))))) (e_int)) (Var.z) (by exact ⟨(show 6 < 7 by decide), trivial⟩)) (b_cons (c1 := [.fz 6 Int, .fz 5 Int, .fz 4 Bool, .fz 3 Int, .ow 2 (List Int), .fz 0 Int, .bo 1 (List Int)]) (s_append (Var.s (Var.s (Var.s (Var.s (Var.z))))) (e_op op_mod m_mod (e_t1 call_int1 m_int (by rfl) T.n_int bt_int (e_op op_fdiv m_div (e_var (Var.z)) (e_int))) (e_ix ix_list m_ixL (e_varB (Var.s (Var.s (Var.s (Var.s (Var.s (Var.s (Var.z)))))))) (e_var (Var.s (Var.z)))))) (b_nil (Sub.skip (Sub.skip (Sub.keep (Sub.keep (Sub.keep (Sub.keep (Sub.keep (Sub.nil)))))))))))))) (b_nil (Sub.keep (Sub.keep (Sub.keep (Sub.keep (Sub.keep (Sub.nil))))))))) (t_retW (Var.s (Var.s (Var.z))))))))
theorem ok_law_names (T : Txt K mg) : FnOk P w K mg base (L2N.CX P w) 3 T.a_law_names T.d_law_names ["cell", "count"] (spF (wdOf T) (kO : Kd (wdOf T) (List Str)) [.fz 0 Int, .fz 1 Int] m_law_names) :=
  fn_ok T.F_law_names sc_law_names rfl (fun cdv A outer s H E hr =>
    b_consT (c1 := [.fz 2 Str, .fz 0 Int, .fz 1 Int]) (s_set sc_law_names.nd (e_str) (Sub.keep (Sub.keep (Sub.nil))) (by exact ⟨(show 2 < 11 by decide), trivial⟩) rfl) (b_consT (c1 := [.ow 3 (List Int), .fz 2 Str, .fz 1 Int]) (s_setO sc_law_names.nd (e_call (Γ := [.fz 0 Int, .bo 1 (List Int)]) (L2N.takes_of rfl rfl rfl rfl) (ok_law_draws T) (hr.mono (by decide)) T.g_law_draws T.F_law_draws.kp T.b_law_draws (a_cons (e_var (Var.s (Var.z))) (a_consB (e_ob (e_op op_cat m_cat (e_ob (e_lst (l_cons (e_int) (l_cons (e_int) (l_cons (e_int) (l_nil (α := Int))))))) (e_ob (e_op op_rep m_rep (e_ob (e_lst (l_cons (e_int) (l_cons (e_int) (l_cons (e_int) (l_cons (e_int) (l_nil (α := Int)))))))) (e_var (Var.s (Var.s (Var.z)))))))) (a_nil)))) (Sub.keep (Sub.skip (Sub.keep (Sub.nil)))) (by exact ⟨(show 3 < 11 by decide), trivial⟩) rfl) (b_consT (c1 := [.ow 4 (List Str), .ow 3 (List Int), .fz 2 Str, .fz 1 Int]) (s_setO sc_law_names.nd (e_lst (l_nil (α := Str))) (Sub.keep (Sub.keep (Sub.keep (Sub.nil)))) (by exact ⟨(show 4 < 11 by decide), trivial⟩) rfl) (b_consT (c1 := [.ow 4 (List Str), .ow 3 (List Int), .fz 2 Str, .fz 1 Int]) (s_for (mb := m_law_names_l1) (passes_of rfl) rfl (by first | exact .inl rfl | exact .inr rfl) (i_rng1 (fr := .g) (by rfl) T.n_range (e_var (Var.s (Var.s (Var.s (Var.z)))))) (pg_name (i := 5) sc_law_names.nd rfl (by first | exact .inl rfl | exact .inr rfl)) (g_name (by exact ⟨(show 5 < 11 by decide), trivial⟩) rfl) (b_cons (c1 := [.fz 6 Int, .fz 5 Int, .ow 4 (List Str), .ow 3 (List Int), .fz 2 Str, .fz 1 Int]) (s_set sc_law_names.nd (e_op op_mod m_mod (e_t1 call_int1 m_int (by rfl) T.n_int bt_int (e_op op_add m_add (e_ix ix_list m_ixL (e_varW (Var.s (Var.s (Var.z)))) (e_int)) (e_op op_mul m_mul (e_var (Var.z)) (e_op op_add m_add (e_int) (e_op op_fdiv m_div (e_ix ix_list m_ixL (e_varW (Var.s (Var.s (Var.z)))) (e_int)) (e_int)))))) (e_int)) (Sub.keep (Sub.keep (Sub.keep (Sub.keep (Sub.keep (Sub.nil)))))) (by exact ⟨(show 6 < 11 by decide), trivial⟩) rfl) (b_cons (c1 := [.ow 4 (List Str), .ow 3 (List Int), .fz 2 Str, .fz 1 Int]) (s_if (PW.pt (q_and (q_cmp op_eq m_eqI (e_ix ix_list m_ixL (e_varW (Var.s (Var.s (Var.s (Var.z))))) (e_int)) (e_int)) (q_and1 (q_cmp op_le m_le (e_op op_mul m_mul (e_var (Var.s (Var.s (Var.s (Var.s (Var.s (Var.z))))))) (e_op op_add m_add (e_int) (e_op op_fdiv m_div (e_ix ix_list m_ixL (e_varW (Var.s (Var.s (Var.s (Var.z))))) (e_int)) (e_int)))) (e_int))))) (b_cons (c1 := [.fz 6 Int, .fz 5 Int, .ow 4 (List Str), .ow 3 (List Int), .fz 2 Str, .fz 1 Int]) (s_append (Var.s (Var.s (Var.z))) (e_ix ix_str m_ixS (e_var (Var.s (Var.s (Var.s (Var.s (Var.z)))))) (e_var (Var.z)))) (b_nil (Sub.skip (Sub.skip (Sub.keep (Sub.keep (Sub.keep (Sub.keep (Sub.nil))))))))) (b_cons (c1 := [.fz 7 Int, .fz 5 Int, .ow 4 (List Str), .ow 3 (List Int), .fz 2 Str, .fz 1 Int]) (s_set sc_law_names.nd (e_op op_mod m_mod (e_t1 call_int1 m_int (by rfl) T.n_int bt_int (e_op op_add m_add (e_op op_add m_add (e_op op_mul m_mul (e_int) (e_ix ix_list m_ixL (e_varW (Var.s (Var.s (Var.s (Var.z))))) (e_int))) (e_ix ix_list m_ixL (e_varW (Var.s (Var.s (Var.s (Var.z))))) (e_int))) (e_op op_mul m_mul (e_int) (e_var (Var.s (Var.z)))))) (e_int)) (Sub.skip (Sub.keep (Sub.keep (Sub.keep (Sub.keep (Sub.keep (Sub.nil))))))) (by exact ⟨(show 7 < 11 by decide), trivial⟩) rfl) (b_cons (c1 := [.fz 8 Int, .fz 7 Int, .ow 4 (List Str), .ow 3 (List Int), .fz 2 Str, .fz 1 Int]) (s_set sc_law_names.nd (e_op op_mul m_mul (e_op op_mul m_mul (e_int) (e_var (Var.s (Var.z)))) (e_t1 call_int1 m_intB (by rfl) T.n_int bt_int (e_cmp op_gt m_gt (e_op op_mod m_mod (e_t1 call_int1 m_int (by rfl) T.n_int bt_int (e_ix ix_list m_ixL (e_varW (Var.s (Var.s (Var.s (Var.z))))) (e_int))) (e_int)) (e_int)))) (Sub.keep (Sub.skip (Sub.keep (Sub.keep (Sub.keep (Sub.keep (Sub.nil))))))) (by exact ⟨(show 8 < 11 by decide), trivial⟩) rfl) (b_cons (c1 := [.fz 9 Str, .fz 8 Int, .fz 7 Int, .ow 4 (List Str), .ow 3 (List Int), .fz 2 Str, .fz 1 Int]) (s_set sc_law_names.nd (e_op op_add_str m_catS (e_op op_add_str m_catS (e_ix ix_str m_ixS (e_var (Var.s (Var.s (Var.s (Var.s (Var.z)))))) (e_ix ix_list m_ixL (e_varW (Var.s (Var.s (Var.s (Var.z))))) (e_op op_add m_add (e_int) (e_var (Var.z))))) (e_ix ix_str m_ixS (e_var (Var.s (Var.s (Var.s (Var.s (Var.z)))))) (e_ix ix_list m_ixL (e_varW (Var.s (Var.s (Var.s (Var.z))))) (e_op op_add m_add (e_int) (e_var (Var.z)))))) (e_ix ix_str m_ixS (e_var (Var.s (Var.s (Var.s (Var.s (Var.z)))))) (e_ix ix_list m_ixL (e_varW (Var.s (Var.s (Var.s (Var.z))))) (e_op op_add m_add (e_int) (e_var (Var.z)))))) (Sub.keep (Sub.keep (Sub.keep (Sub.keep (Sub.keep (Sub.keep (Sub.nil))))))) (by exact ⟨(show 9 < 11 by decide), trivial⟩) rfl) (b_cons (c1 := [.fz 9 Str, .fz 8 Int, .fz 7 Int, .ow 4 (List Str), .ow 3 (List Int), .fz 2 Str, .fz 1 Int]) (s_upd sc_law_names.nd (e_slS (e_op op_add_str m_catS (e_var (Var.z)) (e_var (Var.z))) (p_none) (p_some (e_ix ix_list m_ixL (e_varW (Var.s (Var.s (Var.s (Var.s (Var.z)))))) (e_op op_add m_add (e_int) (e_var (Var.s (Var.z))))))) (Var.z) (by exact ⟨(show 9 < 11 by decide), trivial⟩)) (b_cons (c1 := [.fz 10 Str, .fz 9 Str, .ow 4 (List Str), .ow 3 (List Int), .fz 2 Str, .fz 1 Int]) (s_set sc_law_names.nd (e_op op_add_str m_catS (e_ix ix_str m_ixS (e_var (Var.s (Var.s (Var.s (Var.s (Var.s (Var.z))))))) (e_op op_fdiv m_div (e_var (Var.s (Var.s (Var.z)))) (e_int))) (e_ix ix_str m_ixS (e_var (Var.s (Var.s (Var.s (Var.s (Var.s (Var.z))))))) (e_op op_mod m_mod (e_t1 call_int1 m_int (by rfl) T.n_int bt_int (e_var (Var.s (Var.s (Var.z))))) (e_int)))) (Sub.keep (Sub.skip (Sub.skip (Sub.keep (Sub.keep (Sub.keep (Sub.keep (Sub.nil)))))))) (by exact ⟨(show 10 < 11 by decide), trivial⟩) rfl) (b_cons (c1 := [.fz 10 Str, .fz 9 Str, .ow 4 (List Str), .ow 3 (List Int), .fz 2 Str, .fz 1 Int]) (s_append (Var.s (Var.s (Var.z))) (e_ix ix_list m_ixL (e_ob (e_lst (l_cons (e_op op_add_str m_catS (e_var (Var.s (Var.z))) (e_var (Var.z))) (l_cons (e_op op_add_str m_catS (e_var (Var.z)) (e_var (Var.s (Var.z)))) (l_nil (α := Str)))))) (e_op op_mod m_mod (e_t1 call_int1 m_int (by rfl) T.n_int bt_int (e_ix ix_list m_ixL (e_varW (Var.s (Var.s (Var.s (Var.z))))) (e_int))) (e_int)))) (b_nil (Sub.skip (Sub.skip (Sub.keep (Sub.keep (Sub.keep (Sub.keep (Sub.nil))))))))))))))) (b_nil (Sub.keep (Sub.keep (Sub.keep (Sub.keep (Sub.nil))))))))) (t_retW (Var.z))))))
theorem ok_law_levels (T : Txt K mg) : FnOk P w K mg base (L2N.CX P w) 3 T.a_law_levels T.d_law_levels ["cell", "hand", "count", "spread", "base"] (spF (wdOf T) (kO : Kd (wdOf T) (List Int)) [.fz 0 Int, .fz 1 Int, .fz 2 Int, .fz 3 Int, .fz 4 Int] m_law_levels) :=
  fn_ok T.F_law_levels sc_law_levels rfl (fun cdv A outer s H E hr =>
    b_consT (c1 := [.ow 5 (List Int), .fz 1 Int, .fz 2 Int, .fz 4 Int]) (s_setO sc_law_levels.nd (e_call (Γ := [.fz 0 Int, .bo 1 (List Int)]) (L2N.takes_of rfl rfl rfl rfl) (ok_law_draws T) (hr.mono (by decide)) T.g_law_draws T.F_law_draws.kp T.b_law_draws (a_cons (e_var (Var.z)) (a_consB (e_ob (e_op op_cat m_cat (e_ob (e_op op_rep m_rep (e_ob (e_lst (l_cons (e_var (Var.s (Var.s (Var.s (Var.z))))) (l_cons (e_int) (l_nil (α := Int)))))) (e_var (Var.s (Var.s (Var.z)))))) (e_ob (e_lst (l_cons (e_int) (l_nil (α := Int))))))) (a_nil)))) (Sub.skip (Sub.keep (Sub.keep (Sub.skip (Sub.keep (Sub.nil)))))) (by exact ⟨(show 5 < 7 by decide), trivial⟩) rfl) (b_ifT (q_cmp op_eq m_eqI (e_var (Var.s (Var.z))) (e_int)) (t_ret (e_op op_rep m_rep (e_ob (e_lst (l_cons (e_var (Var.s (Var.s (Var.s (Var.z))))) (l_nil (α := Int))))) (e_var (Var.s (Var.s (Var.z)))))) (b_ifT (q_cmp op_eq m_eqI (e_var (Var.s (Var.z))) (e_int)) (t_ret (e_lc (own := [("k", 6)]) (c2 := [.fz 6 Int, .ow 5 (List Int), .fz 2 Int, .fz 4 Int]) (mt := fun _ => Rs.ok true) (me := m_law_levels_e1) rfl sc_law_levels.nd (i_rng1 (fr := .g) (by rfl) T.n_range (e_var (Var.s (Var.s (Var.z))))) (blkOk_by (N := ["cell", "hand", "count", "spread", "base", "drawn", "k"]) (sc := defScope s_law_levels) (by decide +kernel)) (Sub.keep (Sub.skip (Sub.keep (Sub.keep (Sub.nil))))) rfl (gc_name (by exact ⟨(show 6 < 7 by decide), trivial⟩) rfl) (fun _ _ _ _ _ => pg_name (i := 6) sc_law_levels.nd rfl (by first | exact .inl rfl | exact .inr rfl)) (fun _ _ _ _ _ => pts_yes) (fun _ _ _ _ _ => e_op op_add m_add (e_var (Var.s (Var.s (Var.s (Var.z))))) (e_op op_mul m_mul (e_op op_add m_add (e_int) (e_ix ix_list m_ixL (e_varW (Var.s (Var.z))) (e_op op_mul m_mul (e_int) (e_var (Var.s (Var.s (Var.z))))))) (e_ix ix_list m_ixL (e_varW (Var.s (Var.z))) (e_op op_add m_add (e_op op_mul m_mul (e_int) (e_var (Var.z))) (e_int))))))) (b_ifT (q_cmp op_eq m_eqI (e_var (Var.s (Var.z))) (e_int)) (t_ret (e_lc (own := [("k", 6)]) (c2 := [.fz 6 Int, .ow 5 (List Int), .fz 2 Int, .fz 4 Int]) (mt := fun _ => Rs.ok true) (me := m_law_levels_e2) rfl sc_law_levels.nd (i_rng1 (fr := .g) (by rfl) T.n_range (e_var (Var.s (Var.s (Var.z))))) (blkOk_by (N := ["cell", "hand", "count", "spread", "base", "drawn", "k"]) (sc := defScope s_law_levels) (by decide +kernel)) (Sub.keep (Sub.skip (Sub.keep (Sub.keep (Sub.nil))))) rfl (gc_name (by exact ⟨(show 6 < 7 by decide), trivial⟩) rfl) (fun _ _ _ _ _ => pg_name (i := 6) sc_law_levels.nd rfl (by first | exact .inl rfl | exact .inr rfl)) (fun _ _ _ _ _ => pts_yes) (fun _ _ _ _ _ => e_op op_add m_add (e_var (Var.s (Var.s (Var.s (Var.z))))) (e_op op_mod m_mod (e_t1 call_int1 m_int (by rfl) T.n_int bt_int (e_op op_add m_add (e_var (Var.z)) (e_ix ix_list m_ixL (e_varW (Var.s (Var.z))) (e_op op_mul m_mul (e_int) (e_var (Var.s (Var.s (Var.z)))))))) (e_var (Var.s (Var.s (Var.z)))))))) (t_ret (e_lc (own := [("k", 6)]) (c2 := [.fz 6 Int, .ow 5 (List Int), .fz 4 Int]) (mt := fun _ => Rs.ok true) (me := m_law_levels_e3) rfl sc_law_levels.nd (i_rng1 (fr := .g) (by rfl) T.n_range (e_var (Var.s (Var.s (Var.z))))) (blkOk_by (N := ["cell", "hand", "count", "spread", "base", "drawn", "k"]) (sc := defScope s_law_levels) (by decide +kernel)) (Sub.keep (Sub.skip (Sub.skip (Sub.keep (Sub.nil))))) rfl (gc_name (by exact ⟨(show 6 < 7 by decide), trivial⟩) rfl) (fun _ _ _ _ _ => pg_name (i := 6) sc_law_levels.nd rfl (by first | exact .inl rfl | exact .inr rfl)) (fun _ _ _ _ _ => pts_yes) (fun _ _ _ _ _ => e_op op_add m_add (e_var (Var.s (Var.s (Var.z)))) (e_ix ix_list m_ixL (e_varW (Var.s (Var.z))) (e_op op_mul m_mul (e_int) (e_var (Var.z)))))))))))
theorem ok_law_deed_cell (T : Txt K mg) : FnOk P w K mg base (L2N.CX P w) 3 T.a_law_deed_cell T.d_law_deed_cell ["script", "k"] (spF (wdOf T) (kF : Kd (wdOf T) Int) [.fz 0 Script, .fz 1 Int] m_law_deed_cell) :=
  fn_ok T.F_law_deed_cell sc_law_deed_cell rfl (fun cdv A outer s H E hr =>
    b_ifT (q_cmp op_lt m_lt (e_var (Var.s (Var.z))) (e_b1 call_len_seq m_lenScript (by rfl) T.n_len bt_len (e_var (Var.z)))) (t_ret (e_t1 call_int1 m_int (by rfl) T.n_int bt_int (e_ix ix_list m_ixScript (e_var (Var.z)) (e_var (Var.s (Var.z)))))) (t_ret (e_op op_add m_add (e_op op_mul m_mul (e_int) (e_op op_add m_add (e_var (Var.s (Var.z))) (e_int))) (e_op op_mul m_mul (e_int) (e_call (Γ := [.fz 0 Script, .fz 1 Int]) (L2N.takes_of rfl rfl rfl rfl) (ok_law_cell T) (hr.mono (by decide)) T.g_law_cell T.F_law_cell.kp T.b_law_cell (a_cons (e_var (Var.z)) (a_cons (e_int) (a_nil))))))))
theorem ok_law_moved (T : Txt K mg) : FnOk P w K mg base (L2N.CX P w) 2 T.a_law_moved T.d_law_moved ["rows", "source", "targets"] (spF (wdOf T) (kO : Kd (wdOf T) (List (Int × Str))) [.bo 0 (List (Int × Str)), .fz 1 Int, .bo 2 (List Int)] m_law_moved) :=
  fn_ok T.F_law_moved sc_law_moved rfl (fun cdv A outer s H E hr =>
    b_consT (c1 := [.ow 3 (List (Int × Str)), .bo 0 (List (Int × Str)), .fz 1 Int, .bo 2 (List Int)]) (s_setO sc_law_moved.nd (e_t1 call_list_of m_list (by rfl) T.n_list bt_list (e_varB (Var.z))) (Sub.keep (Sub.keep (Sub.keep (Sub.nil)))) (by exact ⟨(show 3 < 5 by decide), trivial⟩) rfl) (b_consT (c1 := [.ow 3 (List (Int × Str)), .bo 0 (List (Int × Str)), .fz 1 Int, .bo 2 (List Int)]) (s_for (mb := m_law_moved_l1) (passes_of rfl) rfl (by first | exact .inl rfl | exact .inr rfl) (i_list rfl (e_of (e_op op_cat m_cat (e_ob (e_lst (l_cons (e_var (Var.s (Var.s (Var.z)))) (l_nil (α := Int))))) (e_ob (e_t1 call_list_of m_list (by rfl) T.n_list bt_list (e_varB (Var.s (Var.s (Var.s (Var.z)))))))))) (pg_name (i := 4) sc_law_moved.nd rfl (by first | exact .inl rfl | exact .inr rfl)) (g_name (by exact ⟨(show 4 < 5 by decide), trivial⟩) rfl) (b_cons (c1 := [.fz 4 Int, .ow 3 (List (Int × Str)), .bo 0 (List (Int × Str)), .fz 1 Int, .bo 2 (List Int)]) (s_store (Var.s (Var.z)) (e_pair (e_op op_sub m_sub (e_fst rfl (e_ix ix_list m_ixL (e_varB (Var.s (Var.s (Var.z)))) (e_var (Var.s (Var.s (Var.s (Var.z))))))) (e_int)) (e_snd rfl (e_ix ix_list m_ixL (e_varB (Var.s (Var.s (Var.z)))) (e_var (Var.s (Var.s (Var.s (Var.z)))))))) (e_var (Var.z))) (b_nil (Sub.skip (Sub.keep (Sub.keep (Sub.keep (Sub.keep (Sub.nil))))))))) (t_retW (Var.z))))
theorem ok_law_wild_log (T : Txt K mg) : FnOk P w K mg base (L2N.CX P w) 3 T.a_law_wild_log T.d_law_wild_log ["rows", "cells", "width", "most"] (spF (wdOf T) (kO : Kd (wdOf T) (List (Int × (Tup Int)))) [.fz 0 (List (Int × Str)), .bo 1 (List Int), .fz 2 Int, .fz 3 Int] m_law_wild_log) :=
  fn_ok T.F_law_wild_log sc_law_wild_log rfl (fun cdv A outer s H E hr =>
    b_consT (c1 := [.ow 4 (List (Int × (Tup Int))), .fz 0 (List (Int × Str)), .bo 1 (List Int), .fz 2 Int, .fz 3 Int]) (s_setO sc_law_wild_log.nd (e_lst (l_nil (α := (Int × (Tup Int))))) (Sub.keep (Sub.keep (Sub.keep (Sub.keep (Sub.nil))))) (by exact ⟨(show 4 < 13 by decide), trivial⟩) rfl) (b_goT (c1 := [.ow 4 (List (Int × (Tup Int))), .fz 0 (List (Int × Str)), .bo 1 (List Int), .fz 2 Int, .fz 3 Int]) (m2 := m_law_wild_log_b10) (s_forG (mb := m_law_wild_log_l9) (passes_of rfl) rfl (by first | exact .inl rfl | exact .inr rfl) (i_bo (Var.s (Var.s (Var.z))) rfl) (pg_name (i := 5) sc_law_wild_log.nd rfl (by first | exact .inl rfl | exact .inr rfl)) (g_name (by exact ⟨(show 5 < 13 by decide), trivial⟩) rfl) (b_consG (c1 := [.ow 6 (List Int), .ow 4 (List (Int × (Tup Int))), .fz 0 (List (Int × Str)), .bo 1 (List Int), .fz 2 Int, .fz 3 Int]) (s_setO sc_law_wild_log.nd (e_call (Γ := [.fz 0 Int, .bo 1 (List Int)]) (L2N.takes_of rfl rfl rfl rfl) (ok_law_draws T) (hr.mono (by decide)) T.g_law_draws T.F_law_draws.kp T.b_law_draws (a_cons (e_var (Var.z)) (a_consB (e_ob (e_op op_cat m_cat (e_ob (e_lst (l_cons (e_int) (l_cons (e_int) (l_nil (α := Int)))))) (e_ob (e_op op_rep m_rep (e_ob (e_lst (l_cons (e_int) (l_nil (α := Int))))) (e_b1 call_len_seq m_lenL (by rfl) T.n_len bt_len (e_fb (e_var (Var.s (Var.s (Var.z)))))))))) (a_nil)))) (Sub.skip (Sub.keep (Sub.keep (Sub.keep (Sub.keep (Sub.keep (Sub.nil))))))) (by exact ⟨(show 6 < 13 by decide), trivial⟩) rfl) (b_consG (c1 := [.ow 7 (List Int), .ow 6 (List Int), .ow 4 (List (Int × (Tup Int))), .fz 0 (List (Int × Str)), .bo 1 (List Int), .fz 2 Int, .fz 3 Int]) (s_lc (own := [("k", 11)]) (c2 := [.fz 11 Int, .fz 0 (List (Int × Str))]) (mt := m_law_wild_log_t3) (me := m_law_wild_log_e4) rfl sc_law_wild_log.nd rfl rfl (sw_true rfl rfl rfl (by decide +kernel)) (i_rng1 (fr := .g) (by rfl) T.n_range (e_b1 call_len_seq m_lenL (by rfl) T.n_len bt_len (e_fb (e_var (Var.s (Var.s (Var.z))))))) (blkOk_by (N := ["rows", "cells", "width", "most", "log", "cell", "drawn", "sources", "source", "under", "picked", "k", "row"]) (sc := defScope s_law_wild_log) (by decide +kernel)) (Sub.skip (Sub.skip (Sub.keep (Sub.skip (Sub.skip (Sub.skip (Sub.nil))))))) rfl (gc_name (by exact ⟨(show 11 < 13 by decide), trivial⟩) rfl) (fun _ _ _ _ _ => pg_name (i := 11) sc_law_wild_log.nd rfl (by first | exact .inl rfl | exact .inr rfl)) (fun _ _ _ _ _ => pts_one (q_cmp op_gt m_gt (e_b1 call_len_seq m_lenL (by rfl) T.n_len bt_len (e_ob (e_lc (own := [("row", 12)]) (c2 := [.fz 12 (Int × Str), .fz 11 Int, .fz 0 (List (Int × Str))]) (mt := m_law_wild_log_t1) (me := m_law_wild_log_e2) rfl sc_law_wild_log.nd (i_listB rfl (e_fb (e_var (Var.s (Var.z))))) (blkOk_by (by rfl)) (Sub.keep (Sub.keep (Sub.nil))) rfl (gc_name (by exact ⟨(show 12 < 13 by decide), trivial⟩) rfl) (fun _ _ _ _ _ => pg_name (i := 12) sc_law_wild_log.nd rfl (by first | exact .inl rfl | exact .inr rfl)) (fun _ _ _ _ _ => pts_one (q_cmp op_lt m_lt (e_fst rfl (e_var (Var.z))) (e_fst rfl (e_ix ix_list m_ixL (e_fb (e_var (Var.s (Var.s (Var.z))))) (e_var (Var.s (Var.z))))))) (fun _ _ _ _ _ => e_var (Var.z))))) (e_int))) (fun _ _ _ _ _ => e_var (Var.z)) (Sub.keep (Sub.keep (Sub.keep (Sub.keep (Sub.keep (Sub.keep (Sub.nil))))))) (by exact ⟨(show 7 < 13 by decide), trivial⟩) rfl) (b_ifG (PW.pt (q_or (q_cmp op_eq m_eqI (e_b1 call_len_seq m_lenL (by rfl) T.n_len bt_len (e_varW (Var.z))) (e_int)) (q_or1 (q_cmp op_ge m_ge (e_b1 call_len_seq m_lenL (by rfl) T.n_len bt_len (e_varW (Var.s (Var.s (Var.z))))) (e_var (Var.s (Var.s (Var.s (Var.s (Var.s (Var.s (Var.z)))))))))))) (t_retW (Var.s (Var.s (Var.z)))) (b_consG (c1 := [.fz 8 Int, .ow 6 (List Int), .ow 4 (List (Int × (Tup Int))), .fz 0 (List (Int × Str)), .bo 1 (List Int), .fz 2 Int, .fz 3 Int]) (s_set sc_law_wild_log.nd (e_ix ix_list m_ixL (e_varW (Var.z)) (e_op op_mod m_mod (e_t1 call_int1 m_int (by rfl) T.n_int bt_int (e_ix ix_list m_ixL (e_varW (Var.s (Var.z))) (e_int))) (e_b1 call_len_seq m_lenL (by rfl) T.n_len bt_len (e_varW (Var.z))))) (Sub.skip (Sub.keep (Sub.keep (Sub.keep (Sub.keep (Sub.keep (Sub.keep (Sub.nil)))))))) (by exact ⟨(show 8 < 13 by decide), trivial⟩) rfl) (b_consG (c1 := [.ow 9 (List Int), .fz 8 Int, .ow 6 (List Int), .ow 4 (List (Int × (Tup Int))), .fz 0 (List (Int × Str)), .bo 1 (List Int), .fz 2 Int, .fz 3 Int]) (s_setO sc_law_wild_log.nd (e_lc (own := [("k", 11)]) (c2 := [.fz 11 Int, .fz 8 Int, .fz 0 (List (Int × Str))]) (mt := m_law_wild_log_t5) (me := m_law_wild_log_e6) rfl sc_law_wild_log.nd (i_rng1 (fr := .g) (by rfl) T.n_range (e_b1 call_len_seq m_lenL (by rfl) T.n_len bt_len (e_fb (e_var (Var.s (Var.s (Var.s (Var.z)))))))) (blkOk_by (N := ["rows", "cells", "width", "most", "log", "cell", "drawn", "sources", "source", "under", "picked", "k", "row"]) (sc := defScope s_law_wild_log) (by decide +kernel)) (Sub.keep (Sub.skip (Sub.skip (Sub.keep (Sub.skip (Sub.skip (Sub.skip (Sub.nil)))))))) rfl (gc_name (by exact ⟨(show 11 < 13 by decide), trivial⟩) rfl) (fun _ _ _ _ _ => pg_name (i := 11) sc_law_wild_log.nd rfl (by first | exact .inl rfl | exact .inr rfl)) (fun _ _ _ _ _ => pts_one (q_cmp op_lt m_lt (e_fst rfl (e_ix ix_list m_ixL (e_fb (e_var (Var.s (Var.s (Var.z))))) (e_var (Var.z)))) (e_fst rfl (e_ix ix_list m_ixL (e_fb (e_var (Var.s (Var.s (Var.z))))) (e_var (Var.s (Var.z))))))) (fun _ _ _ _ _ => e_var (Var.z))) (Sub.keep (Sub.keep (Sub.keep (Sub.keep (Sub.keep (Sub.keep (Sub.keep (Sub.nil)))))))) (by exact ⟨(show 9 < 13 by decide), trivial⟩) rfl) (b_consG (c1 := [.ow 10 (List Int), .ow 9 (List Int), .fz 8 Int, .ow 6 (List Int), .ow 4 (List (Int × (Tup Int))), .fz 0 (List (Int × Str)), .bo 1 (List Int), .fz 2 Int, .fz 3 Int]) (s_lc (own := [("k", 11)]) (c2 := [.fz 11 Int, .ow 9 (List Int), .ow 6 (List Int)]) (mt := m_law_wild_log_t7) (me := m_law_wild_log_e8) rfl sc_law_wild_log.nd rfl rfl (sw_true rfl rfl rfl (by decide +kernel)) (i_rng1 (fr := .g) (by rfl) T.n_range (e_b1 call_len_seq m_lenL (by rfl) T.n_len bt_len (e_varW (Var.z)))) (blkOk_by (N := ["rows", "cells", "width", "most", "log", "cell", "drawn", "sources", "source", "under", "picked", "k", "row"]) (sc := defScope s_law_wild_log) (by decide +kernel)) (Sub.keep (Sub.skip (Sub.keep (Sub.skip (Sub.skip (Sub.skip (Sub.skip (Sub.skip (Sub.nil))))))))) rfl (gc_name (by exact ⟨(show 11 < 13 by decide), trivial⟩) rfl) (fun _ _ _ _ _ => pg_name (i := 11) sc_law_wild_log.nd rfl (by first | exact .inl rfl | exact .inr rfl)) (fun _ _ _ _ _ => pts_one (q_cmp op_eq m_eqI (e_ix ix_list m_ixL (e_varW (Var.s (Var.s (Var.z)))) (e_op op_add m_add (e_int) (e_var (Var.z)))) (e_int))) (fun _ _ _ _ _ => e_ix ix_list m_ixL (e_varW (Var.s (Var.z))) (e_var (Var.z))) (Sub.keep (Sub.keep (Sub.keep (Sub.keep (Sub.keep (Sub.keep (Sub.keep (Sub.keep (Sub.nil))))))))) (by exact ⟨(show 10 < 13 by decide), trivial⟩) rfl) (b_consG (c1 := [.ow 10 (List Int), .ow 9 (List Int), .fz 8 Int, .ow 6 (List Int), .ow 4 (List (Int × (Tup Int))), .fz 0 (List (Int × Str)), .bo 1 (List Int), .fz 2 Int, .fz 3 Int]) (s_updO sc_law_wild_log.nd (e_slL (e_varW (Var.z)) (p_none) (p_some (e_op op_add m_add (e_int) (e_op op_fdiv m_div (e_op op_mul m_mul (e_ix ix_list m_ixL (e_varW (Var.s (Var.s (Var.s (Var.z))))) (e_int)) (e_op op_sub m_sub (e_var (Var.s (Var.s (Var.s (Var.s (Var.s (Var.s (Var.s (Var.z))))))))) (e_int))) (e_int))))) (Var.z) (by exact ⟨(show 10 < 13 by decide), trivial⟩)) (b_consG (c1 := [.ow 10 (List Int), .fz 8 Int, .ow 4 (List (Int × (Tup Int))), .fz 0 (List (Int × Str)), .bo 1 (List Int), .fz 2 Int, .fz 3 Int]) (s_if (q_cmp op_eq m_eqI (e_b1 call_len_seq m_lenL (by rfl) T.n_len bt_len (e_varW (Var.z))) (e_int)) (b_cons (c1 := [.ow 10 (List Int), .ow 9 (List Int), .fz 8 Int, .ow 6 (List Int), .ow 4 (List (Int × (Tup Int))), .fz 0 (List (Int × Str)), .bo 1 (List Int), .fz 2 Int, .fz 3 Int]) (s_updO sc_law_wild_log.nd (e_lst (l_cons (e_ix ix_list m_ixL (e_varW (Var.s (Var.z))) (e_op op_mod m_mod (e_t1 call_int1 m_int (by rfl) T.n_int bt_int (e_op op_fdiv m_div (e_ix ix_list m_ixL (e_varW (Var.s (Var.s (Var.s (Var.z))))) (e_int)) (e_int))) (e_b1 call_len_seq m_lenL (by rfl) T.n_len bt_len (e_varW (Var.s (Var.z)))))) (l_nil (α := Int)))) (Var.z) (by exact ⟨(show 10 < 13 by decide), trivial⟩)) (b_nil (Sub.keep (Sub.skip (Sub.keep (Sub.skip (Sub.keep (Sub.keep (Sub.keep (Sub.keep (Sub.keep (Sub.nil)))))))))))) (b_nil (Sub.keep (Sub.skip (Sub.keep (Sub.skip (Sub.keep (Sub.keep (Sub.keep (Sub.keep (Sub.keep (Sub.nil)))))))))))) (b_consG (c1 := [.ow 10 (List Int), .fz 8 Int, .ow 4 (List (Int × (Tup Int))), .fz 0 (List (Int × Str)), .bo 1 (List Int), .fz 2 Int, .fz 3 Int]) (s_append (Var.s (Var.s (Var.z))) (e_pair (e_var (Var.s (Var.z))) (e_t1 call_tuple_of m_tuple (by rfl) T.n_tuple bt_tuple (e_varW (Var.z))))) (b_consG (c1 := [.ow 10 (List Int), .fz 8 Int, .ow 4 (List (Int × (Tup Int))), .fz 0 (List (Int × Str)), .bo 1 (List Int), .fz 2 Int, .fz 3 Int]) (s_upd sc_law_wild_log.nd (e_of (e_call (Γ := [.bo 0 (List (Int × Str)), .fz 1 Int, .bo 2 (List Int)]) (L2N.takes_of rfl rfl rfl rfl) (ok_law_moved T) (hr.mono (by decide)) T.g_law_moved T.F_law_moved.kp T.b_law_moved (a_consB (e_fb (e_var (Var.s (Var.s (Var.s (Var.z)))))) (a_cons (e_var (Var.s (Var.z))) (a_consB (e_varW (Var.z)) (a_nil)))))) (Var.s (Var.s (Var.s (Var.z)))) (by exact ⟨(show 0 < 13 by decide), trivial⟩)) (b_nilG (Sub.skip (Sub.skip (Sub.keep (Sub.keep (Sub.keep (Sub.keep (Sub.keep (Sub.nil)))))))))))))))))))) (t_retW (Var.z))))
theorem ok_law_moved_v2 (T : Txt K mg) : FnOk P w K mg base (L2N.CX P w) 2 T.a_law_moved_v2 T.d_law_moved_v2 ["rows", "source", "targets"] (spF (wdOf T) (kO : Kd (wdOf T) (List (Int × Str))) [.bo 0 (List (Int × Str)), .fz 1 Int, .fz 2 (Tup Int)] m_law_moved_v2) :=
  fn_ok T.F_law_moved_v2 sc_law_moved_v2 rfl (fun cdv A outer s H E hr =>
    b_consT (c1 := [.ow 3 (List (Int × Str)), .bo 0 (List (Int × Str)), .fz 1 Int, .fz 2 (Tup Int)]) (s_setO sc_law_moved_v2.nd (e_t1 call_list_of m_list (by rfl) T.n_list bt_list (e_varB (Var.z))) (Sub.keep (Sub.keep (Sub.keep (Sub.nil)))) (by exact ⟨(show 3 < 5 by decide), trivial⟩) rfl) (b_consT (c1 := [.ow 3 (List (Int × Str)), .bo 0 (List (Int × Str)), .fz 1 Int, .fz 2 (Tup Int)]) (s_for (mb := m_law_moved_v2_l1) (passes_of rfl) rfl (by first | exact .inl rfl | exact .inr rfl) (i_list rfl (e_of (e_op op_cat m_cat (e_ob (e_lst (l_cons (e_var (Var.s (Var.s (Var.z)))) (l_nil (α := Int))))) (e_ob (e_t1 call_list_of m_listT (by rfl) T.n_list bt_list (e_var (Var.s (Var.s (Var.s (Var.z)))))))))) (pg_name (i := 4) sc_law_moved_v2.nd rfl (by first | exact .inl rfl | exact .inr rfl)) (g_name (by exact ⟨(show 4 < 5 by decide), trivial⟩) rfl) (b_cons (c1 := [.fz 4 Int, .ow 3 (List (Int × Str)), .bo 0 (List (Int × Str)), .fz 1 Int, .fz 2 (Tup Int)]) (s_store (Var.s (Var.z)) (e_pair (e_op op_sub m_sub (e_fst rfl (e_ix ix_list m_ixL (e_varB (Var.s (Var.s (Var.z)))) (e_var (Var.s (Var.s (Var.s (Var.z))))))) (e_int)) (e_snd rfl (e_ix ix_list m_ixL (e_varB (Var.s (Var.s (Var.z)))) (e_var (Var.s (Var.s (Var.s (Var.z)))))))) (e_var (Var.z))) (b_nil (Sub.skip (Sub.keep (Sub.keep (Sub.keep (Sub.keep (Sub.nil))))))))) (t_retW (Var.z))))
theorem ok_law_played (T : Txt K mg) : FnOk P w K mg base (L2N.CX P w) 3 T.a_law_played T.d_law_played ["rows", "log"] (spF (wdOf T) (kF : Kd (wdOf T) (List (Int × Str))) [.fz 0 (List (Int × Str)), .bo 1 (List (Int × (Tup Int)))] m_law_played) :=
  fn_ok T.F_law_played sc_law_played rfl (fun cdv A outer s H E hr =>
    b_consT (c1 := [.fz 0 (List (Int × Str)), .bo 1 (List (Int × (Tup Int)))]) (s_for (mb := m_law_played_l1) (passes_of rfl) rfl (by first | exact .inl rfl | exact .inr rfl) (i_bo (Var.s (Var.z)) rfl) (pg_name (i := 2) sc_law_played.nd rfl (by first | exact .inl rfl | exact .inr rfl)) (g_name (by exact ⟨(show 2 < 3 by decide), trivial⟩) rfl) (b_cons (c1 := [.fz 2 (Int × (Tup Int)), .fz 0 (List (Int × Str)), .bo 1 (List (Int × (Tup Int)))]) (s_upd sc_law_played.nd (e_of (e_call (Γ := [.bo 0 (List (Int × Str)), .fz 1 Int, .fz 2 (Tup Int)]) (L2N.takes_of rfl rfl rfl rfl) (ok_law_moved_v2 T) (hr.mono (by decide)) T.g_law_moved_v2 T.F_law_moved_v2.kp T.b_law_moved_v2 (a_consB (e_fb (e_var (Var.s (Var.z)))) (a_cons (e_fst rfl (e_var (Var.z))) (a_cons (e_snd rfl (e_var (Var.z))) (a_nil)))))) (Var.s (Var.z)) (by exact ⟨(show 0 < 3 by decide), trivial⟩)) (b_nil (Sub.skip (Sub.keep (Sub.keep (Sub.nil))))))) (t_ret (e_var (Var.z))))
theorem ok_law_finished (T : Txt K mg) : FnOk P w K mg base (L2N.CX P w) 3 T.a_law_finished T.d_law_finished ["rows", "log", "pick"] (spF (wdOf T) (kO : Kd (wdOf T) (List (Int × (Tup Int)))) [.fz 0 (List (Int × Str)), .bo 1 (List (Int × (Tup Int))), .fz 2 Int] m_law_finished) :=
  fn_ok T.F_law_finished sc_law_finished rfl (fun cdv A outer s H E hr =>
    b_consT (c1 := [.ow 3 (List (Int × (Tup Int))), .fz 0 (List (Int × Str)), .fz 2 Int]) (s_setO sc_law_finished.nd (e_t1 call_list_of m_list (by rfl) T.n_list bt_list (e_varB (Var.s (Var.z)))) (Sub.keep (Sub.skip (Sub.keep (Sub.nil)))) (by exact ⟨(show 3 < 11 by decide), trivial⟩) rfl) (b_goT (c1 := [.ow 3 (List (Int × (Tup Int))), .fz 0 (List (Int × Str)), .fz 2 Int]) (m2 := m_law_finished_b7) (s_forG (mb := m_law_finished_l6) (passes_of rfl) rfl (by first | exact .inl rfl | exact .inr rfl) (i_rng1 (fr := .g) (by rfl) T.n_range (e_int)) (pg_name (i := 4) sc_law_finished.nd rfl (by first | exact .inl rfl | exact .inr rfl)) (g_name (by exact ⟨(show 4 < 11 by decide), trivial⟩) rfl) (b_consG (c1 := [.fz 5 Int, .fz 4 Int, .ow 3 (List (Int × (Tup Int))), .fz 0 (List (Int × Str)), .fz 2 Int]) (s_set sc_law_finished.nd (e_b1 (cr_max rfl) m_max (by rfl) T.n_max bt_max (e_ob (e_lc (own := [("row", 10)]) (c2 := [.fz 10 (Int × Str)]) (mt := fun _ => Rs.ok true) (me := m_law_finished_e1) rfl sc_law_finished.nd (i_listB rfl (e_fb (e_var (Var.s (Var.s (Var.z)))))) (blkOk_by (N := ["rows", "log", "pick", "done", "k", "top", "under", "source", "target", "j", "row"]) (sc := defScope s_law_finished) (by decide +kernel)) (Sub.skip (Sub.skip (Sub.skip (Sub.skip (Sub.nil))))) rfl (gc_name (by exact ⟨(show 10 < 11 by decide), trivial⟩) rfl) (fun _ _ _ _ _ => pg_name (i := 10) sc_law_finished.nd rfl (by first | exact .inl rfl | exact .inr rfl)) (fun _ _ _ _ _ => pts_yes) (fun _ _ _ _ _ => e_fst rfl (e_var (Var.z)))))) (Sub.keep (Sub.keep (Sub.keep (Sub.keep (Sub.nil))))) (by exact ⟨(show 5 < 11 by decide), trivial⟩) rfl) (b_consG (c1 := [.ow 6 (List Int), .fz 5 Int, .fz 4 Int, .ow 3 (List (Int × (Tup Int))), .fz 0 (List (Int × Str)), .fz 2 Int]) (s_lc (own := [("j", 9)]) (c2 := [.fz 9 Int, .fz 5 Int, .fz 0 (List (Int × Str))]) (mt := m_law_finished_t2) (me := m_law_finished_e3) rfl sc_law_finished.nd rfl rfl (sw_true rfl rfl rfl (by decide +kernel)) (i_rng1 (fr := .g) (by rfl) T.n_range (e_b1 call_len_seq m_lenL (by rfl) T.n_len bt_len (e_fb (e_var (Var.s (Var.s (Var.s (Var.z)))))))) (blkOk_by (N := ["rows", "log", "pick", "done", "k", "top", "under", "source", "target", "j", "row"]) (sc := defScope s_law_finished) (by decide +kernel)) (Sub.keep (Sub.skip (Sub.skip (Sub.keep (Sub.skip (Sub.nil)))))) rfl (gc_name (by exact ⟨(show 9 < 11 by decide), trivial⟩) rfl) (fun _ _ _ _ _ => pg_name (i := 9) sc_law_finished.nd rfl (by first | exact .inl rfl | exact .inr rfl)) (fun _ _ _ _ _ => pts_one (q_cmp op_lt m_lt (e_fst rfl (e_ix ix_list m_ixL (e_fb (e_var (Var.s (Var.s (Var.z))))) (e_var (Var.z)))) (e_var (Var.s (Var.z))))) (fun _ _ _ _ _ => e_var (Var.z)) (Sub.keep (Sub.keep (Sub.keep (Sub.keep (Sub.keep (Sub.nil)))))) (by exact ⟨(show 6 < 11 by decide), trivial⟩) rfl) (b_ifG (q_cmp op_eq m_eqI (e_b1 call_len_seq m_lenL (by rfl) T.n_len bt_len (e_varW (Var.z))) (e_int)) (t_retW (Var.s (Var.s (Var.s (Var.z))))) (b_consG (c1 := [.fz 7 Int, .ow 6 (List Int), .fz 4 Int, .ow 3 (List (Int × (Tup Int))), .fz 0 (List (Int × Str)), .fz 2 Int]) (s_set sc_law_finished.nd (e_ix ix_list m_ixL (e_ob (e_lc (own := [("j", 9)]) (c2 := [.fz 9 Int, .fz 5 Int, .fz 0 (List (Int × Str))]) (mt := m_law_finished_t4) (me := m_law_finished_e5) rfl sc_law_finished.nd (i_rng1 (fr := .g) (by rfl) T.n_range (e_b1 call_len_seq m_lenL (by rfl) T.n_len bt_len (e_fb (e_var (Var.s (Var.s (Var.s (Var.s (Var.z))))))))) (blkOk_by (N := ["rows", "log", "pick", "done", "k", "top", "under", "source", "target", "j", "row"]) (sc := defScope s_law_finished) (by decide +kernel)) (Sub.skip (Sub.keep (Sub.skip (Sub.skip (Sub.keep (Sub.skip (Sub.nil))))))) rfl (gc_name (by exact ⟨(show 9 < 11 by decide), trivial⟩) rfl) (fun _ _ _ _ _ => pg_name (i := 9) sc_law_finished.nd rfl (by first | exact .inl rfl | exact .inr rfl)) (fun _ _ _ _ _ => pts_one (q_cmp op_eq m_eqI (e_fst rfl (e_ix ix_list m_ixL (e_fb (e_var (Var.s (Var.s (Var.z))))) (e_var (Var.z)))) (e_var (Var.s (Var.z))))) (fun _ _ _ _ _ => e_var (Var.z)))) (e_int)) (Sub.keep (Sub.skip (Sub.keep (Sub.keep (Sub.keep (Sub.keep (Sub.nil))))))) (by exact ⟨(show 7 < 11 by decide), trivial⟩) rfl) (b_consG (c1 := [.fz 8 Int, .fz 7 Int, .ow 3 (List (Int × (Tup Int))), .fz 0 (List (Int × Str)), .fz 2 Int]) (s_set sc_law_finished.nd (e_ix ix_list m_ixL (e_varW (Var.s (Var.z))) (e_op op_mod m_mod (e_t1 call_int1 m_int (by rfl) T.n_int bt_int (e_op op_add m_add (e_var (Var.s (Var.s (Var.s (Var.s (Var.s (Var.z))))))) (e_op op_mul m_mul (e_int) (e_var (Var.s (Var.s (Var.z))))))) (e_b1 call_len_seq m_lenL (by rfl) T.n_len bt_len (e_varW (Var.s (Var.z)))))) (Sub.keep (Sub.skip (Sub.skip (Sub.keep (Sub.keep (Sub.keep (Sub.nil))))))) (by exact ⟨(show 8 < 11 by decide), trivial⟩) rfl) (b_consG (c1 := [.fz 8 Int, .fz 7 Int, .ow 3 (List (Int × (Tup Int))), .fz 0 (List (Int × Str)), .fz 2 Int]) (s_append (Var.s (Var.s (Var.z))) (e_pair (e_var (Var.s (Var.z))) (e_tup (l_cons (e_var (Var.z)) (l_nil (α := Int)))))) (b_consG (c1 := [.fz 8 Int, .fz 7 Int, .ow 3 (List (Int × (Tup Int))), .fz 0 (List (Int × Str)), .fz 2 Int]) (s_upd sc_law_finished.nd (e_of (e_call (Γ := [.bo 0 (List (Int × Str)), .fz 1 Int, .bo 2 (List Int)]) (L2N.takes_of rfl rfl rfl rfl) (ok_law_moved T) (hr.mono (by decide)) T.g_law_moved T.F_law_moved.kp T.b_law_moved (a_consB (e_fb (e_var (Var.s (Var.s (Var.s (Var.z)))))) (a_cons (e_var (Var.s (Var.z))) (a_consB (e_ob (e_lst (l_cons (e_var (Var.z)) (l_nil (α := Int))))) (a_nil)))))) (Var.s (Var.s (Var.s (Var.z)))) (by exact ⟨(show 0 < 11 by decide), trivial⟩)) (b_nilG (Sub.skip (Sub.skip (Sub.keep (Sub.keep (Sub.keep (Sub.nil))))))))))))))) (t_retW (Var.z))))
theorem ok_law_run (T : Txt K mg) : FnOk P w K mg base (L2N.CX P w) 4 T.a_law_run T.d_law_run ["script", "rows", "width"] (spF (wdOf T) (kF : Kd (wdOf T) (List (Int × Str))) [.fz 0 Script, .fz 1 (List (Int × Str)), .fz 2 Int] m_law_run) :=
  fn_ok T.F_law_run sc_law_run rfl (fun cdv A outer s H E hr =>
    b_consT (c1 := [.ow 3 (List Int), .fz 0 Script, .fz 1 (List (Int × Str)), .fz 2 Int]) (s_setO sc_law_run.nd (e_call (Γ := [.fz 0 Int, .bo 1 (List Int)]) (L2N.takes_of rfl rfl rfl rfl) (ok_law_draws T) (hr.mono (by decide)) T.g_law_draws T.F_law_draws.kp T.b_law_draws (a_cons (e_call (Γ := [.fz 0 Script, .fz 1 Int]) (L2N.takes_of rfl rfl rfl rfl) (ok_law_deed_cell T) (hr.mono (by decide)) T.g_law_deed_cell T.F_law_deed_cell.kp T.b_law_deed_cell (a_cons (e_var (Var.z)) (a_cons (e_int) (a_nil)))) (a_consB (e_ob (e_lst (l_cons (e_int) (l_cons (e_int) (l_nil (α := Int)))))) (a_nil)))) (Sub.keep (Sub.keep (Sub.keep (Sub.nil)))) (by exact ⟨(show 3 < 7 by decide), trivial⟩) rfl) (b_consT (c1 := [.ow 4 (List Int), .ow 3 (List Int), .fz 1 (List (Int × Str)), .fz 2 Int]) (s_lc (own := [("k", 6)]) (c2 := [.fz 6 Int, .fz 0 Script]) (mt := fun _ => Rs.ok true) (me := m_law_run_e1) rfl sc_law_run.nd rfl rfl (sw_true rfl rfl rfl (by decide +kernel)) (i_rng1 (fr := .g) (by rfl) T.n_range (e_ix ix_list m_ixL (e_varW (Var.z)) (e_int))) (blkOk_by (N := ["script", "rows", "width", "drawn", "cells", "left", "k"]) (sc := defScope s_law_run) (by decide +kernel)) (Sub.skip (Sub.keep (Sub.skip (Sub.skip (Sub.nil))))) rfl (gc_name (by exact ⟨(show 6 < 7 by decide), trivial⟩) rfl) (fun _ _ _ _ _ => pg_name (i := 6) sc_law_run.nd rfl (by first | exact .inl rfl | exact .inr rfl)) (fun _ _ _ _ _ => pts_yes) (fun _ _ _ _ _ => e_call (Γ := [.fz 0 Script, .fz 1 Int]) takes_cut (ok_law_deed_cell T) (hr.mono (by decide)) T.g_law_deed_cell T.F_law_deed_cell.kp T.b_law_deed_cell (a_cons (e_var (Var.s (Var.z))) (a_cons (e_op op_add m_add (e_int) (e_var (Var.z))) (a_nil)))) (Sub.keep (Sub.skip (Sub.keep (Sub.keep (Sub.nil))))) (by exact ⟨(show 4 < 7 by decide), trivial⟩) rfl) (b_consT (c1 := [.fz 5 (List (Int × Str)), .ow 3 (List Int)]) (s_set sc_law_run.nd (e_call (Γ := [.fz 0 (List (Int × Str)), .bo 1 (List (Int × (Tup Int)))]) (L2N.takes_of rfl rfl rfl rfl) (ok_law_played T) (hr.mono (by decide)) T.g_law_played T.F_law_played.kp T.b_law_played (a_cons (e_var (Var.s (Var.s (Var.z)))) (a_consB (e_ob (e_call (Γ := [.fz 0 (List (Int × Str)), .bo 1 (List Int), .fz 2 Int, .fz 3 Int]) (L2N.takes_of rfl rfl rfl rfl) (ok_law_wild_log T) (hr.mono (by decide)) T.g_law_wild_log T.F_law_wild_log.kp T.b_law_wild_log (a_cons (e_var (Var.s (Var.s (Var.z)))) (a_consB (e_varW (Var.z)) (a_cons (e_var (Var.s (Var.s (Var.s (Var.z))))) (a_cons (e_int) (a_nil))))))) (a_nil)))) (Sub.skip (Sub.keep (Sub.skip (Sub.skip (Sub.nil))))) (by exact ⟨(show 5 < 7 by decide), trivial⟩) rfl) (t_ret (e_call (Γ := [.fz 0 (List (Int × Str)), .bo 1 (List (Int × (Tup Int)))]) (L2N.takes_of rfl rfl rfl rfl) (ok_law_played T) (hr.mono (by decide)) T.g_law_played T.F_law_played.kp T.b_law_played (a_cons (e_var (Var.z)) (a_consB (e_ob (e_call (Γ := [.fz 0 (List (Int × Str)), .bo 1 (List (Int × (Tup Int))), .fz 2 Int]) (L2N.takes_of rfl rfl rfl rfl) (ok_law_finished T) (hr.mono (by decide)) T.g_law_finished T.F_law_finished.kp T.b_law_finished (a_cons (e_var (Var.z)) (a_consB (e_ob (e_lst (l_nil (α := (Int × (Tup Int)))))) (a_cons (e_ix ix_list m_ixL (e_varW (Var.s (Var.z))) (e_int)) (a_nil)))))) (a_nil))))))))
theorem ok_law_order (T : Txt K mg) : FnOk P w K mg base (L2N.CX P w) 2 T.a_law_order T.d_law_order ["levels"] (spF (wdOf T) (kO : Kd (wdOf T) (List Int)) [.bo 0 (List Int)] m_law_order) :=
  fn_ok T.F_law_order sc_law_order rfl (fun cdv A outer s H E hr =>
    b_consT (c1 := [.ow 1 (List Int), .bo 0 (List Int)]) (s_setO sc_law_order.nd (e_lst (l_nil (α := Int))) (Sub.keep (Sub.nil)) (by exact ⟨(show 1 < 4 by decide), trivial⟩) rfl) (b_consT (c1 := [.ow 1 (List Int), .bo 0 (List Int)]) (s_for (mb := m_law_order_l2) (passes_of rfl) rfl (by first | exact .inl rfl | exact .inr rfl) (i_list rfl (e_of (e_b1 cr_sortedI m_sorted (by rfl) T.n_sorted bt_sorted (e_varB (Var.s (Var.z)))))) (pg_name (i := 2) sc_law_order.nd rfl (by first | exact .inl rfl | exact .inr rfl)) (g_name (by exact ⟨(show 2 < 4 by decide), trivial⟩) rfl) (b_cons (c1 := [.fz 2 Int, .ow 1 (List Int), .bo 0 (List Int)]) (s_for (mb := m_law_order_l1) (passes_of rfl) rfl (by first | exact .inl rfl | exact .inr rfl) (i_rng1 (fr := .g) (by rfl) T.n_range (e_b1 call_len_seq m_lenL (by rfl) T.n_len bt_len (e_varB (Var.s (Var.s (Var.z)))))) (pg_name (i := 3) sc_law_order.nd rfl (by first | exact .inl rfl | exact .inr rfl)) (g_name (by exact ⟨(show 3 < 4 by decide), trivial⟩) rfl) (b_cons (c1 := [.fz 2 Int, .ow 1 (List Int), .bo 0 (List Int)]) (s_if (PW.pt (q_and (q_cmp op_eq m_eqI (e_ix ix_list m_ixL (e_varB (Var.s (Var.s (Var.s (Var.z))))) (e_var (Var.z))) (e_var (Var.s (Var.z)))) (q_and1 (q_cmp op_notIn_seq m_niI (e_var (Var.z)) (e_varW (Var.s (Var.s (Var.z)))))))) (b_cons (c1 := [.fz 3 Int, .fz 2 Int, .ow 1 (List Int), .bo 0 (List Int)]) (s_append (Var.s (Var.s (Var.z))) (e_var (Var.z))) (b_nil (Sub.skip (Sub.keep (Sub.keep (Sub.keep (Sub.nil))))))) (b_nil (Sub.skip (Sub.keep (Sub.keep (Sub.keep (Sub.nil))))))) (b_nil (Sub.keep (Sub.keep (Sub.keep (Sub.nil))))))) (b_nil (Sub.skip (Sub.keep (Sub.keep (Sub.nil))))))) (t_retW (Var.z))))
theorem ok_law_lists (T : Txt K mg) : FnOk P w K mg base (L2N.CX P w) 3 T.a_law_lists T.d_law_lists ["cell", "shares"] (spF (wdOf T) (kO : Kd (wdOf T) (List (List Int))) [.fz 0 Int, .fz 1 (List Int)] m_law_lists) :=
  fn_ok T.F_law_lists sc_law_lists rfl (fun cdv A outer s H E hr =>
    b_consT (c1 := [.fz 2 Int, .fz 0 Int, .fz 1 (List Int)]) (s_set sc_law_lists.nd (e_b1 call_len_seq m_lenL (by rfl) T.n_len bt_len (e_fb (e_var (Var.s (Var.z))))) (Sub.keep (Sub.keep (Sub.nil))) (by exact ⟨(show 2 < 9 by decide), trivial⟩) rfl) (b_consT (c1 := [.ow 3 (List Int), .fz 2 Int, .fz 1 (List Int)]) (s_setO sc_law_lists.nd (e_call (Γ := [.fz 0 Int, .bo 1 (List Int)]) (L2N.takes_of rfl rfl rfl rfl) (ok_law_draws T) (hr.mono (by decide)) T.g_law_draws T.F_law_draws.kp T.b_law_draws (a_cons (e_var (Var.s (Var.z))) (a_consB (e_ob (e_op op_cat m_cat (e_ob (e_op op_cat m_cat (e_ob (e_lst (l_cons (e_int) (l_cons (e_var (Var.z)) (l_cons (e_var (Var.z)) (l_cons (e_int) (l_cons (e_int) (l_nil (α := Int))))))))) (e_ob (e_op op_rep m_rep (e_ob (e_lst (l_cons (e_var (Var.z)) (l_nil (α := Int))))) (e_var (Var.z)))))) (e_ob (e_op op_rep m_rep (e_ob (e_lst (l_cons (e_op op_add m_add (e_var (Var.z)) (e_int)) (l_nil (α := Int))))) (e_op op_add m_add (e_var (Var.z)) (e_int)))))) (a_nil)))) (Sub.keep (Sub.skip (Sub.keep (Sub.nil)))) (by exact ⟨(show 3 < 9 by decide), trivial⟩) rfl) (b_consT (c1 := [.ow 4 (List Int), .ow 3 (List Int), .fz 2 Int, .fz 1 (List Int)]) (s_setO sc_law_lists.nd (e_t1 call_list_of m_list (by rfl) T.n_list bt_list (e_fb (e_var (Var.s (Var.s (Var.z)))))) (Sub.keep (Sub.keep (Sub.keep (Sub.nil)))) (by exact ⟨(show 4 < 9 by decide), trivial⟩) rfl) (b_consT (c1 := [.ow 4 (List Int), .ow 3 (List Int), .fz 2 Int, .fz 1 (List Int)]) (s_if (q_cmp op_ne m_neI (e_ix ix_list m_ixL (e_varW (Var.s (Var.z))) (e_int)) (e_int)) (b_cons (c1 := [.ow 4 (List Int), .ow 3 (List Int), .fz 2 Int, .fz 1 (List Int)]) (s_store (Var.z) (e_op op_sub m_sub (e_ix ix_list m_ixL (e_varW (Var.z)) (e_ix ix_list m_ixL (e_varW (Var.s (Var.z))) (e_int))) (e_int)) (e_ix ix_list m_ixL (e_varW (Var.s (Var.z))) (e_int))) (b_nil (Sub.keep (Sub.keep (Sub.keep (Sub.keep (Sub.nil))))))) (b_nil (Sub.keep (Sub.keep (Sub.keep (Sub.keep (Sub.nil))))))) (b_consT (c1 := [.ow 4 (List Int), .ow 3 (List Int), .fz 2 Int, .fz 1 (List Int)]) (s_if (q_cmp op_ne m_neI (e_ix ix_list m_ixL (e_varW (Var.s (Var.z))) (e_int)) (e_int)) (b_cons (c1 := [.ow 4 (List Int), .ow 3 (List Int), .fz 2 Int, .fz 1 (List Int)]) (s_store (Var.z) (e_op op_add m_add (e_ix ix_list m_ixL (e_varW (Var.z)) (e_ix ix_list m_ixL (e_varW (Var.s (Var.z))) (e_int))) (e_int)) (e_ix ix_list m_ixL (e_varW (Var.s (Var.z))) (e_int))) (b_nil (Sub.keep (Sub.keep (Sub.keep (Sub.keep (Sub.nil))))))) (b_nil (Sub.keep (Sub.keep (Sub.keep (Sub.keep (Sub.nil))))))) (b_consT (c1 := [.ow 5 (List Int), .ow 4 (List Int), .ow 3 (List Int), .fz 2 Int, .fz 1 (List Int)]) (s_setO sc_law_lists.nd (e_op op_rep m_rep (e_ob (e_lst (l_cons (e_int) (l_nil (α := Int))))) (e_var (Var.s (Var.s (Var.z))))) (Sub.keep (Sub.keep (Sub.keep (Sub.keep (Sub.nil))))) (by exact ⟨(show 5 < 9 by decide), trivial⟩) rfl) (b_consT (c1 := [.ow 5 (List Int), .ow 4 (List Int), .ow 3 (List Int), .fz 2 Int, .fz 1 (List Int)]) (s_for (mb := m_law_lists_l1) (passes_of rfl) rfl (by first | exact .inl rfl | exact .inr rfl) (i_rng1 (fr := .g) (by rfl) T.n_range (e_var (Var.s (Var.s (Var.s (Var.z)))))) (pg_name (i := 6) sc_law_lists.nd rfl (by first | exact .inl rfl | exact .inr rfl)) (g_name (by exact ⟨(show 6 < 9 by decide), trivial⟩) rfl) (b_cons (c1 := [.fz 6 Int, .ow 5 (List Int), .ow 4 (List Int), .ow 3 (List Int), .fz 2 Int, .fz 1 (List Int)]) (s_store (Var.s (Var.z)) (e_op op_add m_add (e_ix ix_list m_ixL (e_varW (Var.s (Var.z))) (e_ix ix_list m_ixL (e_varW (Var.s (Var.s (Var.s (Var.z))))) (e_op op_add m_add (e_int) (e_var (Var.z))))) (e_int)) (e_ix ix_list m_ixL (e_varW (Var.s (Var.s (Var.s (Var.z))))) (e_op op_add m_add (e_int) (e_var (Var.z))))) (b_nil (Sub.skip (Sub.keep (Sub.keep (Sub.keep (Sub.keep (Sub.keep (Sub.nil)))))))))) (b_consT (c1 := [.ow 7 (List Int), .ow 5 (List Int), .ow 4 (List Int), .ow 3 (List Int), .fz 2 Int, .fz 1 (List Int)]) (s_lc (own := [("k", 6)]) (c2 := [.fz 6 Int, .ow 3 (List Int), .fz 2 Int]) (mt := fun _ => Rs.ok true) (me := m_law_lists_e2) rfl sc_law_lists.nd rfl rfl (sw_true rfl rfl rfl (by decide +kernel)) (i_rng1 (fr := .g) (by rfl) T.n_range (e_op op_add m_add (e_op op_sub m_sub (e_var (Var.s (Var.s (Var.s (Var.z))))) (e_int)) (e_ix ix_list m_ixL (e_varW (Var.s (Var.s (Var.z)))) (e_int)))) (blkOk_by (N := ["cell", "shares", "count", "drawn", "moved", "spread", "k", "free", "longer"]) (sc := defScope s_law_lists) (by decide +kernel)) (Sub.skip (Sub.skip (Sub.keep (Sub.keep (Sub.skip (Sub.nil)))))) rfl (gc_name (by exact ⟨(show 6 < 9 by decide), trivial⟩) rfl) (fun _ _ _ _ _ => pg_name (i := 6) sc_law_lists.nd rfl (by first | exact .inl rfl | exact .inr rfl)) (fun _ _ _ _ _ => pts_yes) (fun _ _ _ _ _ => e_op op_sub m_sub (e_ix ix_list m_ixL (e_varW (Var.s (Var.z))) (e_op op_add m_add (e_op op_add m_add (e_int) (e_var (Var.s (Var.s (Var.z))))) (e_var (Var.z)))) (e_int)) (Sub.keep (Sub.keep (Sub.keep (Sub.keep (Sub.keep (Sub.nil)))))) (by exact ⟨(show 7 < 9 by decide), trivial⟩) rfl) (b_consT (c1 := [.ow 8 (List Int), .ow 7 (List Int), .ow 5 (List Int), .ow 4 (List Int), .ow 3 (List Int), .fz 2 Int, .fz 1 (List Int)]) (s_setO sc_law_lists.nd (e_op op_cat m_cat (e_fb (e_var (Var.s (Var.s (Var.s (Var.s (Var.s (Var.z)))))))) (e_ob (e_lst (l_cons (e_ix ix_list m_ixL (e_varW (Var.s (Var.s (Var.s (Var.z))))) (e_int)) (l_nil (α := Int)))))) (Sub.keep (Sub.keep (Sub.keep (Sub.keep (Sub.keep (Sub.keep (Sub.nil))))))) (by exact ⟨(show 8 < 9 by decide), trivial⟩) rfl) (b_consT (c1 := [.ow 8 (List Int), .ow 7 (List Int), .ow 5 (List Int), .ow 4 (List Int), .ow 3 (List Int), .fz 2 Int, .fz 1 (List Int)]) (s_if (q_cmp op_eq m_eqI (e_ix ix_list m_ixL (e_varW (Var.s (Var.s (Var.s (Var.s (Var.z)))))) (e_int)) (e_int)) (b_cons (c1 := [.ow 8 (List Int), .ow 7 (List Int), .ow 5 (List Int), .ow 4 (List Int), .ow 3 (List Int), .fz 2 Int, .fz 1 (List Int)]) (s_updO sc_law_lists.nd (e_op op_cat m_cat (e_ob (e_lst (l_cons (e_int) (l_nil (α := Int))))) (e_fb (e_var (Var.s (Var.s (Var.s (Var.s (Var.s (Var.s (Var.z)))))))))) (Var.z) (by exact ⟨(show 8 < 9 by decide), trivial⟩)) (b_nil (Sub.keep (Sub.keep (Sub.keep (Sub.keep (Sub.keep (Sub.keep (Sub.keep (Sub.nil)))))))))) (b_nil (Sub.keep (Sub.keep (Sub.keep (Sub.keep (Sub.keep (Sub.keep (Sub.keep (Sub.nil)))))))))) (b_frzT (m := m_law_lists_b6) (Frz.keep (Frz.keep (Frz.keep (Frz.frz (Frz.keep (Frz.keep (Frz.keep (Frz.nil)))))))) (b_frzT (m := m_law_lists_b5) (Frz.keep (Frz.keep (Frz.frz (Frz.keep (Frz.keep (Frz.keep (Frz.keep (Frz.nil)))))))) (b_frzT (m := m_law_lists_b4) (Frz.keep (Frz.frz (Frz.keep (Frz.keep (Frz.keep (Frz.keep (Frz.keep (Frz.nil)))))))) (b_frzT (m := m_law_lists_b3) (Frz.frz (Frz.keep (Frz.keep (Frz.keep (Frz.keep (Frz.keep (Frz.keep (Frz.nil)))))))) (t_ret (e_lst (l_cons (e_var (Var.s (Var.s (Var.s (Var.s (Var.s (Var.s (Var.z)))))))) (l_cons (e_var (Var.s (Var.s (Var.s (Var.z))))) (l_cons (e_var (Var.s (Var.s (Var.z)))) (l_cons (e_var (Var.s (Var.z))) (l_cons (e_var (Var.z)) (l_cons (e_of (e_slL (e_fb (e_var (Var.s (Var.s (Var.s (Var.s (Var.s (Var.s (Var.z))))))))) (p_some (e_ix ix_list m_ixL (e_varW (Var.s (Var.s (Var.s (Var.s (Var.z)))))) (e_int))) (p_some (e_op op_add m_add (e_op op_sub m_sub (e_var (Var.s (Var.s (Var.s (Var.s (Var.s (Var.z))))))) (e_int)) (e_ix ix_list m_ixL (e_varW (Var.s (Var.s (Var.s (Var.s (Var.z)))))) (e_int)))))) (l_nil (α := (List Int)))))))))))))))))))))))))
theorem ok_InvalidSheaf_init (T : Txt K mg) : FnOk P w K mg base (L2N.CX P w) 1 T.a_InvalidSheaf_init T.d_InvalidSheaf_init ["self", "index"] (spE T.c_InvalidSheaf "index") :=
  ini_ok T.ox_InvalidSheaf.oex T.nf_InvalidSheaf T.F_InvalidSheaf_init sc_InvalidSheaf_init (j3 (by decide +kernel) (by decide +kernel)) (fun cdv A outer s H E =>
    pss_cons (ps_expr (pe_weinit T.bx_WornError (by rfl) T.g_WornError (pa_cons (pe_var (i := 0) rfl (by first | exact Or.inl rfl | exact Or.inr (Or.inl rfl) | exact Or.inr (Or.inr rfl))) (pa_cons (pe_joined (.cons pe_str (.cons (pe_fmt (pe_var (i := 1) rfl (by first | exact Or.inl rfl | exact Or.inr (Or.inl rfl) | exact Or.inr (Or.inr rfl)))) (.cons pe_str .nil)))) pa_nil)))) (pss_one (ps_ost (pe_var (i := 0) rfl (by first | exact Or.inl rfl | exact Or.inr (Or.inl rfl) | exact Or.inr (Or.inr rfl))) (pe_var (i := 1) rfl (by first | exact Or.inl rfl | exact Or.inr (Or.inl rfl) | exact Or.inr (Or.inr rfl))))))
theorem ok_valid_record (T : Txt K mg) : FnOk P w K mg base (L2N.CX P w) 2 T.a_valid_record T.d_valid_record ["text"] (spF (wdOf T) (kF : Kd (wdOf T) Bool) [.fz 0 Str] m_valid_record) :=
  fn_ok T.F_valid_record sc_valid_record rfl (fun cdv A outer s H E hr =>
    b_ifT (PW.pt (q_or (q_cmp op_lt m_lt (e_b1 call_len_str m_lenS (by rfl) T.n_len bt_len (e_var (Var.z))) (e_int)) (q_or1 (q_cmp op_gt m_gt (e_b1 call_len_str m_lenS (by rfl) T.n_len bt_len (e_var (Var.z))) (e_gi (by rfl) T.g_LONGEST))))) (t_ret (e_bl)) (b_goT (c1 := [.fz 0 Str]) (m2 := m_valid_record_b2) (s_forG (mb := m_valid_record_l1) (passes_of rfl) rfl (by first | exact .inl rfl | exact .inr rfl) (i_str (fr := .g) (e_var (Var.z))) (pg_name (i := 1) sc_valid_record.nd rfl (by first | exact .inl rfl | exact .inr rfl)) (g_name (by exact ⟨(show 1 < 2 by decide), trivial⟩) rfl) (b_ifG (q_cmp op_notIn_sign m_notin (e_var (Var.z)) (e_gs (by rfl) T.g_SIGNS)) (t_ret (e_bl)) (b_nilG (Sub.skip (Sub.keep (Sub.nil)))))) (t_ret (e_bl))))
theorem ok_Sheaf_init (T : Txt K mg) : FnOk P w K mg base (L2N.CX P w) 3 T.a_Sheaf_init T.d_Sheaf_init ["self", "rows"] (spI (wdOf T) "Sheaf" [.bo 1 (List (Int × Str))] mi_Sheaf_init) :=
  fn_okI (m := m_Sheaf_init) T.F_Sheaf_init sc_Sheaf_init rfl (fun y cdv A outer s H E hr =>
    b_cons (c1 := [.sf 0 (Ini "Sheaf") y, .bo 1 (List (Int × Str))]) (s_if (q_cmp op_eq m_eqI (e_b1 call_len_seq m_lenL (by rfl) T.n_len bt_len (e_varB (Var.s (Var.z)))) (e_int)) (b_ts (kr := (kF : Kd (wdOf T) Unit)) (t_raise "InvalidSheaf" (cm_InvalidSheaf T) T.ox_InvalidSheaf (ok_InvalidSheaf_init T) T.b_InvalidSheaf_init (L2N.takes_of rfl rfl rfl rfl) (hr.mono (by decide)) T.g_InvalidSheaf (e_int))) (b_nil (Sub.keep (Sub.keep (Sub.nil))))) (b_cons (c1 := [.sf 0 (Ini "Sheaf") y, .bo 1 (List (Int × Str))]) (s_for (c := [.sf 0 (Ini "Sheaf") y, .bo 1 (List (Int × Str))]) (c1 := [.fz 3 (Int × Str), .fz 2 Int, .sf 0 (Ini "Sheaf") y, .bo 1 (List (Int × Str))]) (mb := m_Sheaf_init_l1) (passes_of rfl) rfl (by first | exact .inl rfl | exact .inr rfl) (i_enumBo (Var.s (Var.z)) rfl (by rfl) T.n_enumerate) (pg_tup rfl (pgs_cons (pg_name (i := 2) sc_Sheaf_init.nd rfl (by first | exact .inl rfl | exact .inr rfl)) (pgs_cons (pg_name (i := 3) sc_Sheaf_init.nd rfl (by first | exact .inl rfl | exact .inr rfl)) pgs_nil))) (g_pair (by exact ⟨(show 2 < 4 by decide), trivial⟩) (by exact ⟨(show 3 < 4 by decide), trivial⟩) rfl rfl) (b_cons (c1 := [.sf 0 (Ini "Sheaf") y, .bo 1 (List (Int × Str))]) (s_if (q_not (q_val (e_call (Γ := [.fz 0 Str]) (L2N.takes_of rfl rfl rfl rfl) (ok_valid_record T) (hr.mono (by decide)) T.g_valid_record T.F_valid_record.kp T.b_valid_record (a_cons (e_snd rfl (e_var (Var.z))) (a_nil))))) (b_ts (kr := (kF : Kd (wdOf T) Unit)) (t_raise "InvalidSheaf" (cm_InvalidSheaf T) T.ox_InvalidSheaf (ok_InvalidSheaf_init T) T.b_InvalidSheaf_init (L2N.takes_of rfl rfl rfl rfl) (hr.mono (by decide)) T.g_InvalidSheaf (e_var (Var.s (Var.z))))) (b_nil (Sub.skip (Sub.skip (Sub.keep (Sub.keep (Sub.nil))))))) (b_nil (Sub.keep (Sub.keep (Sub.nil)))))) (b_cons (c1 := [.sf 0 Sheaf y, .bo 1 (List (Int × Str))]) (s_fld (C := "Sheaf") (put := fun _ (z : (Tup (Int × Str))) => Sheaf.mk z) (cm_Sheaf T) T.cls_Sheaf T.na_Sheaf__rows put_rows (e_t1 call_tuple_of m_tuple (by rfl) T.n_tuple bt_tuple (e_varB (Var.s (Var.z))))) (b_nil (Sub.keep (Sub.skip (Sub.nil)))))))
theorem ok_Sheaf_rows (T : Txt K mg) : FnOk P w K mg base (L2N.CX P w) 2 T.a_Sheaf_rows T.d_Sheaf_rows ["self"] (spF (wdOf T) (kO : Kd (wdOf T) (List (Int × Str))) [.bo 0 Sheaf] m_Sheaf_rows) :=
  fn_ok T.F_Sheaf_rows sc_Sheaf_rows rfl (fun cdv A outer s H E hr =>
    t_ret (e_t1 call_list_of m_listT (by rfl) T.n_list bt_list (e_fld (C := "Sheaf") (g := fun (b : Sheaf) => b.rows) (cm_Sheaf T) T.cls_Sheaf T.na_Sheaf__rows fld_rows (e_varB (Var.z)))))
theorem ok_Sheaf_shares (T : Txt K mg) : FnOk P w K mg base (L2N.CX P w) 2 T.a_Sheaf_shares T.d_Sheaf_shares ["self"] (spF (wdOf T) (kO : Kd (wdOf T) (Dct Str Int)) [.bo 0 Sheaf] m_Sheaf_shares) :=
  fn_ok T.F_Sheaf_shares sc_Sheaf_shares rfl (fun cdv A outer s H E hr =>
    b_consT (c1 := [.ow 1 (Dct Str Int), .bo 0 Sheaf]) (s_setO sc_Sheaf_shares.nd (e_dnew (κ := Str) (α := Int)) (Sub.keep (Sub.nil)) (by exact ⟨(show 1 < 3 by decide), trivial⟩) rfl) (b_consT (c1 := [.ow 1 (Dct Str Int), .bo 0 Sheaf]) (s_for (mb := m_Sheaf_shares_l1) (passes_of rfl) rfl (by first | exact .inl rfl | exact .inr rfl) (i_tup (fr := .g) (.inl rfl) rfl (e_fld (C := "Sheaf") (g := fun (b : Sheaf) => b.rows) (cm_Sheaf T) T.cls_Sheaf T.na_Sheaf__rows fld_rows (e_varB (Var.s (Var.z))))) (pg_name (i := 2) sc_Sheaf_shares.nd rfl (by first | exact .inl rfl | exact .inr rfl)) (g_name (by exact ⟨(show 2 < 3 by decide), trivial⟩) rfl) (b_cons (c1 := [.fz 2 (Int × Str), .ow 1 (Dct Str Int), .bo 0 Sheaf]) (s_dput (room2 hr) (Var.s (Var.z)) (e_op op_add m_add (e_dget2 (room2 hr) (e_dv (e_varW (Var.s (Var.z)))) (e_snd rfl (e_var (Var.z))) (e_int)) (e_int)) (e_snd rfl (e_var (Var.z)))) (b_nil (Sub.skip (Sub.keep (Sub.keep (Sub.nil))))))) (t_retW (Var.z))))
theorem ok_ascending (T : Txt K mg) : FnOk P w K mg base (L2N.CX P w) 2 T.a_ascending T.d_ascending ["items"] (spF (wdOf T) (kO : Kd (wdOf T) (List Str)) [.bo 0 (List Str)] m_ascending) :=
  fn_ok T.F_ascending sc_ascending rfl (fun cdv A outer s H E hr =>
    b_consT (c1 := [.ow 1 (List Str), .bo 0 (List Str)]) (s_setO sc_ascending.nd (e_lst (l_nil (α := Str))) (Sub.keep (Sub.nil)) (by exact ⟨(show 1 < 3 by decide), trivial⟩) rfl) (b_consT (c1 := [.ow 1 (List Str), .bo 0 (List Str)]) (s_for (mb := m_ascending_l1) (passes_of rfl) rfl (by first | exact .inl rfl | exact .inr rfl) (i_list rfl (e_of (e_b1 cr_sortedS m_sortedS (by rfl) T.n_sorted bt_sorted (e_varB (Var.s (Var.z)))))) (pg_name (i := 2) sc_ascending.nd rfl (by first | exact .inl rfl | exact .inr rfl)) (g_name (by exact ⟨(show 2 < 3 by decide), trivial⟩) rfl) (b_cons (c1 := [.ow 1 (List Str), .bo 0 (List Str)]) (s_if (PW.pt (q_or (q_not (q_tru tv_list (e_varW (Var.s (Var.z))))) (q_or1 (q_cmp op_ne m_neS (e_ix ix_list m_ixL (e_varW (Var.s (Var.z))) (e_un un_neg m_neg (e_int))) (e_var (Var.z)))))) (b_cons (c1 := [.fz 2 Str, .ow 1 (List Str), .bo 0 (List Str)]) (s_append (Var.s (Var.z)) (e_var (Var.z))) (b_nil (Sub.skip (Sub.keep (Sub.keep (Sub.nil)))))) (b_nil (Sub.skip (Sub.keep (Sub.keep (Sub.nil)))))) (b_nil (Sub.keep (Sub.keep (Sub.nil)))))) (t_retW (Var.z))))
theorem ok_Sheaf_records (T : Txt K mg) : FnOk P w K mg base (L2N.CX P w) 3 T.a_Sheaf_records T.d_Sheaf_records ["self"] (spF (wdOf T) (kO : Kd (wdOf T) (List Str)) [.bo 0 Sheaf] m_Sheaf_records) :=
  fn_ok T.F_Sheaf_records sc_Sheaf_records rfl (fun cdv A outer s H E hr =>
    t_ret (e_call (Γ := [.bo 0 (List Str)]) (L2N.takes_of rfl rfl rfl rfl) (ok_ascending T) (hr.mono (by decide)) T.g_ascending T.F_ascending.kp T.b_ascending (a_consB (e_ob (e_lc (own := [("row", 1)]) (c2 := [.fz 1 (Int × Str)]) (mt := fun _ => Rs.ok true) (me := m_Sheaf_records_e1) rfl sc_Sheaf_records.nd (i_tup (fr := .g) (.inl rfl) rfl (e_fld (C := "Sheaf") (g := fun (b : Sheaf) => b.rows) (cm_Sheaf T) T.cls_Sheaf T.na_Sheaf__rows fld_rows (e_varB (Var.z)))) (blkOk_by (N := ["self", "row"]) (sc := defScope s_Sheaf_records) (by decide +kernel)) (Sub.skip (Sub.nil)) rfl (gc_name (by exact ⟨(show 1 < 2 by decide), trivial⟩) rfl) (fun _ _ _ _ _ => pg_name (i := 1) sc_Sheaf_records.nd rfl (by first | exact .inl rfl | exact .inr rfl)) (fun _ _ _ _ _ => pts_yes) (fun _ _ _ _ _ => e_snd rfl (e_var (Var.z))))) (a_nil))))
theorem ok_RepeatedRecord_init (T : Txt K mg) : FnOk P w K mg base (L2N.CX P w) 1 T.a_RepeatedRecord_init T.d_RepeatedRecord_init ["self", "record"] (spE T.c_RepeatedRecord "record") :=
  ini_ok T.ox_RepeatedRecord.oex T.nf_RepeatedRecord T.F_RepeatedRecord_init sc_RepeatedRecord_init (j2 (by decide +kernel)) (fun cdv A outer s H E =>
    pss_cons (ps_expr (pe_weinit T.bx_WornError (by rfl) T.g_WornError (pa_cons (pe_var (i := 0) rfl (by first | exact Or.inl rfl | exact Or.inr (Or.inl rfl) | exact Or.inr (Or.inr rfl))) (pa_cons (pe_joined (.cons pe_str (.cons (pe_fmt (pe_var (i := 1) rfl (by first | exact Or.inl rfl | exact Or.inr (Or.inl rfl) | exact Or.inr (Or.inr rfl)))) .nil))) pa_nil)))) (pss_one (ps_ost (pe_var (i := 0) rfl (by first | exact Or.inl rfl | exact Or.inr (Or.inl rfl) | exact Or.inr (Or.inr rfl))) (pe_var (i := 1) rfl (by first | exact Or.inl rfl | exact Or.inr (Or.inl rfl) | exact Or.inr (Or.inr rfl))))))
theorem ok_outcome_order (T : Txt K mg) : FnOk P w K mg base (L2N.CX P w) 4 T.a_outcome_order T.d_outcome_order ["sheaf"] (spF (wdOf T) (kO : Kd (wdOf T) (List Int)) [.bo 0 Sheaf] m_outcome_order) :=
  fn_ok T.F_outcome_order sc_outcome_order rfl (fun cdv A outer s H E hr =>
    b_consT (c1 := [.ow 1 (Dct Str Int), .bo 0 Sheaf]) (s_setO sc_outcome_order.nd (e_meth0 ins_sheaf (cm_Sheaf T) T.cls_Sheaf T.me_Sheaf_shares (by decide) (L2N.takes_of rfl rfl rfl rfl) (ok_Sheaf_shares T) (hr.mono (by decide)) T.b_Sheaf_shares (e_varB (Var.z))) (Sub.keep (Sub.nil)) (by exact ⟨(show 1 < 6 by decide), trivial⟩) rfl) (b_consT (c1 := [.ow 1 (Dct Str Int), .bo 0 Sheaf]) (s_for (mb := m_outcome_order_l1) (passes_of rfl) rfl (by first | exact .inl rfl | exact .inr rfl) (i_list rfl (e_of (e_meth0 ins_sheaf (cm_Sheaf T) T.cls_Sheaf T.me_Sheaf_records (by decide) (L2N.takes_of rfl rfl rfl rfl) (ok_Sheaf_records T) (hr.mono (by decide)) T.b_Sheaf_records (e_varB (Var.s (Var.z)))))) (pg_name (i := 2) sc_outcome_order.nd rfl (by first | exact .inl rfl | exact .inr rfl)) (g_name (by exact ⟨(show 2 < 6 by decide), trivial⟩) rfl) (b_cons (c1 := [.ow 1 (Dct Str Int), .bo 0 Sheaf]) (s_if (q_cmp op_gt m_gt (e_dget (room2 hr) (e_dv (e_varW (Var.s (Var.z)))) (e_var (Var.z))) (e_int)) (b_ts (kr := (kF : Kd (wdOf T) Unit)) (t_raise "RepeatedRecord" (cm_RepeatedRecord T) T.ox_RepeatedRecord (ok_RepeatedRecord_init T) T.b_RepeatedRecord_init (L2N.takes_of rfl rfl rfl rfl) (hr.mono (by decide)) T.g_RepeatedRecord (e_var (Var.z)))) (b_nil (Sub.skip (Sub.keep (Sub.keep (Sub.nil)))))) (b_nil (Sub.keep (Sub.keep (Sub.nil)))))) (b_consT (c1 := [.ow 3 (List (Int × Str))]) (s_setO sc_outcome_order.nd (e_meth0 ins_sheaf (cm_Sheaf T) T.cls_Sheaf T.me_Sheaf_rows (by decide) (L2N.takes_of rfl rfl rfl rfl) (ok_Sheaf_rows T) (hr.mono (by decide)) T.b_Sheaf_rows (e_varB (Var.s (Var.z)))) (Sub.skip (Sub.skip (Sub.nil))) (by exact ⟨(show 3 < 6 by decide), trivial⟩) rfl) (t_ret (e_lc (own := [("pair", 4)]) (c2 := [.fz 4 (Int × Int)]) (mt := fun _ => Rs.ok true) (me := m_outcome_order_e3) rfl sc_outcome_order.nd (i_listB rfl (e_ob (e_b1 (cr_sortedD hr.units) m_sortD (by rfl) T.n_sorted bt_sorted (e_ob (e_lc (own := [("index", 5)]) (c2 := [.fz 5 Int, .ow 3 (List (Int × Str))]) (mt := fun _ => Rs.ok true) (me := m_outcome_order_e2) rfl sc_outcome_order.nd (i_rng1 (fr := .g) (by rfl) T.n_range (e_b1 call_len_seq m_lenL (by rfl) T.n_len bt_len (e_varW (Var.z)))) (blkOk_by (N := ["sheaf", "borne", "record", "rows", "pair", "index"]) (sc := defScope s_outcome_order) (by decide +kernel)) (Sub.keep (Sub.nil)) rfl (gc_name (by exact ⟨(show 5 < 6 by decide), trivial⟩) rfl) (fun _ _ _ _ _ => pg_name (i := 5) sc_outcome_order.nd rfl (by first | exact .inl rfl | exact .inr rfl)) (fun _ _ _ _ _ => pts_yes) (fun _ _ _ _ _ => e_pair (e_fst rfl (e_ix ix_list m_ixL (e_varW (Var.s (Var.z))) (e_var (Var.z)))) (e_var (Var.z)))))))) (blkOk_by (N := ["sheaf", "borne", "record", "rows", "pair", "index"]) (sc := defScope s_outcome_order) (by decide +kernel)) (Sub.skip (Sub.nil)) rfl (gc_name (by exact ⟨(show 4 < 6 by decide), trivial⟩) rfl) (fun _ _ _ _ _ => pg_name (i := 4) sc_outcome_order.nd rfl (by first | exact .inl rfl | exact .inr rfl)) (fun _ _ _ _ _ => pts_yes) (fun _ _ _ _ _ => e_snd rfl (e_var (Var.z))))))))
theorem ok_ordered_levels (T : Txt K mg) : FnOk P w K mg base (L2N.CX P w) 5 T.a_ordered_levels T.d_ordered_levels ["sheaf"] (spF (wdOf T) (kO : Kd (wdOf T) (List Int)) [.bo 0 Sheaf] m_ordered_levels) :=
  fn_ok T.F_ordered_levels sc_ordered_levels rfl (fun cdv A outer s H E hr =>
    b_consT (c1 := [.ow 1 (List (Int × Str)), .bo 0 Sheaf]) (s_setO sc_ordered_levels.nd (e_meth0 ins_sheaf (cm_Sheaf T) T.cls_Sheaf T.me_Sheaf_rows (by decide) (L2N.takes_of rfl rfl rfl rfl) (ok_Sheaf_rows T) (hr.mono (by decide)) T.b_Sheaf_rows (e_varB (Var.z))) (Sub.keep (Sub.nil)) (by exact ⟨(show 1 < 3 by decide), trivial⟩) rfl) (t_ret (e_lc (own := [("index", 2)]) (c2 := [.fz 2 Int, .ow 1 (List (Int × Str))]) (mt := fun _ => Rs.ok true) (me := m_ordered_levels_e1) rfl sc_ordered_levels.nd (i_listB rfl (e_ob (e_call (Γ := [.bo 0 Sheaf]) (L2N.takes_of rfl rfl rfl rfl) (ok_outcome_order T) (hr.mono (by decide)) T.g_outcome_order T.F_outcome_order.kp T.b_outcome_order (a_consB (e_varB (Var.s (Var.z))) (a_nil))))) (blkOk_by (N := ["sheaf", "rows", "index"]) (sc := defScope s_ordered_levels) (by decide +kernel)) (Sub.keep (Sub.skip (Sub.nil))) rfl (gc_name (by exact ⟨(show 2 < 3 by decide), trivial⟩) rfl) (fun _ _ _ _ _ => pg_name (i := 2) sc_ordered_levels.nd rfl (by first | exact .inl rfl | exact .inr rfl)) (fun _ _ _ _ _ => pts_yes) (fun _ _ _ _ _ => e_fst rfl (e_ix ix_list m_ixL (e_varW (Var.s (Var.z))) (e_var (Var.z)))))))
theorem ok_capped_power (T : Txt K mg) : FnOk P w K mg base (L2N.CX P w) 2 T.a_capped_power T.d_capped_power ["base", "exponent", "limit"] (spF (wdOf T) (kF : Kd (wdOf T) Int) [.fz 0 Int, .fz 1 Int, .fz 2 Int] m_capped_power) :=
  fn_ok T.F_capped_power sc_capped_power rfl (fun cdv A outer s H E hr =>
    b_consT (c1 := [.fz 3 Int, .fz 0 Int, .fz 1 Int, .fz 2 Int]) (s_set sc_capped_power.nd (e_int) (Sub.keep (Sub.keep (Sub.keep (Sub.nil)))) (by exact ⟨(show 3 < 5 by decide), trivial⟩) rfl) (b_consT (c1 := [.fz 4 Int, .fz 3 Int, .fz 0 Int, .fz 2 Int]) (s_set sc_capped_power.nd (e_var (Var.s (Var.s (Var.z)))) (Sub.keep (Sub.keep (Sub.skip (Sub.keep (Sub.nil))))) (by exact ⟨(show 4 < 5 by decide), trivial⟩) rfl) (b_consT (c1 := [.fz 4 Int, .fz 3 Int, .fz 0 Int, .fz 2 Int]) (s_while (mt := m_capped_power_w1) (mb := m_capped_power_l2) (passes_of rfl) (PW.pt (q_and (q_cmp op_gt m_gt (e_var (Var.z)) (e_int)) (q_and1 (q_cmp op_lt m_lt (e_var (Var.s (Var.z))) (e_var (Var.s (Var.s (Var.s (Var.z))))))))) (b_cons (c1 := [.fz 4 Int, .fz 3 Int, .fz 0 Int, .fz 2 Int]) (s_upd sc_capped_power.nd (e_op op_mul m_mul (e_var (Var.s (Var.z))) (e_var (Var.s (Var.s (Var.z))))) (Var.s (Var.z)) (by exact ⟨(show 3 < 5 by decide), trivial⟩)) (b_cons (c1 := [.fz 4 Int, .fz 3 Int, .fz 0 Int, .fz 2 Int]) (s_upd sc_capped_power.nd (e_op op_sub m_sub (e_var (Var.z)) (e_int)) (Var.z) (by exact ⟨(show 4 < 5 by decide), trivial⟩)) (b_nil (Sub.keep (Sub.keep (Sub.keep (Sub.keep (Sub.nil))))))))) (t_ret (e_b1 (cr_min rfl) m_min (by rfl) T.n_min bt_min (e_ob (e_lst (l_cons (e_var (Var.s (Var.z))) (l_cons (e_var (Var.s (Var.s (Var.s (Var.z))))) (l_nil (α := Int)))))))))))
theorem ok_capped_caps (T : Txt K mg) : FnOk P w K mg base (L2N.CX P w) 3 T.a_capped_caps T.d_capped_caps ["levels", "end", "breadth"] (spF (wdOf T) (kO : Kd (wdOf T) (List Int)) [.bo 0 (List Int), .fz 1 Int, .fz 2 Int] m_capped_caps) :=
  fn_ok T.F_capped_caps sc_capped_caps rfl (fun cdv A outer s H E hr =>
    t_ret (e_lc (own := [("level", 3)]) (c2 := [.fz 3 Int, .bo 0 (List Int), .fz 1 Int, .fz 2 Int]) (mt := fun _ => Rs.ok true) (me := m_capped_caps_e1) rfl sc_capped_caps.nd (i_bo (Var.z) rfl) (blkOk_by (N := ["levels", "end", "breadth", "level"]) (sc := defScope s_capped_caps) (by decide +kernel)) (Sub.keep (Sub.keep (Sub.keep (Sub.nil)))) rfl (gc_name (by exact ⟨(show 3 < 4 by decide), trivial⟩) rfl) (fun _ _ _ _ _ => pg_name (i := 3) sc_capped_caps.nd rfl (by first | exact .inl rfl | exact .inr rfl)) (fun _ _ _ _ _ => pts_yes) (fun _ _ _ _ _ => e_if (q_cmp op_ge m_ge (e_var (Var.z)) (e_var (Var.s (Var.s (Var.z))))) (e_call (Γ := [.fz 0 Int, .fz 1 Int, .fz 2 Int]) takes_cut (ok_capped_power T) (hr.mono (by decide)) T.g_capped_power T.F_capped_power.kp T.b_capped_power (a_cons (e_op op_add m_add (e_var (Var.s (Var.s (Var.s (Var.z))))) (e_int)) (a_cons (e_op op_sub m_sub (e_var (Var.z)) (e_var (Var.s (Var.s (Var.z))))) (a_cons (e_b1 call_len_seq m_lenL (by rfl) T.n_len bt_len (e_varB (Var.s (Var.z)))) (a_nil))))) (e_int))))
theorem ok_is_outcome (T : Txt K mg) : FnOk P w K mg base (L2N.CX P w) 6 T.a_is_outcome T.d_is_outcome ["sheaf", "end", "numbers", "breadth"] (spF (wdOf T) (kF : Kd (wdOf T) Bool) [.bo 0 Sheaf, .fz 1 Int, .bo 2 (List Int), .fz 3 Int] m_is_outcome) :=
  fn_ok T.F_is_outcome sc_is_outcome rfl (fun cdv A outer s H E hr =>
    b_consT (c1 := [.ow 4 (List Int), .fz 1 Int, .bo 2 (List Int), .fz 3 Int]) (s_setO sc_is_outcome.nd (e_call (Γ := [.bo 0 Sheaf]) (L2N.takes_of rfl rfl rfl rfl) (ok_ordered_levels T) (hr.mono (by decide)) T.g_ordered_levels T.F_ordered_levels.kp T.b_ordered_levels (a_consB (e_varB (Var.z)) (a_nil))) (Sub.skip (Sub.keep (Sub.keep (Sub.keep (Sub.nil))))) (by exact ⟨(show 4 < 10 by decide), trivial⟩) rfl) (b_consT (c1 := [.fz 5 Int, .ow 4 (List Int), .fz 1 Int, .bo 2 (List Int), .fz 3 Int]) (s_set sc_is_outcome.nd (e_b1 call_len_seq m_lenL (by rfl) T.n_len bt_len (e_varW (Var.z))) (Sub.keep (Sub.keep (Sub.keep (Sub.keep (Sub.nil))))) (by exact ⟨(show 5 < 10 by decide), trivial⟩) rfl) (b_ifT (PW.pt (q_or (q_cmp op_ne m_neI (e_b1 call_len_seq m_lenL (by rfl) T.n_len bt_len (e_varB (Var.s (Var.s (Var.s (Var.z)))))) (e_var (Var.z))) (q_or (q_cmp op_lt m_lt (e_b1 (cr_min rfl) m_min (by rfl) T.n_min bt_min (e_varB (Var.s (Var.s (Var.s (Var.z)))))) (e_int)) (q_or1 (q_cmp op_ne m_neI (e_b1 (cr_sum rfl) m_sum (by rfl) T.n_sum bt_sum (e_varB (Var.s (Var.s (Var.s (Var.z)))))) (e_var (Var.z))))))) (t_ret (e_bl)) (b_consT (c1 := [.ow 6 (List Int), .fz 5 Int, .ow 4 (List Int), .fz 1 Int, .bo 2 (List Int)]) (s_setO sc_is_outcome.nd (e_call (Γ := [.bo 0 (List Int), .fz 1 Int, .fz 2 Int]) (L2N.takes_of rfl rfl rfl rfl) (ok_capped_caps T) (hr.mono (by decide)) T.g_capped_caps T.F_capped_caps.kp T.b_capped_caps (a_consB (e_varW (Var.s (Var.z))) (a_cons (e_var (Var.s (Var.s (Var.z)))) (a_cons (e_var (Var.s (Var.s (Var.s (Var.s (Var.z)))))) (a_nil))))) (Sub.keep (Sub.keep (Sub.keep (Sub.keep (Sub.skip (Sub.nil)))))) (by exact ⟨(show 6 < 10 by decide), trivial⟩) rfl) (b_ifT (q_val (e_b1 (cr_any rfl) m_any (by rfl) T.n_any bt_any (e_ob (e_lc (own := [("place", 9)]) (c2 := [.fz 9 Int, .ow 6 (List Int), .bo 2 (List Int)]) (mt := fun _ => Rs.ok true) (me := m_is_outcome_e1) rfl sc_is_outcome.nd (i_rng1 (fr := .g) (by rfl) T.n_range (e_var (Var.s (Var.z)))) (blkOk_by (N := ["sheaf", "end", "numbers", "breadth", "levels", "count", "caps", "height", "zeros", "place"]) (sc := defScope s_is_outcome) (by decide +kernel)) (Sub.keep (Sub.skip (Sub.skip (Sub.skip (Sub.keep (Sub.nil)))))) rfl (gc_name (by exact ⟨(show 9 < 10 by decide), trivial⟩) rfl) (fun _ _ _ _ _ => pg_name (i := 9) sc_is_outcome.nd rfl (by first | exact .inl rfl | exact .inr rfl)) (fun _ _ _ _ _ => pts_yes) (fun _ _ _ _ _ => e_cmp op_gt m_gt (e_ix ix_list m_ixL (e_varB (Var.s (Var.s (Var.z)))) (e_var (Var.z))) (e_ix ix_list m_ixL (e_varW (Var.s (Var.z))) (e_var (Var.z)))))))) (t_ret (e_bl)) (b_subT (m := m_is_outcome_b6) (Sub.skip (Sub.keep (Sub.keep (Sub.keep (Sub.keep (Sub.nil)))))) (b_goT (c1 := [.fz 5 Int, .ow 4 (List Int), .fz 1 Int, .bo 2 (List Int)]) (m2 := m_is_outcome_b5) (s_forG (mb := m_is_outcome_l4) (passes_of rfl) rfl (by first | exact .inl rfl | exact .inr rfl) (i_rng2 (fr := .g) (by rfl) T.n_range (e_var (Var.s (Var.s (Var.z)))) (e_ix ix_list m_ixL (e_varW (Var.s (Var.z))) (e_un un_neg m_neg (e_int)))) (pg_name (i := 7) sc_is_outcome.nd rfl (by first | exact .inl rfl | exact .inr rfl)) (g_name (by exact ⟨(show 7 < 10 by decide), trivial⟩) rfl) (b_consG (c1 := [.fz 8 Int, .fz 7 Int, .fz 5 Int, .ow 4 (List Int), .fz 1 Int, .bo 2 (List Int)]) (s_set sc_is_outcome.nd (e_b1 call_len_seq m_lenL (by rfl) T.n_len bt_len (e_ob (e_lc (own := [("place", 9)]) (c2 := [.fz 9 Int, .fz 7 Int, .ow 4 (List Int), .bo 2 (List Int)]) (mt := m_is_outcome_t2) (me := m_is_outcome_e3) rfl sc_is_outcome.nd (i_rng1 (fr := .g) (by rfl) T.n_range (e_var (Var.s (Var.z)))) (blkOk_by (N := ["sheaf", "end", "numbers", "breadth", "levels", "count", "caps", "height", "zeros", "place"]) (sc := defScope s_is_outcome) (by decide +kernel)) (Sub.keep (Sub.skip (Sub.keep (Sub.skip (Sub.keep (Sub.nil)))))) rfl (gc_name (by exact ⟨(show 9 < 10 by decide), trivial⟩) rfl) (fun _ _ _ _ _ => pg_name (i := 9) sc_is_outcome.nd rfl (by first | exact .inl rfl | exact .inr rfl)) (fun _ _ _ _ _ => pts_one (PW.pt (q_and (q_cmp op_le m_le (e_ix ix_list m_ixL (e_varW (Var.s (Var.s (Var.z)))) (e_var (Var.z))) (e_var (Var.s (Var.z)))) (q_and1 (q_cmp op_eq m_eqI (e_ix ix_list m_ixL (e_varB (Var.s (Var.s (Var.s (Var.z))))) (e_var (Var.z))) (e_int)))))) (fun _ _ _ _ _ => e_var (Var.z))))) (Sub.keep (Sub.keep (Sub.keep (Sub.keep (Sub.keep (Sub.nil)))))) (by exact ⟨(show 8 < 10 by decide), trivial⟩) rfl) (b_ifG (q_cmp op_lt m_lt (e_var (Var.z)) (e_op op_sub m_sub (e_op op_add m_add (e_var (Var.s (Var.z))) (e_int)) (e_var (Var.s (Var.s (Var.s (Var.s (Var.z)))))))) (t_ret (e_bl)) (b_nilG (Sub.skip (Sub.skip (Sub.keep (Sub.keep (Sub.keep (Sub.keep (Sub.nil))))))))))) (t_ret (e_bl)))))))))
theorem ok_law_told (T : Txt K mg) : FnOk P w K mg base (L2N.CX P w) 7 T.a_law_told T.d_law_told ["sheaf", "end", "numbers", "width", "left_out"] (spF (wdOf T) (kF : Kd (wdOf T) Bool) [.bo 0 Sheaf, .fz 1 Int, .bo 2 (List Int), .fz 3 Int, .fz 4 Bool] m_law_told) :=
  fn_ok T.F_law_told sc_law_told rfl (fun cdv A outer s H E hr =>
    b_ifT (q_val (e_var (Var.s (Var.s (Var.s (Var.s (Var.z))))))) (t_ret (e_callD (α := Int) [.bo 0 Sheaf, .fz 1 Int, .bo 2 (List Int)] (n := 3) (d := .int 1) (z := (1 : Int)) (L2N.takes_of rfl rfl rfl rfl) (ok_is_outcome T) (hr.mono (by decide)) T.g_is_outcome T.F_is_outcome.kp T.dk_is_outcome (fun _ => rfl) (a_consB (e_varB (Var.z)) (a_cons (e_var (Var.s (Var.z))) (a_consB (e_varB (Var.s (Var.s (Var.z)))) (a_nil)))))) (t_ret (e_callK (α := Int) [.bo 0 Sheaf, .fz 1 Int, .bo 2 (List Int)] (n := 3) (L2N.takes_of rfl rfl rfl rfl) (ok_is_outcome T) (hr.mono (by decide)) T.g_is_outcome T.F_is_outcome.kp T.kb_is_outcome (a_consB (e_varB (Var.z)) (a_cons (e_var (Var.s (Var.z))) (a_consB (e_varB (Var.s (Var.s (Var.z)))) (a_nil)))) (e_var (Var.s (Var.s (Var.s (Var.z))))))))
theorem ok_law_low (T : Txt K mg) : FnOk P w K mg base (L2N.CX P w) 2 T.a_law_low T.d_law_low ["levels"] (spF (wdOf T) (kF : Kd (wdOf T) Int) [.bo 0 (List Int)] m_law_low) :=
  fn_ok T.F_law_low sc_law_low rfl (fun cdv A outer s H E hr =>
    t_ret (e_b1 (cr_max rfl) m_max (by rfl) T.n_max bt_max (e_ob (e_lc (own := [("level", 1)]) (c2 := [.fz 1 Int, .bo 0 (List Int)]) (mt := fun _ => Rs.ok true) (me := m_law_low_e3) rfl sc_law_low.nd (i_bo (Var.z) rfl) (blkOk_by (N := ["levels", "level", "one"]) (sc := defScope s_law_low) (by decide +kernel)) (Sub.keep (Sub.nil)) rfl (gc_name (by exact ⟨(show 1 < 3 by decide), trivial⟩) rfl) (fun _ _ _ _ _ => pg_name (i := 1) sc_law_low.nd rfl (by first | exact .inl rfl | exact .inr rfl)) (fun _ _ _ _ _ => pts_yes) (fun _ _ _ _ _ => e_op op_sub m_sub (e_var (Var.z)) (e_b1 call_len_seq m_lenL (by rfl) T.n_len bt_len (e_ob (e_lc (own := [("one", 2)]) (c2 := [.fz 2 Int, .fz 1 Int]) (mt := m_law_low_t1) (me := m_law_low_e2) rfl sc_law_low.nd (i_listB rfl (e_varB (Var.s (Var.z)))) (blkOk_by (by rfl)) (Sub.keep (Sub.skip (Sub.nil))) rfl (gc_name (by exact ⟨(show 2 < 3 by decide), trivial⟩) rfl) (fun _ _ _ _ _ => pg_name (i := 2) sc_law_low.nd rfl (by first | exact .inl rfl | exact .inr rfl)) (fun _ _ _ _ _ => pts_one (q_cmp op_lt m_lt (e_var (Var.z)) (e_var (Var.s (Var.z))))) (fun _ _ _ _ _ => e_var (Var.z))))))))))
theorem ok_law_power (T : Txt K mg) : FnOk P w K mg base (L2N.CX P w) 2 T.a_law_power T.d_law_power ["base", "exponent"] (spF (wdOf T) (kF : Kd (wdOf T) Int) [.fz 0 Int, .fz 1 Int] m_law_power) :=
  fn_ok T.F_law_power sc_law_power rfl (fun cdv A outer s H E hr =>
    b_consT (c1 := [.fz 2 Int, .fz 0 Int, .fz 1 Int]) (s_set sc_law_power.nd (e_int) (Sub.keep (Sub.keep (Sub.nil))) (by exact ⟨(show 2 < 4 by decide), trivial⟩) rfl) (b_consT (c1 := [.fz 2 Int, .fz 0 Int, .fz 1 Int]) (s_for (mb := m_law_power_l1) (passes_of rfl) rfl (by first | exact .inl rfl | exact .inr rfl) (i_rng1 (fr := .g) (by rfl) T.n_range (e_var (Var.s (Var.s (Var.z))))) (pg_name (i := 3) sc_law_power.nd rfl (by first | exact .inl rfl | exact .inr rfl)) (g_name (by exact ⟨(show 3 < 4 by decide), trivial⟩) rfl) (b_cons (c1 := [.fz 3 Int, .fz 2 Int, .fz 0 Int, .fz 1 Int]) (s_upd sc_law_power.nd (e_op op_mul m_mul (e_var (Var.s (Var.z))) (e_var (Var.s (Var.s (Var.z))))) (Var.s (Var.z)) (by exact ⟨(show 2 < 4 by decide), trivial⟩)) (b_nil (Sub.skip (Sub.keep (Sub.keep (Sub.keep (Sub.nil)))))))) (t_ret (e_var (Var.z)))))
theorem ok_law_cap (T : Txt K mg) : FnOk P w K mg base (L2N.CX P w) 3 T.a_law_cap T.d_law_cap ["level", "end", "width"] (spF (wdOf T) (kF : Kd (wdOf T) Int) [.fz 0 Int, .fz 1 Int, .fz 2 Int] m_law_cap) :=
  fn_ok T.F_law_cap sc_law_cap rfl (fun cdv A outer s H E hr =>
    b_ifT (q_cmp op_lt m_lt (e_var (Var.z)) (e_var (Var.s (Var.z)))) (t_ret (e_int)) (t_ret (e_call (Γ := [.fz 0 Int, .fz 1 Int]) (L2N.takes_of rfl rfl rfl rfl) (ok_law_power T) (hr.mono (by decide)) T.g_law_power T.F_law_power.kp T.b_law_power (a_cons (e_op op_add m_add (e_var (Var.s (Var.s (Var.z)))) (e_int)) (a_cons (e_op op_sub m_sub (e_var (Var.z)) (e_var (Var.s (Var.z)))) (a_nil))))))
theorem ok_law_high (T : Txt K mg) : FnOk P w K mg base (L2N.CX P w) 4 T.a_law_high T.d_law_high ["levels", "width"] (spF (wdOf T) (kF : Kd (wdOf T) Int) [.bo 0 (List Int), .fz 1 Int] m_law_high) :=
  fn_ok T.F_law_high sc_law_high rfl (fun cdv A outer s H E hr =>
    b_consT (c1 := [.fz 2 Int, .bo 0 (List Int), .fz 1 Int]) (s_set sc_law_high.nd (e_b1 (cr_max rfl) m_max (by rfl) T.n_max bt_max (e_varB (Var.z))) (Sub.keep (Sub.keep (Sub.nil))) (by exact ⟨(show 2 < 5 by decide), trivial⟩) rfl) (b_goT (c1 := [.fz 2 Int, .bo 0 (List Int), .fz 1 Int]) (m2 := m_law_high_b3) (s_forG (mb := m_law_high_l2) (passes_of rfl) rfl (by first | exact .inl rfl | exact .inr rfl) (i_rng1 (fr := .g) (by rfl) T.n_range (e_int)) (pg_name (i := 3) sc_law_high.nd rfl (by first | exact .inl rfl | exact .inr rfl)) (g_name (by exact ⟨(show 3 < 5 by decide), trivial⟩) rfl) (b_ifG (q_cmp op_ge m_ge (e_b1 (cr_sum rfl) m_sum (by rfl) T.n_sum bt_sum (e_ob (e_lc (own := [("level", 4)]) (c2 := [.fz 4 Int, .fz 3 Int, .fz 2 Int, .fz 1 Int]) (mt := fun _ => Rs.ok true) (me := m_law_high_e1) rfl sc_law_high.nd (i_bo (Var.s (Var.s (Var.z))) rfl) (blkOk_by (N := ["levels", "width", "top", "k", "level"]) (sc := defScope s_law_high) (by decide +kernel)) (Sub.keep (Sub.keep (Sub.skip (Sub.keep (Sub.nil))))) rfl (gc_name (by exact ⟨(show 4 < 5 by decide), trivial⟩) rfl) (fun _ _ _ _ _ => pg_name (i := 4) sc_law_high.nd rfl (by first | exact .inl rfl | exact .inr rfl)) (fun _ _ _ _ _ => pts_yes) (fun _ _ _ _ _ => e_call (Γ := [.fz 0 Int, .fz 1 Int, .fz 2 Int]) takes_cut (ok_law_cap T) (hr.mono (by decide)) T.g_law_cap T.F_law_cap.kp T.b_law_cap (a_cons (e_var (Var.z)) (a_cons (e_op op_sub m_sub (e_var (Var.s (Var.s (Var.z)))) (e_var (Var.s (Var.z)))) (a_cons (e_var (Var.s (Var.s (Var.s (Var.z))))) (a_nil)))))))) (e_b1 call_len_seq m_lenL (by rfl) T.n_len bt_len (e_varB (Var.s (Var.s (Var.z)))))) (t_ret (e_op op_sub m_sub (e_var (Var.s (Var.z))) (e_var (Var.z)))) (b_nilG (Sub.skip (Sub.keep (Sub.keep (Sub.keep (Sub.nil)))))))) (t_ret (e_op op_sub m_sub (e_var (Var.z)) (e_int)))))
theorem ok_law_is_outcome (T : Txt K mg) : FnOk P w K mg base (L2N.CX P w) 5 T.a_law_is_outcome T.d_law_is_outcome ["levels", "end", "numbers", "width"] (spF (wdOf T) (kF : Kd (wdOf T) Bool) [.bo 0 (List Int), .fz 1 Int, .bo 2 (List Int), .fz 3 Int] m_law_is_outcome) :=
  fn_ok T.F_law_is_outcome sc_law_is_outcome rfl (fun cdv A outer s H E hr =>
    b_consT (c1 := [.fz 4 Int, .bo 0 (List Int), .fz 1 Int, .bo 2 (List Int), .fz 3 Int]) (s_set sc_law_is_outcome.nd (e_b1 call_len_seq m_lenL (by rfl) T.n_len bt_len (e_varB (Var.z))) (Sub.keep (Sub.keep (Sub.keep (Sub.keep (Sub.nil))))) (by exact ⟨(show 4 < 9 by decide), trivial⟩) rfl) (b_ifT (PW.pt (q_or (q_cmp op_lt m_lt (e_var (Var.s (Var.s (Var.z)))) (e_call (Γ := [.bo 0 (List Int)]) (L2N.takes_of rfl rfl rfl rfl) (ok_law_low T) (hr.mono (by decide)) T.g_law_low T.F_law_low.kp T.b_law_low (a_consB (e_varB (Var.s (Var.z))) (a_nil)))) (q_or (q_cmp op_gt m_gt (e_var (Var.s (Var.s (Var.z)))) (e_call (Γ := [.bo 0 (List Int), .fz 1 Int]) (L2N.takes_of rfl rfl rfl rfl) (ok_law_high T) (hr.mono (by decide)) T.g_law_high T.F_law_high.kp T.b_law_high (a_consB (e_varB (Var.s (Var.z))) (a_cons (e_var (Var.s (Var.s (Var.s (Var.s (Var.z)))))) (a_nil))))) (q_or1 (q_cmp op_ne m_neI (e_b1 call_len_seq m_lenL (by rfl) T.n_len bt_len (e_varB (Var.s (Var.s (Var.s (Var.z)))))) (e_var (Var.z))))))) (t_ret (e_bl)) (b_ifT (PW.pt (q_or (q_cmp op_gt m_gt (e_b1 call_len_seq m_lenL (by rfl) T.n_len bt_len (e_ob (e_lc (own := [("one", 8)]) (c2 := [.fz 8 Int]) (mt := m_law_is_outcome_t1) (me := m_law_is_outcome_e2) rfl sc_law_is_outcome.nd (i_bo (Var.s (Var.s (Var.s (Var.z)))) rfl) (blkOk_by (N := ["levels", "end", "numbers", "width", "count", "k", "height", "zeros", "one"]) (sc := defScope s_law_is_outcome) (by decide +kernel)) (Sub.skip (Sub.skip (Sub.skip (Sub.skip (Sub.skip (Sub.nil)))))) rfl (gc_name (by exact ⟨(show 8 < 9 by decide), trivial⟩) rfl) (fun _ _ _ _ _ => pg_name (i := 8) sc_law_is_outcome.nd rfl (by first | exact .inl rfl | exact .inr rfl)) (fun _ _ _ _ _ => pts_one (q_cmp op_lt m_lt (e_var (Var.z)) (e_int))) (fun _ _ _ _ _ => e_var (Var.z))))) (e_int)) (q_or1 (q_cmp op_ne m_neI (e_b1 (cr_sum rfl) m_sum (by rfl) T.n_sum bt_sum (e_varB (Var.s (Var.s (Var.s (Var.z)))))) (e_var (Var.z)))))) (t_ret (e_bl)) (b_goT (c1 := [.fz 4 Int, .bo 0 (List Int), .fz 1 Int, .bo 2 (List Int), .fz 3 Int]) (m2 := m_law_is_outcome_b9) (s_forG (mb := m_law_is_outcome_l3) (passes_of rfl) rfl (by first | exact .inl rfl | exact .inr rfl) (i_rng1 (fr := .g) (by rfl) T.n_range (e_var (Var.z))) (pg_name (i := 5) sc_law_is_outcome.nd rfl (by first | exact .inl rfl | exact .inr rfl)) (g_name (by exact ⟨(show 5 < 9 by decide), trivial⟩) rfl) (b_ifG (q_cmp op_gt m_gt (e_ix ix_list m_ixL (e_varB (Var.s (Var.s (Var.s (Var.s (Var.z)))))) (e_var (Var.z))) (e_call (Γ := [.fz 0 Int, .fz 1 Int, .fz 2 Int]) (L2N.takes_of rfl rfl rfl rfl) (ok_law_cap T) (hr.mono (by decide)) T.g_law_cap T.F_law_cap.kp T.b_law_cap (a_cons (e_ix ix_list m_ixL (e_varB (Var.s (Var.s (Var.z)))) (e_var (Var.z))) (a_cons (e_var (Var.s (Var.s (Var.s (Var.z))))) (a_cons (e_var (Var.s (Var.s (Var.s (Var.s (Var.s (Var.z))))))) (a_nil)))))) (t_ret (e_bl)) (b_nilG (Sub.skip (Sub.keep (Sub.keep (Sub.keep (Sub.keep (Sub.keep (Sub.nil)))))))))) (b_subT (m := m_law_is_outcome_b8) (Sub.keep (Sub.keep (Sub.keep (Sub.keep (Sub.skip (Sub.nil)))))) (b_goT (c1 := [.fz 4 Int, .bo 0 (List Int), .fz 1 Int, .bo 2 (List Int)]) (m2 := m_law_is_outcome_b7) (s_forG (mb := m_law_is_outcome_l6) (passes_of rfl) rfl (by first | exact .inl rfl | exact .inr rfl) (i_rng2 (fr := .g) (by rfl) T.n_range (e_var (Var.s (Var.s (Var.z)))) (e_b1 (cr_max rfl) m_max (by rfl) T.n_max bt_max (e_varB (Var.s (Var.z))))) (pg_name (i := 6) sc_law_is_outcome.nd rfl (by first | exact .inl rfl | exact .inr rfl)) (g_name (by exact ⟨(show 6 < 9 by decide), trivial⟩) rfl) (b_consG (c1 := [.fz 7 Int, .fz 6 Int, .fz 4 Int, .bo 0 (List Int), .fz 1 Int, .bo 2 (List Int)]) (s_set sc_law_is_outcome.nd (e_b1 call_len_seq m_lenL (by rfl) T.n_len bt_len (e_ob (e_lc (own := [("k", 5)]) (c2 := [.fz 5 Int, .fz 6 Int, .bo 0 (List Int), .bo 2 (List Int)]) (mt := m_law_is_outcome_t4) (me := m_law_is_outcome_e5) rfl sc_law_is_outcome.nd (i_rng1 (fr := .g) (by rfl) T.n_range (e_var (Var.s (Var.z)))) (blkOk_by (N := ["levels", "end", "numbers", "width", "count", "k", "height", "zeros", "one"]) (sc := defScope s_law_is_outcome) (by decide +kernel)) (Sub.keep (Sub.skip (Sub.keep (Sub.skip (Sub.keep (Sub.nil)))))) rfl (gc_name (by exact ⟨(show 5 < 9 by decide), trivial⟩) rfl) (fun _ _ _ _ _ => pg_name (i := 5) sc_law_is_outcome.nd rfl (by first | exact .inl rfl | exact .inr rfl)) (fun _ _ _ _ _ => pts_one (PW.pt (q_and (q_cmp op_le m_le (e_ix ix_list m_ixL (e_varB (Var.s (Var.s (Var.z)))) (e_var (Var.z))) (e_var (Var.s (Var.z)))) (q_and1 (q_cmp op_eq m_eqI (e_ix ix_list m_ixL (e_varB (Var.s (Var.s (Var.s (Var.z))))) (e_var (Var.z))) (e_int)))))) (fun _ _ _ _ _ => e_var (Var.z))))) (Sub.keep (Sub.keep (Sub.keep (Sub.keep (Sub.keep (Sub.nil)))))) (by exact ⟨(show 7 < 9 by decide), trivial⟩) rfl) (b_ifG (q_cmp op_lt m_lt (e_var (Var.z)) (e_op op_sub m_sub (e_op op_add m_add (e_var (Var.s (Var.z))) (e_int)) (e_var (Var.s (Var.s (Var.s (Var.s (Var.z)))))))) (t_ret (e_bl)) (b_nilG (Sub.skip (Sub.skip (Sub.keep (Sub.keep (Sub.keep (Sub.keep (Sub.nil))))))))))) (t_ret (e_bl))))))))
theorem ok_law_right (T : Txt K mg) : FnOk P w K mg base (L2N.CX P w) 8 T.a_law_right T.d_law_right ["sheaf", "levels", "end", "numbers", "width", "left_out"] (spF (wdOf T) (kF : Kd (wdOf T) Bool) [.bo 0 Sheaf, .bo 1 (List Int), .fz 2 Int, .bo 3 (List Int), .fz 4 Int, .fz 5 Bool] m_law_right) :=
  fn_ok T.F_law_right sc_law_right rfl (fun cdv A outer s H E hr =>
    b_consT (c1 := [.ow 6 (List Int), .bo 0 Sheaf, .bo 1 (List Int), .fz 2 Int, .bo 3 (List Int), .fz 4 Int, .fz 5 Bool]) (s_setO sc_law_right.nd (e_t1 call_list_of m_list (by rfl) T.n_list bt_list (e_varB (Var.s (Var.s (Var.s (Var.z)))))) (Sub.keep (Sub.keep (Sub.keep (Sub.keep (Sub.keep (Sub.keep (Sub.nil))))))) (by exact ⟨(show 6 < 8 by decide), trivial⟩) rfl) (b_consT (c1 := [.fz 7 Bool, .ow 6 (List Int), .bo 1 (List Int), .fz 2 Int, .bo 3 (List Int), .fz 4 Int]) (s_set sc_law_right.nd (e_call (Γ := [.bo 0 Sheaf, .fz 1 Int, .bo 2 (List Int), .fz 3 Int, .fz 4 Bool]) (L2N.takes_of rfl rfl rfl rfl) (ok_law_told T) (hr.mono (by decide)) T.g_law_told T.F_law_told.kp T.b_law_told (a_consB (e_varB (Var.s (Var.z))) (a_cons (e_var (Var.s (Var.s (Var.s (Var.z))))) (a_consB (e_varW (Var.z)) (a_cons (e_var (Var.s (Var.s (Var.s (Var.s (Var.s (Var.z))))))) (a_cons (e_var (Var.s (Var.s (Var.s (Var.s (Var.s (Var.s (Var.z)))))))) (a_nil))))))) (Sub.keep (Sub.skip (Sub.keep (Sub.keep (Sub.keep (Sub.keep (Sub.skip (Sub.nil)))))))) (by exact ⟨(show 7 < 8 by decide), trivial⟩) rfl) (b_ifT (q_cmp (op_neD hr.units) m_neB (e_varW (Var.s (Var.z))) (e_varB (Var.s (Var.s (Var.s (Var.s (Var.z))))))) (t_ret (e_bl)) (b_ifT (q_val (e_call (Γ := [.bo 0 (List Int), .fz 1 Int, .bo 2 (List Int), .fz 3 Int]) (L2N.takes_of rfl rfl rfl rfl) (ok_law_is_outcome T) (hr.mono (by decide)) T.g_law_is_outcome T.F_law_is_outcome.kp T.b_law_is_outcome (a_consB (e_varB (Var.s (Var.s (Var.z)))) (a_cons (e_var (Var.s (Var.s (Var.s (Var.z))))) (a_consB (e_varB (Var.s (Var.s (Var.s (Var.s (Var.z)))))) (a_cons (e_var (Var.s (Var.s (Var.s (Var.s (Var.s (Var.z))))))) (a_nil))))))) (t_ret (e_cmp op_isB m_isB (e_var (Var.z)) (e_bl))) (t_ret (e_cmp op_isB m_isB (e_var (Var.z)) (e_bl)))))))
theorem ok_law_is_integer (T : Txt K mg) : FnOk P w K mg base (L2N.CX P w) 2 T.a_law_is_integer T.d_law_is_integer ["value"] (spF (wdOf T) (kF : Kd (wdOf T) Bool) [.fz 0 Int] m_law_is_integer) :=
  fn_ok T.F_law_is_integer sc_law_is_integer rfl (fun cdv A outer s H E hr =>
    t_ret (e_and (e_isi (t := fun _ => .type "int") (b := fun _ => true) (u := .type "int") T.n_isinstance (e_var (Var.z)) (pe_bltn (v := .ty "int") (by rfl) T.n_int bt_int rfl) (.ty _) ty_int (fun _ => kit_ty (by decide +kernel))) (e_one (e_not (e_isi (t := fun _ => .type "int") (b := fun _ => false) (u := .type "bool") T.n_isinstance (e_var (Var.z)) (pe_bltn (v := .ty "bool") (by rfl) T.n_bool bt_bool rfl) (.ty _) ty_int (fun _ => kit_ty (by decide +kernel)))))))
theorem ok_law_same_integers (T : Txt K mg) : FnOk P w K mg base (L2N.CX P w) 3 T.a_law_same_integers T.d_law_same_integers ["told", "due"] (spF (wdOf T) (kF : Kd (wdOf T) Bool) [.bo 0 (List Int), .bo 1 (List Int)] m_law_same_integers) :=
  fn_ok T.F_law_same_integers sc_law_same_integers rfl (fun cdv A outer s H E hr =>
    b_ifT (q_not (q_val (e_isi (t := fun _ => .type "list") (b := fun _ => true) (u := .type "list") T.n_isinstance (e_varB (Var.z)) (pe_bltn (v := .ty "list") (by rfl) T.n_list bt_list rfl) (.ty _) ty_listB (fun _ => kit_ty (by decide +kernel))))) (t_ret (e_bl)) (t_ret (e_and (e_cmp op_eq m_eqI (e_b1 call_len_seq m_lenL (by rfl) T.n_len bt_len (e_ob (e_lc (own := [("value", 2)]) (c2 := [.fz 2 Int]) (mt := m_law_same_integers_t1) (me := m_law_same_integers_e2) rfl sc_law_same_integers.nd (i_bo (Var.z) rfl) (blkOk_by (N := ["told", "due", "value"]) (sc := defScope s_law_same_integers) (by decide +kernel)) (Sub.skip (Sub.skip (Sub.nil))) rfl (gc_name (by exact ⟨(show 2 < 3 by decide), trivial⟩) rfl) (fun _ _ _ _ _ => pg_name (i := 2) sc_law_same_integers.nd rfl (by first | exact .inl rfl | exact .inr rfl)) (fun _ _ _ _ _ => pts_one (q_not (q_val (e_call (Γ := [.fz 0 Int]) takes_cut (ok_law_is_integer T) (hr.mono (by decide)) T.g_law_is_integer T.F_law_is_integer.kp T.b_law_is_integer (a_cons (e_var (Var.z)) (a_nil)))))) (fun _ _ _ _ _ => e_var (Var.z))))) (e_int)) (e_one (e_cmp (op_eqD hr.units) m_eqB (e_varB (Var.z)) (e_varB (Var.s (Var.z))))))))
theorem ok_law_repeated (T : Txt K mg) : FnOk P w K mg base (L2N.CX P w) 2 T.a_law_repeated T.d_law_repeated ["rows"] (spF (wdOf T) (kF : Kd (wdOf T) (Option Str)) [.bo 0 (List (Int × Str))] m_law_repeated) :=
  fn_ok T.F_law_repeated sc_law_repeated rfl (fun cdv A outer s H E hr =>
    b_consT (c1 := [.ow 1 (List Str), .bo 0 (List (Int × Str))]) (s_setO sc_law_repeated.nd (e_lst (l_nil (α := Str))) (Sub.keep (Sub.nil)) (by exact ⟨(show 1 < 4 by decide), trivial⟩) rfl) (b_consT (c1 := [.ow 1 (List Str), .bo 0 (List (Int × Str))]) (s_for (mb := m_law_repeated_l3) (passes_of rfl) rfl (by first | exact .inl rfl | exact .inr rfl) (i_rng1 (fr := .g) (by rfl) T.n_range (e_b1 call_len_seq m_lenL (by rfl) T.n_len bt_len (e_varB (Var.s (Var.z))))) (pg_name (i := 2) sc_law_repeated.nd rfl (by first | exact .inl rfl | exact .inr rfl)) (g_name (by exact ⟨(show 2 < 4 by decide), trivial⟩) rfl) (b_cons (c1 := [.ow 1 (List Str), .bo 0 (List (Int × Str))]) (s_if (q_cmp op_in_seq m_inStr (e_snd rfl (e_ix ix_list m_ixL (e_varB (Var.s (Var.s (Var.z)))) (e_var (Var.z)))) (e_ob (e_lc (own := [("row", 3)]) (c2 := [.fz 3 (Int × Str)]) (mt := fun _ => Rs.ok true) (me := m_law_repeated_e2) rfl sc_law_repeated.nd (i_listB rfl (e_ob (e_slL (e_varB (Var.s (Var.s (Var.z)))) (p_none) (p_some (e_var (Var.z)))))) (blkOk_by (N := ["rows", "found", "k", "row"]) (sc := defScope s_law_repeated) (by decide +kernel)) (Sub.skip (Sub.skip (Sub.skip (Sub.nil)))) rfl (gc_name (by exact ⟨(show 3 < 4 by decide), trivial⟩) rfl) (fun _ _ _ _ _ => pg_name (i := 3) sc_law_repeated.nd rfl (by first | exact .inl rfl | exact .inr rfl)) (fun _ _ _ _ _ => pts_yes) (fun _ _ _ _ _ => e_snd rfl (e_var (Var.z)))))) (b_cons (c1 := [.fz 2 Int, .ow 1 (List Str), .bo 0 (List (Int × Str))]) (s_append (Var.s (Var.z)) (e_snd rfl (e_ix ix_list m_ixL (e_varB (Var.s (Var.s (Var.z)))) (e_var (Var.z))))) (b_nil (Sub.skip (Sub.keep (Sub.keep (Sub.nil)))))) (b_nil (Sub.skip (Sub.keep (Sub.keep (Sub.nil)))))) (b_nil (Sub.keep (Sub.keep (Sub.nil)))))) (b_ifT (q_cmp op_eq m_eqI (e_b1 call_len_seq m_lenL (by rfl) T.n_len bt_len (e_varW (Var.z))) (e_int)) (t_ret (e_nonO)) (t_ret (e_some (e_ix ix_list m_ixL (e_ob (e_b1 cr_sortedS m_sortedS (by rfl) T.n_sorted bt_sorted (e_varW (Var.z)))) (e_int)))))))
theorem ok_law_refused (T : Txt K mg) : FnOk P w K mg base (L2N.CX P w) 8 T.a_law_refused T.d_law_refused ["sheaf", "end", "numbers", "width", "left_out", "record"] (spF (wdOf T) (kF : Kd (wdOf T) Bool) [.bo 0 Sheaf, .fz 1 Int, .fz 2 (Option (List Int)), .fz 3 Int, .fz 4 Bool, .fz 5 Str] m_law_refused) :=
  fn_ok T.F_law_refused sc_law_refused rfl (fun cdv A outer s H E hr =>
    b_consT (c1 := [.ow 6 (List Int), .bo 0 Sheaf, .fz 1 Int, .fz 2 (Option (List Int)), .fz 3 Int, .fz 4 Bool, .fz 5 Str]) (s_setO sc_law_refused.nd (e_t1 call_list_of m_list (by rfl) T.n_list bt_list (e_orL (e_fn (e_var (Var.s (Var.s (Var.z))))) (e_lst (l_nil (α := Int))))) (Sub.keep (Sub.keep (Sub.keep (Sub.keep (Sub.keep (Sub.keep (Sub.nil))))))) (by exact ⟨(show 6 < 9 by decide), trivial⟩) rfl) (b_consT (c1 := [.fz 7 (Option Str), .ow 6 (List Int), .bo 0 Sheaf, .fz 1 Int, .fz 2 (Option (List Int)), .fz 3 Int, .fz 4 Bool, .fz 5 Str]) (s_set sc_law_refused.nd (e_nonO) (Sub.keep (Sub.keep (Sub.keep (Sub.keep (Sub.keep (Sub.keep (Sub.keep (Sub.nil)))))))) (by exact ⟨(show 7 < 9 by decide), trivial⟩) rfl) (b_goT (c1 := [.fz 7 (Option Str), .fz 5 Str]) (m2 := m_law_refused_b3) (g_tryA (n := "RepeatedRecord") (oth := []) (c1 := [.fz 7 (Option Str), .fz 5 Str]) (c2 := [.fz 7 (Option Str), .fz 5 Str]) (mb := m_law_refused_y1) (mh := m_law_refused_x2) [] (Sub.keep (Sub.skip (Sub.skip (Sub.skip (Sub.skip (Sub.skip (Sub.skip (Sub.keep (Sub.nil))))))))) (cm_RepeatedRecord T) sc_law_refused.nd (i := 8) rfl rfl T.g_RepeatedRecord (L2N.takes_of rfl rfl rfl rfl) (by exact ⟨(show 8 < 9 by decide), trivial⟩) rfl rfl rfl (T.xc_RepeatedRecord.exm T.xc_RepeatedRecord.sf) (fun _ z => by cases z) (fun W pn xe σ0 tw pw => b_sg (b_cons (c1 := [.fz 7 (Option Str), .fz 5 Str]) (s_if (q_cmp op_isN (m_isN nn_own) (e_var (Var.s (Var.s (Var.s (Var.s (Var.z)))))) (e_non)) (b_cons (c1 := [.fz 7 (Option Str), .ow 6 (List Int), .bo 0 Sheaf, .fz 1 Int, .fz 2 (Option (List Int)), .fz 3 Int, .fz 4 Bool, .fz 5 Str]) (s_expr (e_call (Γ := [.bo 0 Sheaf]) tw (ok_outcome_order T) (hr.mono (by decide)) T.g_outcome_order T.F_outcome_order.kp T.b_outcome_order (a_consB (e_varB (Var.s (Var.s (Var.z)))) (a_nil)))) (b_nil (Sub.keep (Sub.skip (Sub.skip (Sub.skip (Sub.skip (Sub.skip (Sub.skip (Sub.keep (Sub.nil))))))))))) (b_cons (c1 := [.fz 7 (Option Str), .ow 6 (List Int), .bo 0 Sheaf, .fz 1 Int, .fz 2 (Option (List Int)), .fz 3 Int, .fz 4 Bool, .fz 5 Str]) (s_expr (e_call (Γ := [.bo 0 Sheaf, .fz 1 Int, .bo 2 (List Int), .fz 3 Int, .fz 4 Bool]) tw (ok_law_told T) (hr.mono (by decide)) T.g_law_told T.F_law_told.kp T.b_law_told (a_consB (e_varB (Var.s (Var.s (Var.z)))) (a_cons (e_var (Var.s (Var.s (Var.s (Var.z))))) (a_consB (e_varW (Var.s (Var.z))) (a_cons (e_var (Var.s (Var.s (Var.s (Var.s (Var.s (Var.z))))))) (a_cons (e_var (Var.s (Var.s (Var.s (Var.s (Var.s (Var.s (Var.z)))))))) (a_nil)))))))) (b_nil (Sub.keep (Sub.skip (Sub.skip (Sub.skip (Sub.skip (Sub.skip (Sub.skip (Sub.keep (Sub.nil)))))))))))) (b_nil (Sub.keep (Sub.keep (Sub.nil)))))) (fun a oe d pn hz hf hot => b_ifG (PW.pt (q_or (q_not (q_val (e_isE (b := true) T.cx_RepeatedRecord hz hf (Var.z) rfl (e_cls (by rfl) T.g_WornError) (fun u e => e) (T.xc_WornError.kit T.su_RepeatedRecord_WornError) T.n_isinstance))) (q_or1 (q_not (q_val (e_isE (b := true) T.cx_RepeatedRecord hz hf (Var.z) rfl (pe_bltn (v := .ty "ValueError") (by rfl) T.n_ValueError bt_ValueError rfl) (fun u e => e) T.kv_RepeatedRecord T.n_isinstance)))))) (t_ret (e_bl)) (b_ifG (q_val (e_isT (b := false) (cs := [T.c_Impossible, T.c_InvalidSheaf, T.c_NoOutcome, T.c_UnknownRecord]) T.cx_RepeatedRecord hz hf (Var.z) rfl (pa_c (e_cls (by rfl) T.g_Impossible) (pa_c (e_cls (by rfl) T.g_InvalidSheaf) (pa_c (e_cls (by rfl) T.g_NoOutcome) (pa_c (e_cls (by rfl) T.g_UnknownRecord) (pa_c0))))) (Nat.le_of_ble_eq_true rfl) (any_f (T.xc_Impossible.kit T.su_RepeatedRecord_Impossible) (any_f (T.xc_InvalidSheaf.kit T.su_RepeatedRecord_InvalidSheaf) (any_f (T.xc_NoOutcome.kit T.su_RepeatedRecord_NoOutcome) (any_f (T.xc_UnknownRecord.kit T.su_RepeatedRecord_UnknownRecord) (any_0))))) T.n_isinstance)) (t_ret (e_bl)) (b_consG (c1 := [@Ent.fz 8 Exc (repEx a d), .fz 7 (Option Str), .fz 5 Str]) (s_upd sc_law_refused.nd (e_some (e_fldE (α := Str) T.cx_RepeatedRecord hz hf (Var.z) T.nf_RepeatedRecord rfl)) (Var.s (Var.z)) (by exact ⟨(show 7 < 9 by decide), trivial⟩) (by exact (show ([8, 7, 5] : List Nat).Nodup by decide))) (b_nilG (Sub.skip (Sub.keep (Sub.keep (Sub.nil))))))))) (t_ret (e_and (e_isi (t := fun (o : Option Str) => if o.isSome then .type "str" else .type "NoneType") (b := fun (o : Option Str) => o.isSome) (u := .type "str") T.n_isinstance (e_var (Var.z)) (pe_bltn (v := .ty "str") (by rfl) T.n_str bt_str rfl) (.ty _) ty_optS kit_optS) (e_one (e_cmp op_eq m_eqS (e_narF (e_var (Var.z))) (e_var (Var.s (Var.z))))))))))
theorem ok_law (T : Txt K mg) : FnOk P w K mg base (L2N.CX P w) 9 T.a_law T.d_law ["script"] (spF (wdOf T) (kF : Kd (wdOf T) Bool) [.fz 0 Script] m_law) :=
  fn_ok T.F_law sc_law rfl (fun cdv A outer s H E hr =>
    b_consT (c1 := [.ow 1 (List Int), .fz 0 Script]) (s_setO sc_law.nd (e_call (Γ := [.fz 0 Int, .bo 1 (List Int)]) (L2N.takes_of rfl rfl rfl rfl) (ok_law_draws T) (hr.mono (by decide)) T.g_law_draws T.F_law_draws.kp T.b_law_draws (a_cons (e_call (Γ := [.fz 0 Script, .fz 1 Int]) (L2N.takes_of rfl rfl rfl rfl) (ok_law_cell T) (hr.mono (by decide)) T.g_law_cell T.F_law_cell.kp T.b_law_cell (a_cons (e_var (Var.z)) (a_cons (e_int) (a_nil)))) (a_consB (e_ob (e_lst (l_cons (e_int) (l_cons (e_int) (l_cons (e_int) (l_cons (e_int) (l_cons (e_int) (l_cons (e_int) (l_cons (e_int) (l_nil (α := Int))))))))))) (a_nil)))) (Sub.keep (Sub.nil)) (by exact ⟨(show 1 < 22 by decide), trivial⟩) rfl) (b_consT (c1 := [.fz 2 Int, .ow 1 (List Int), .fz 0 Script]) (s_set sc_law.nd (e_op op_add m_add (e_int) (e_ix ix_list m_ixL (e_varW (Var.z)) (e_int))) (Sub.keep (Sub.keep (Sub.nil))) (by exact ⟨(show 2 < 22 by decide), trivial⟩) rfl) (b_consT (c1 := [.fz 3 Int, .fz 2 Int, .ow 1 (List Int), .fz 0 Script]) (s_set sc_law.nd (e_op op_sub m_sub (e_ix ix_list m_ixL (e_varW (Var.s (Var.z))) (e_int)) (e_int)) (Sub.keep (Sub.keep (Sub.keep (Sub.nil)))) (by exact ⟨(show 3 < 22 by decide), trivial⟩) rfl) (b_consT (c1 := [.fz 3 Int, .fz 2 Int, .ow 1 (List Int), .fz 0 Script]) (s_if (q_cmp op_eq m_eqI (e_ix ix_list m_ixL (e_varW (Var.s (Var.s (Var.z)))) (e_int)) (e_int)) (b_cons (c1 := [.fz 3 Int, .fz 2 Int, .ow 1 (List Int), .fz 0 Script]) (s_upd sc_law.nd (e_op op_sub m_sub (e_op op_mul m_mul (e_int) (e_ix ix_list m_ixL (e_varW (Var.s (Var.s (Var.z)))) (e_int))) (e_int)) (Var.z) (by exact ⟨(show 3 < 22 by decide), trivial⟩)) (b_nil (Sub.keep (Sub.keep (Sub.keep (Sub.keep (Sub.nil))))))) (b_nil (Sub.keep (Sub.keep (Sub.keep (Sub.keep (Sub.nil))))))) (b_consT (c1 := [.ow 4 (List Str), .fz 3 Int, .fz 2 Int, .ow 1 (List Int), .fz 0 Script]) (s_setO sc_law.nd (e_call (Γ := [.fz 0 Int, .fz 1 Int]) (L2N.takes_of rfl rfl rfl rfl) (ok_law_names T) (hr.mono (by decide)) T.g_law_names T.F_law_names.kp T.b_law_names (a_cons (e_call (Γ := [.fz 0 Script, .fz 1 Int]) (L2N.takes_of rfl rfl rfl rfl) (ok_law_cell T) (hr.mono (by decide)) T.g_law_cell T.F_law_cell.kp T.b_law_cell (a_cons (e_var (Var.s (Var.s (Var.s (Var.z))))) (a_cons (e_int) (a_nil)))) (a_cons (e_var (Var.s (Var.z))) (a_nil)))) (Sub.keep (Sub.keep (Sub.keep (Sub.keep (Sub.nil))))) (by exact ⟨(show 4 < 22 by decide), trivial⟩) rfl) (b_consT (c1 := [.ow 5 (List Int), .ow 4 (List Str), .fz 2 Int, .ow 1 (List Int), .fz 0 Script]) (s_setO sc_law.nd (e_call (Γ := [.fz 0 Int, .fz 1 Int, .fz 2 Int, .fz 3 Int, .fz 4 Int]) (L2N.takes_of rfl rfl rfl rfl) (ok_law_levels T) (hr.mono (by decide)) T.g_law_levels T.F_law_levels.kp T.b_law_levels (a_cons (e_call (Γ := [.fz 0 Script, .fz 1 Int]) (L2N.takes_of rfl rfl rfl rfl) (ok_law_cell T) (hr.mono (by decide)) T.g_law_cell T.F_law_cell.kp T.b_law_cell (a_cons (e_var (Var.s (Var.s (Var.s (Var.s (Var.z)))))) (a_cons (e_int) (a_nil)))) (a_cons (e_ix ix_list m_ixL (e_varW (Var.s (Var.s (Var.s (Var.z))))) (e_int)) (a_cons (e_var (Var.s (Var.s (Var.z)))) (a_cons (e_op op_add m_add (e_int) (e_ix ix_list m_ixL (e_varW (Var.s (Var.s (Var.s (Var.z))))) (e_int))) (a_cons (e_var (Var.s (Var.z))) (a_nil))))))) (Sub.keep (Sub.skip (Sub.keep (Sub.keep (Sub.keep (Sub.nil)))))) (by exact ⟨(show 5 < 22 by decide), trivial⟩) rfl) (b_consT (c1 := [.ow 6 (List (Int × Str)), .ow 5 (List Int), .ow 4 (List Str), .fz 2 Int, .ow 1 (List Int), .fz 0 Script]) (s_lc (own := [("k", 20)]) (c2 := [.fz 20 Int, .ow 5 (List Int), .ow 4 (List Str)]) (mt := fun _ => Rs.ok true) (me := m_law_e1) rfl sc_law.nd rfl rfl (sw_true rfl rfl rfl (by decide +kernel)) (i_rng1 (fr := .g) (by rfl) T.n_range (e_var (Var.s (Var.s (Var.z))))) (blkOk_by (N := ["script", "modes", "count", "base", "names", "levels", "rows", "drawn", "width", "final", "order", "shares", "lists", "sheaf", "inorder", "numbers", "told", "again", "record", "end", "k", "row"]) (sc := defScope s_law) (by decide +kernel)) (Sub.keep (Sub.keep (Sub.skip (Sub.skip (Sub.skip (Sub.nil)))))) rfl (gc_name (by exact ⟨(show 20 < 22 by decide), trivial⟩) rfl) (fun _ _ _ _ _ => pg_name (i := 20) sc_law.nd rfl (by first | exact .inl rfl | exact .inr rfl)) (fun _ _ _ _ _ => pts_yes) (fun _ _ _ _ _ => e_pair (e_ix ix_list m_ixL (e_varW (Var.s (Var.z))) (e_var (Var.z))) (e_ix ix_list m_ixL (e_varW (Var.s (Var.s (Var.z)))) (e_var (Var.z)))) (Sub.keep (Sub.keep (Sub.keep (Sub.keep (Sub.keep (Sub.nil)))))) (by exact ⟨(show 6 < 22 by decide), trivial⟩) rfl) (b_consT (c1 := [.ow 7 (List Int), .ow 6 (List (Int × Str)), .ow 5 (List Int), .ow 4 (List Str), .fz 2 Int, .ow 1 (List Int), .fz 0 Script]) (s_setO sc_law.nd (e_call (Γ := [.fz 0 Int, .bo 1 (List Int)]) (L2N.takes_of rfl rfl rfl rfl) (ok_law_draws T) (hr.mono (by decide)) T.g_law_draws T.F_law_draws.kp T.b_law_draws (a_cons (e_call (Γ := [.fz 0 Script, .fz 1 Int]) (L2N.takes_of rfl rfl rfl rfl) (ok_law_deed_cell T) (hr.mono (by decide)) T.g_law_deed_cell T.F_law_deed_cell.kp T.b_law_deed_cell (a_cons (e_var (Var.s (Var.s (Var.s (Var.s (Var.s (Var.z))))))) (a_cons (e_int) (a_nil)))) (a_consB (e_ob (e_op op_cat m_cat (e_ob (e_lst (l_cons (e_int) (l_cons (e_int) (l_cons (e_op op_add m_add (e_var (Var.s (Var.s (Var.s (Var.z))))) (e_int)) (l_nil (α := Int))))))) (e_ob (e_op op_rep m_rep (e_ob (e_lst (l_cons (e_var (Var.s (Var.s (Var.s (Var.z))))) (l_nil (α := Int))))) (e_var (Var.s (Var.s (Var.s (Var.z))))))))) (a_nil)))) (Sub.keep (Sub.keep (Sub.keep (Sub.keep (Sub.keep (Sub.keep (Sub.nil))))))) (by exact ⟨(show 7 < 22 by decide), trivial⟩) rfl) (b_consT (c1 := [.fz 8 Int, .ow 7 (List Int), .ow 6 (List (Int × Str)), .ow 5 (List Int), .ow 4 (List Str), .fz 2 Int, .ow 1 (List Int), .fz 0 Script]) (s_set sc_law.nd (e_int) (Sub.keep (Sub.keep (Sub.keep (Sub.keep (Sub.keep (Sub.keep (Sub.keep (Sub.nil)))))))) (by exact ⟨(show 8 < 22 by decide), trivial⟩) rfl) (b_consT (c1 := [.fz 8 Int, .ow 7 (List Int), .ow 6 (List (Int × Str)), .ow 5 (List Int), .ow 4 (List Str), .fz 2 Int, .ow 1 (List Int), .fz 0 Script]) (s_if (q_cmp op_ge m_ge (e_ix ix_list m_ixL (e_varW (Var.s (Var.z))) (e_int)) (e_int)) (b_cons (c1 := [.fz 8 Int, .ow 7 (List Int), .ow 6 (List (Int × Str)), .ow 5 (List Int), .ow 4 (List Str), .fz 2 Int, .ow 1 (List Int), .fz 0 Script]) (s_upd sc_law.nd (e_op op_add m_add (e_int) (e_ix ix_list m_ixL (e_varW (Var.s (Var.z))) (e_int))) (Var.z) (by exact ⟨(show 8 < 22 by decide), trivial⟩)) (b_nil (Sub.keep (Sub.keep (Sub.keep (Sub.keep (Sub.keep (Sub.keep (Sub.keep (Sub.keep (Sub.nil))))))))))) (b_nil (Sub.keep (Sub.keep (Sub.keep (Sub.keep (Sub.keep (Sub.keep (Sub.keep (Sub.keep (Sub.nil))))))))))) (b_frzT (m := m_law_b18) (Frz.keep (Frz.keep (Frz.frz (Frz.keep (Frz.keep (Frz.keep (Frz.keep (Frz.keep (Frz.nil))))))))) (b_consT (c1 := [.fz 9 (List (Int × Str)), .fz 8 Int, .ow 7 (List Int), .fz 6 (List (Int × Str)), .ow 5 (List Int), .ow 4 (List Str), .fz 2 Int, .ow 1 (List Int), .fz 0 Script]) (s_set sc_law.nd (e_call (Γ := [.fz 0 Script, .fz 1 (List (Int × Str)), .fz 2 Int]) (L2N.takes_of rfl rfl rfl rfl) (ok_law_run T) (hr.mono (by decide)) T.g_law_run T.F_law_run.kp T.b_law_run (a_cons (e_var (Var.s (Var.s (Var.s (Var.s (Var.s (Var.s (Var.s (Var.z))))))))) (a_cons (e_var (Var.s (Var.s (Var.z)))) (a_cons (e_var (Var.z)) (a_nil))))) (Sub.keep (Sub.keep (Sub.keep (Sub.keep (Sub.keep (Sub.keep (Sub.keep (Sub.keep (Sub.nil))))))))) (by exact ⟨(show 9 < 22 by decide), trivial⟩) rfl) (b_consT (c1 := [.ow 10 (List Int), .fz 9 (List (Int × Str)), .fz 8 Int, .ow 7 (List Int), .fz 6 (List (Int × Str)), .ow 5 (List Int), .ow 4 (List Str), .fz 2 Int, .ow 1 (List Int), .fz 0 Script]) (s_setO sc_law.nd (e_call (Γ := [.bo 0 (List Int)]) (L2N.takes_of rfl rfl rfl rfl) (ok_law_order T) (hr.mono (by decide)) T.g_law_order T.F_law_order.kp T.b_law_order (a_consB (e_varW (Var.s (Var.s (Var.s (Var.s (Var.z)))))) (a_nil))) (Sub.keep (Sub.keep (Sub.keep (Sub.keep (Sub.keep (Sub.keep (Sub.keep (Sub.keep (Sub.keep (Sub.nil)))))))))) (by exact ⟨(show 10 < 22 by decide), trivial⟩) rfl) (b_consT (c1 := [.ow 11 (List Int), .ow 10 (List Int), .fz 9 (List (Int × Str)), .fz 8 Int, .ow 7 (List Int), .fz 6 (List (Int × Str)), .ow 5 (List Int), .ow 4 (List Str), .fz 2 Int, .ow 1 (List Int), .fz 0 Script]) (s_lc (own := [("k", 20)]) (c2 := [.fz 20 Int, .fz 9 (List (Int × Str)), .ow 4 (List Str)]) (mt := fun _ => Rs.ok true) (me := m_law_e4) rfl sc_law.nd rfl rfl (sw_true rfl rfl rfl (by decide +kernel)) (i_listB rfl (e_varW (Var.z))) (blkOk_by (N := ["script", "modes", "count", "base", "names", "levels", "rows", "drawn", "width", "final", "order", "shares", "lists", "sheaf", "inorder", "numbers", "told", "again", "record", "end", "k", "row"]) (sc := defScope s_law) (by decide +kernel)) (Sub.skip (Sub.keep (Sub.skip (Sub.skip (Sub.skip (Sub.skip (Sub.keep (Sub.skip (Sub.skip (Sub.skip (Sub.nil))))))))))) rfl (gc_name (by exact ⟨(show 20 < 22 by decide), trivial⟩) rfl) (fun _ _ _ _ _ => pg_name (i := 20) sc_law.nd rfl (by first | exact .inl rfl | exact .inr rfl)) (fun _ _ _ _ _ => pts_yes) (fun _ _ _ _ _ => e_b1 call_len_seq m_lenL (by rfl) T.n_len bt_len (e_ob (e_lc (own := [("row", 21)]) (c2 := [.fz 21 (Int × Str), .fz 20 Int, .ow 4 (List Str)]) (mt := m_law_t2) (me := m_law_e3) rfl sc_law.nd (i_listB rfl (e_fb (e_var (Var.s (Var.z))))) (blkOk_by (by rfl)) (Sub.keep (Sub.skip (Sub.keep (Sub.nil)))) rfl (gc_name (by exact ⟨(show 21 < 22 by decide), trivial⟩) rfl) (fun _ _ _ _ _ => pg_name (i := 21) sc_law.nd rfl (by first | exact .inl rfl | exact .inr rfl)) (fun _ _ _ _ _ => pts_one (q_cmp op_eq m_eqS (e_snd rfl (e_var (Var.z))) (e_ix ix_list m_ixL (e_varW (Var.s (Var.s (Var.z)))) (e_var (Var.s (Var.z)))))) (fun _ _ _ _ _ => e_var (Var.z))))) (Sub.keep (Sub.keep (Sub.keep (Sub.keep (Sub.keep (Sub.keep (Sub.keep (Sub.keep (Sub.keep (Sub.keep (Sub.nil))))))))))) (by exact ⟨(show 11 < 22 by decide), trivial⟩) rfl) (b_frzT (m := m_law_b17) (Frz.frz (Frz.keep (Frz.keep (Frz.keep (Frz.keep (Frz.keep (Frz.keep (Frz.keep (Frz.keep (Frz.keep (Frz.keep (Frz.nil)))))))))))) (b_consT (c1 := [.ow 12 (List (List Int)), .fz 11 (List Int), .ow 10 (List Int), .fz 9 (List (Int × Str)), .fz 8 Int, .ow 7 (List Int), .fz 6 (List (Int × Str)), .ow 5 (List Int), .ow 4 (List Str), .fz 2 Int, .ow 1 (List Int)]) (s_setO sc_law.nd (e_call (Γ := [.fz 0 Int, .fz 1 (List Int)]) (L2N.takes_of rfl rfl rfl rfl) (ok_law_lists T) (hr.mono (by decide)) T.g_law_lists T.F_law_lists.kp T.b_law_lists (a_cons (e_call (Γ := [.fz 0 Script, .fz 1 Int]) (L2N.takes_of rfl rfl rfl rfl) (ok_law_deed_cell T) (hr.mono (by decide)) T.g_law_deed_cell T.F_law_deed_cell.kp T.b_law_deed_cell (a_cons (e_var (Var.s (Var.s (Var.s (Var.s (Var.s (Var.s (Var.s (Var.s (Var.s (Var.s (Var.z)))))))))))) (a_cons (e_int) (a_nil)))) (a_cons (e_var (Var.z)) (a_nil)))) (Sub.keep (Sub.keep (Sub.keep (Sub.keep (Sub.keep (Sub.keep (Sub.keep (Sub.keep (Sub.keep (Sub.keep (Sub.skip (Sub.nil)))))))))))) (by exact ⟨(show 12 < 22 by decide), trivial⟩) rfl) (b_consT (c1 := [.ow 13 Sheaf, .ow 12 (List (List Int)), .fz 11 (List Int), .ow 10 (List Int), .fz 9 (List (Int × Str)), .fz 8 Int, .ow 7 (List Int), .fz 6 (List (Int × Str)), .ow 5 (List Int), .ow 4 (List Str), .fz 2 Int, .ow 1 (List Int)]) (s_setO sc_law.nd (e_make (C := "Sheaf") (Γ := [.bo 1 (List (Int × Str))]) (cm_Sheaf T) T.mk_Sheaf (L2N.takes_of rfl rfl rfl rfl) (ok_Sheaf_init T) (hr.mono (by decide)) T.g_Sheaf T.b_Sheaf_init (a_consB (e_ob (e_t1 call_list_of m_list (by rfl) T.n_list bt_list (e_fb (e_var (Var.s (Var.s (Var.s (Var.s (Var.s (Var.s (Var.z))))))))))) (a_nil))) (Sub.keep (Sub.keep (Sub.keep (Sub.keep (Sub.keep (Sub.keep (Sub.keep (Sub.keep (Sub.keep (Sub.keep (Sub.keep (Sub.nil)))))))))))) (by exact ⟨(show 13 < 22 by decide), trivial⟩) rfl) (b_consT (c1 := [.ow 14 (List Int), .ow 13 Sheaf, .ow 12 (List (List Int)), .fz 11 (List Int), .ow 10 (List Int), .fz 9 (List (Int × Str)), .fz 8 Int, .ow 7 (List Int), .fz 6 (List (Int × Str)), .ow 5 (List Int), .ow 4 (List Str), .fz 2 Int, .ow 1 (List Int)]) (s_lc (own := [("k", 20)]) (c2 := [.fz 20 Int, .ow 5 (List Int)]) (mt := fun _ => Rs.ok true) (me := m_law_e5) rfl sc_law.nd rfl rfl (sw_true rfl rfl rfl (by decide +kernel)) (i_listB rfl (e_varW (Var.s (Var.s (Var.s (Var.z)))))) (blkOk_by (N := ["script", "modes", "count", "base", "names", "levels", "rows", "drawn", "width", "final", "order", "shares", "lists", "sheaf", "inorder", "numbers", "told", "again", "record", "end", "k", "row"]) (sc := defScope s_law) (by decide +kernel)) (Sub.skip (Sub.skip (Sub.skip (Sub.skip (Sub.skip (Sub.skip (Sub.skip (Sub.skip (Sub.keep (Sub.skip (Sub.skip (Sub.skip (Sub.nil))))))))))))) rfl (gc_name (by exact ⟨(show 20 < 22 by decide), trivial⟩) rfl) (fun _ _ _ _ _ => pg_name (i := 20) sc_law.nd rfl (by first | exact .inl rfl | exact .inr rfl)) (fun _ _ _ _ _ => pts_yes) (fun _ _ _ _ _ => e_ix ix_list m_ixL (e_varW (Var.s (Var.z))) (e_var (Var.z))) (Sub.keep (Sub.keep (Sub.keep (Sub.keep (Sub.keep (Sub.keep (Sub.keep (Sub.keep (Sub.keep (Sub.keep (Sub.keep (Sub.keep (Sub.nil))))))))))))) (by exact ⟨(show 14 < 22 by decide), trivial⟩) rfl) (b_frzT (m := m_law_b16) (Frz.keep (Frz.keep (Frz.frz (Frz.keep (Frz.keep (Frz.keep (Frz.keep (Frz.keep (Frz.keep (Frz.keep (Frz.keep (Frz.keep (Frz.keep (Frz.nil)))))))))))))) (b_goT (c1 := [.ow 14 (List Int), .ow 13 Sheaf, .fz 12 (List (List Int)), .fz 11 (List Int), .ow 10 (List Int), .fz 9 (List (Int × Str)), .fz 8 Int, .ow 7 (List Int), .fz 6 (List (Int × Str)), .ow 5 (List Int), .ow 4 (List Str), .fz 2 Int, .ow 1 (List Int)]) (m2 := m_law_b15) (s_forG (mb := m_law_l8) (passes_of rfl) rfl (by first | exact .inl rfl | exact .inr rfl) (i_list rfl (e_var (Var.s (Var.s (Var.z))))) (pg_name (i := 15) sc_law.nd rfl (by first | exact .inl rfl | exact .inr rfl)) (g_name (by exact ⟨(show 15 < 22 by decide), trivial⟩) rfl) (b_goG (c1 := [.fz 15 (List Int), .ow 14 (List Int), .ow 13 Sheaf, .fz 12 (List (List Int)), .fz 11 (List Int), .ow 10 (List Int), .fz 9 (List (Int × Str)), .fz 8 Int, .ow 7 (List Int), .fz 6 (List (Int × Str)), .ow 5 (List Int), .ow 4 (List Str), .fz 2 Int, .ow 1 (List Int)]) (m2 := m_law_b7) (s_forG (mb := m_law_l6) (passes_of rfl) rfl (by first | exact .inl rfl | exact .inr rfl) (i_list rfl (e_of (e_lst (l_cons (e_op op_sub m_sub (e_op op_add m_add (e_b1 (cr_max rfl) m_max (by rfl) T.n_max bt_max (e_varW (Var.s (Var.s (Var.s (Var.s (Var.s (Var.s (Var.s (Var.s (Var.s (Var.s (Var.z))))))))))))) (e_int)) (e_ix ix_list m_ixL (e_varW (Var.s (Var.s (Var.s (Var.s (Var.s (Var.s (Var.s (Var.s (Var.z)))))))))) (e_int))) (l_cons (e_fst rfl (e_ix ix_list m_ixL (e_fb (e_var (Var.s (Var.s (Var.s (Var.s (Var.s (Var.s (Var.z))))))))) (e_int))) (l_cons (e_op op_sub m_sub (e_fst rfl (e_ix ix_list m_ixL (e_fb (e_var (Var.s (Var.s (Var.s (Var.s (Var.s (Var.s (Var.z))))))))) (e_int))) (e_int)) (l_nil (α := Int)))))))) (pg_name (i := 19) sc_law.nd rfl (by first | exact .inl rfl | exact .inr rfl)) (g_name (by exact ⟨(show 19 < 22 by decide), trivial⟩) rfl) (b_ifG (q_not (q_val (e_call (Γ := [.bo 0 Sheaf, .bo 1 (List Int), .fz 2 Int, .bo 3 (List Int), .fz 4 Int, .fz 5 Bool]) (L2N.takes_of rfl rfl rfl rfl) (ok_law_right T) (hr.mono (by decide)) T.g_law_right T.F_law_right.kp T.b_law_right (a_consB (e_varW (Var.s (Var.s (Var.s (Var.z))))) (a_consB (e_varW (Var.s (Var.s (Var.z)))) (a_cons (e_var (Var.z)) (a_consB (e_fb (e_var (Var.s (Var.z)))) (a_cons (e_var (Var.s (Var.s (Var.s (Var.s (Var.s (Var.s (Var.s (Var.s (Var.z)))))))))) (a_cons (e_cmp op_eq m_eqI (e_ix ix_list m_ixL (e_varW (Var.s (Var.s (Var.s (Var.s (Var.s (Var.s (Var.s (Var.s (Var.s (Var.z))))))))))) (e_int)) (e_int)) (a_nil)))))))))) (t_ret (e_bl)) (b_nilG (Sub.skip (Sub.keep (Sub.keep (Sub.keep (Sub.keep (Sub.keep (Sub.keep (Sub.keep (Sub.keep (Sub.keep (Sub.keep (Sub.keep (Sub.keep (Sub.keep (Sub.keep (Sub.nil))))))))))))))))))) (b_ifG (q_not (q_val (e_call (Γ := [.bo 0 Sheaf, .bo 1 (List Int), .fz 2 Int, .bo 3 (List Int), .fz 4 Int, .fz 5 Bool]) (L2N.takes_of rfl rfl rfl rfl) (ok_law_right T) (hr.mono (by decide)) T.g_law_right T.F_law_right.kp T.b_law_right (a_consB (e_varW (Var.s (Var.s (Var.z)))) (a_consB (e_varW (Var.s (Var.z))) (a_cons (e_fst rfl (e_ix ix_list m_ixL (e_fb (e_var (Var.s (Var.s (Var.s (Var.s (Var.s (Var.s (Var.z))))))))) (e_int))) (a_consB (e_fb (e_var (Var.z))) (a_cons (e_op op_add m_add (e_int) (e_op op_mod m_mod (e_t1 call_int1 m_int (by rfl) T.n_int bt_int (e_var (Var.s (Var.s (Var.s (Var.s (Var.s (Var.s (Var.s (Var.z)))))))))) (e_int))) (a_cons (e_bl) (a_nil)))))))))) (t_ret (e_bl)) (b_nilG (Sub.skip (Sub.keep (Sub.keep (Sub.keep (Sub.keep (Sub.keep (Sub.keep (Sub.keep (Sub.keep (Sub.keep (Sub.keep (Sub.keep (Sub.keep (Sub.keep (Sub.nil))))))))))))))))))) (b_consT (c1 := [.ow 16 (List Int), .ow 13 Sheaf, .fz 12 (List (List Int)), .fz 11 (List Int), .ow 10 (List Int), .fz 9 (List (Int × Str)), .fz 8 Int, .ow 7 (List Int), .fz 6 (List (Int × Str)), .ow 5 (List Int), .ow 4 (List Str), .fz 2 Int, .ow 1 (List Int)]) (s_setO sc_law.nd (e_call (Γ := [.bo 0 Sheaf]) (L2N.takes_of rfl rfl rfl rfl) (ok_outcome_order T) (hr.mono (by decide)) T.g_outcome_order T.F_outcome_order.kp T.b_outcome_order (a_consB (e_varW (Var.s (Var.z))) (a_nil))) (Sub.skip (Sub.keep (Sub.keep (Sub.keep (Sub.keep (Sub.keep (Sub.keep (Sub.keep (Sub.keep (Sub.keep (Sub.keep (Sub.keep (Sub.keep (Sub.nil)))))))))))))) (by exact ⟨(show 16 < 22 by decide), trivial⟩) rfl) (b_ifT (q_not (q_val (e_call (Γ := [.bo 0 (List Int), .bo 1 (List Int)]) (L2N.takes_of rfl rfl rfl rfl) (ok_law_same_integers T) (hr.mono (by decide)) T.g_law_same_integers T.F_law_same_integers.kp T.b_law_same_integers (a_consB (e_varW (Var.z)) (a_consB (e_varW (Var.s (Var.s (Var.s (Var.s (Var.z)))))) (a_nil)))))) (t_ret (e_bl)) (b_consT (c1 := [.ow 16 (List Int), .ow 13 Sheaf, .fz 12 (List (List Int)), .fz 11 (List Int), .ow 10 (List Int), .fz 9 (List (Int × Str)), .fz 8 Int, .ow 7 (List Int), .fz 6 (List (Int × Str)), .ow 5 (List Int), .ow 4 (List Str), .fz 2 Int, .ow 1 (List Int)]) (s_append (Var.z) (e_ix ix_list m_ixL (e_varW (Var.z)) (e_int))) (b_consT (c1 := [.ow 16 (List Int), .ow 13 Sheaf, .fz 12 (List (List Int)), .fz 11 (List Int), .ow 10 (List Int), .fz 9 (List (Int × Str)), .fz 8 Int, .ow 7 (List Int), .fz 6 (List (Int × Str)), .ow 5 (List Int), .ow 4 (List Str), .fz 2 Int, .ow 1 (List Int)]) (s_store (Var.z) (e_var (Var.s (Var.s (Var.s (Var.s (Var.s (Var.s (Var.s (Var.s (Var.s (Var.s (Var.s (Var.z))))))))))))) (e_int)) (b_ifT (PW.pt (q_or (q_not (q_val (e_call (Γ := [.bo 0 (List Int), .bo 1 (List Int)]) (L2N.takes_of rfl rfl rfl rfl) (ok_law_same_integers T) (hr.mono (by decide)) T.g_law_same_integers T.F_law_same_integers.kp T.b_law_same_integers (a_consB (e_ob (e_call (Γ := [.bo 0 Sheaf]) (L2N.takes_of rfl rfl rfl rfl) (ok_outcome_order T) (hr.mono (by decide)) T.g_outcome_order T.F_outcome_order.kp T.b_outcome_order (a_consB (e_varW (Var.s (Var.z))) (a_nil)))) (a_consB (e_varW (Var.s (Var.s (Var.s (Var.s (Var.z)))))) (a_nil)))))) (q_or1 (q_cmp (op_neD hr.units) m_neB (e_ob (e_meth0 ins_sheaf (cm_Sheaf T) T.cls_Sheaf T.me_Sheaf_rows (by decide) (L2N.takes_of rfl rfl rfl rfl) (ok_Sheaf_rows T) (hr.mono (by decide)) T.b_Sheaf_rows (e_varW (Var.s (Var.z))))) (e_fb (e_var (Var.s (Var.s (Var.s (Var.s (Var.s (Var.s (Var.s (Var.s (Var.z))))))))))))))) (t_ret (e_bl)) (b_ifT (q_cmp op_gt m_gt (e_ix ix_list m_ixL (e_varW (Var.s (Var.s (Var.s (Var.s (Var.s (Var.s (Var.s (Var.s (Var.s (Var.s (Var.s (Var.s (Var.z)))))))))))))) (e_int)) (e_int)) (t_ret (e_bl)) (b_consT (c1 := [.ow 17 (List (Int × Str)), .fz 12 (List (List Int)), .fz 11 (List Int), .fz 9 (List (Int × Str)), .fz 8 Int, .ow 7 (List Int), .ow 5 (List Int)]) (s_lc (own := [("k", 20)]) (c2 := [.fz 20 Int, .ow 7 (List Int), .ow 5 (List Int), .ow 4 (List Str)]) (mt := fun _ => Rs.ok true) (me := m_law_e9) rfl sc_law.nd rfl rfl (sw_true rfl rfl rfl (by decide +kernel)) (i_rng1 (fr := .g) (by rfl) T.n_range (e_var (Var.s (Var.s (Var.s (Var.s (Var.s (Var.s (Var.s (Var.s (Var.s (Var.s (Var.s (Var.z)))))))))))))) (blkOk_by (N := ["script", "modes", "count", "base", "names", "levels", "rows", "drawn", "width", "final", "order", "shares", "lists", "sheaf", "inorder", "numbers", "told", "again", "record", "end", "k", "row"]) (sc := defScope s_law) (by decide +kernel)) (Sub.skip (Sub.skip (Sub.skip (Sub.skip (Sub.skip (Sub.skip (Sub.skip (Sub.keep (Sub.skip (Sub.keep (Sub.keep (Sub.skip (Sub.skip (Sub.nil)))))))))))))) rfl (gc_name (by exact ⟨(show 20 < 22 by decide), trivial⟩) rfl) (fun _ _ _ _ _ => pg_name (i := 20) sc_law.nd rfl (by first | exact .inl rfl | exact .inr rfl)) (fun _ _ _ _ _ => pts_yes) (fun _ _ _ _ _ => e_pair (e_ix ix_list m_ixL (e_varW (Var.s (Var.s (Var.z)))) (e_var (Var.z))) (e_ix ix_list m_ixL (e_varW (Var.s (Var.s (Var.s (Var.z))))) (e_ix ix_list m_ixL (e_varW (Var.s (Var.z))) (e_op op_add m_add (e_int) (e_var (Var.z)))))) (Sub.skip (Sub.skip (Sub.keep (Sub.keep (Sub.skip (Sub.keep (Sub.keep (Sub.keep (Sub.skip (Sub.keep (Sub.skip (Sub.skip (Sub.skip (Sub.nil)))))))))))))) (by exact ⟨(show 17 < 22 by decide), trivial⟩) rfl) (b_consT (c1 := [.fz 18 (Option Str), .ow 17 (List (Int × Str)), .fz 12 (List (List Int)), .fz 11 (List Int), .fz 9 (List (Int × Str)), .fz 8 Int, .ow 7 (List Int), .ow 5 (List Int)]) (s_set sc_law.nd (e_call (Γ := [.bo 0 (List (Int × Str))]) (L2N.takes_of rfl rfl rfl rfl) (ok_law_repeated T) (hr.mono (by decide)) T.g_law_repeated T.F_law_repeated.kp T.b_law_repeated (a_consB (e_varW (Var.z)) (a_nil))) (Sub.keep (Sub.keep (Sub.keep (Sub.keep (Sub.keep (Sub.keep (Sub.keep (Sub.nil)))))))) (by exact ⟨(show 18 < 22 by decide), trivial⟩) rfl) (b_goT (c1 := [.fz 18 (Option Str), .ow 17 (List (Int × Str)), .fz 12 (List (List Int)), .fz 11 (List Int), .fz 9 (List (Int × Str)), .fz 8 Int, .ow 7 (List Int), .ow 5 (List Int)]) (m2 := m_law_b14) (s_forG (mb := m_law_l13) (passes_of rfl) rfl (by first | exact .inl rfl | exact .inr rfl) (i_list rfl (e_of (e_lst (l_cons (e_nonO) (l_cons (e_some (e_var (Var.s (Var.s (Var.s (Var.z)))))) (l_cons (e_some (e_ix ix_list m_ixL (e_fb (e_var (Var.s (Var.s (Var.z))))) (e_int))) (l_nil (α := (Option (List Int)))))))))) (pg_name (i := 15) sc_law.nd rfl (by first | exact .inl rfl | exact .inr rfl)) (g_name (by exact ⟨(show 15 < 22 by decide), trivial⟩) rfl) (b_goG (c1 := [.fz 15 (Option (List Int)), .fz 18 (Option Str), .ow 17 (List (Int × Str)), .fz 12 (List (List Int)), .fz 11 (List Int), .fz 9 (List (Int × Str)), .fz 8 Int, .ow 7 (List Int), .ow 5 (List Int)]) (m2 := m_law_b12) (s_forG (mb := m_law_l11) (passes_of rfl) rfl (by first | exact .inl rfl | exact .inr rfl) (i_list rfl (e_of (e_lst (l_cons (e_fst rfl (e_ix ix_list m_ixL (e_fb (e_var (Var.s (Var.s (Var.s (Var.s (Var.s (Var.z)))))))) (e_int))) (l_cons (e_op op_sub m_sub (e_op op_add m_add (e_b1 (cr_max rfl) m_max (by rfl) T.n_max bt_max (e_varW (Var.s (Var.s (Var.s (Var.s (Var.s (Var.s (Var.s (Var.s (Var.z))))))))))) (e_int)) (e_ix ix_list m_ixL (e_varW (Var.s (Var.s (Var.s (Var.s (Var.s (Var.s (Var.s (Var.z))))))))) (e_int))) (l_cons (e_op op_sub m_sub (e_fst rfl (e_ix ix_list m_ixL (e_fb (e_var (Var.s (Var.s (Var.s (Var.s (Var.s (Var.z)))))))) (e_int))) (e_int)) (l_nil (α := Int)))))))) (pg_name (i := 19) sc_law.nd rfl (by first | exact .inl rfl | exact .inr rfl)) (g_name (by exact ⟨(show 19 < 22 by decide), trivial⟩) rfl) (b_goG (c1 := [.fz 15 (Option (List Int)), .fz 18 (Option Str), .ow 17 (List (Int × Str)), .fz 12 (List (List Int)), .fz 11 (List Int), .fz 9 (List (Int × Str)), .fz 8 Int, .ow 7 (List Int), .ow 5 (List Int)]) (m2 := m_law_b10) (s_ifG (q_cmp op_notN (m_notN nn_str) (e_var (Var.s (Var.s (Var.z)))) (e_non)) (b_ifG (q_not (q_val (e_call (Γ := [.bo 0 Sheaf, .fz 1 Int, .fz 2 (Option (List Int)), .fz 3 Int, .fz 4 Bool, .fz 5 Str]) (L2N.takes_of rfl rfl rfl rfl) (ok_law_refused T) (hr.mono (by decide)) T.g_law_refused T.F_law_refused.kp T.b_law_refused (a_consB (e_ob (e_make (C := "Sheaf") (Γ := [.bo 1 (List (Int × Str))]) (cm_Sheaf T) T.mk_Sheaf (L2N.takes_of rfl rfl rfl rfl) (ok_Sheaf_init T) (hr.mono (by decide)) T.g_Sheaf T.b_Sheaf_init (a_consB (e_ob (e_t1 call_list_of m_list (by rfl) T.n_list bt_list (e_varW (Var.s (Var.s (Var.s (Var.z))))))) (a_nil)))) (a_cons (e_var (Var.z)) (a_cons (e_var (Var.s (Var.z))) (a_cons (e_var (Var.s (Var.s (Var.s (Var.s (Var.s (Var.s (Var.s (Var.z))))))))) (a_cons (e_cmp op_eq m_eqI (e_ix ix_list m_ixL (e_varW (Var.s (Var.s (Var.s (Var.s (Var.s (Var.s (Var.s (Var.s (Var.z)))))))))) (e_int)) (e_int)) (a_cons (e_narF (e_var (Var.s (Var.s (Var.z))))) (a_nil)))))))))) (t_ret (e_bl)) (b_nilG (Sub.skip (Sub.keep (Sub.keep (Sub.keep (Sub.keep (Sub.keep (Sub.keep (Sub.keep (Sub.keep (Sub.keep (Sub.nil))))))))))))) (b_sg (b_nil (Sub.skip (Sub.keep (Sub.keep (Sub.keep (Sub.keep (Sub.keep (Sub.keep (Sub.keep (Sub.keep (Sub.keep (Sub.nil)))))))))))))) (b_nilG (Sub.keep (Sub.keep (Sub.keep (Sub.keep (Sub.keep (Sub.keep (Sub.keep (Sub.keep (Sub.keep (Sub.nil))))))))))))) (b_nilG (Sub.skip (Sub.keep (Sub.keep (Sub.keep (Sub.keep (Sub.keep (Sub.keep (Sub.keep (Sub.keep (Sub.nil))))))))))))) (t_ret (e_bl)))))))))))))))))))))))))))))))
end
end Wk
set_option Elab.async false
set_option linter.all false
set_option maxRecDepth 100000
set_option maxHeartbeats 400000
namespace Wk
open PySem PySem.Spec PyProof.Rows L2 Wm
theorem cell_ok (ns : List Int) (k : Nat) : ∃ v : Int, m_law_cell (⟨ns⟩, (k : Int), ()) = .ok v := by
  unfold m_law_cell
  simp only [Rs.bo]
  by_cases h : (k : Int) < (ns.length : Int)
  · rw [if_pos (by simpa using h)]
    have h' : k < ns.length := by omega
    rw [getI_nat (List.getElem?_eq_getElem h')]
    exact ⟨_, rfl⟩
  · rw [if_neg (by simpa using h)]
    exact ⟨_, rfl⟩

/-- each draw stands under its size -/
structure Drawn (sizes ds : List Int) : Prop where
  len : ds.length = sizes.length
  at' : ∀ (i : Nat) (s : Int), sizes[i]? = some s → ∃ d : Int, ds[i]? = some d ∧ 0 ≤ d ∧ d < s
theorem draws_step (sizes : List Int) (hs : ∀ s ∈ sizes, 0 < s ∧ s < 1000000) (hl : sizes.length ≤ 1000000) (cell : Int) (packed : Bool) (left : Int) (drawn : List Int) (i : Nat) (s : Int) (hi : sizes[i]? = some s) (hd : drawn.length = i) :
    ∃ left' d, m_law_draws_l1 ((i : Int), packed, left, drawn, cell, sizes, ()) = .ok (packed, left', drawn ++ [d], cell, sizes, ()) ∧ 0 ≤ d ∧ d < s := by
  obtain ⟨h0, h1⟩ := hs s (List.mem_of_getElem? hi)
  have hil : i < sizes.length := (List.getElem?_eq_some_iff.mp hi).1
  unfold m_law_draws_l1
  simp only [Rs.bo, getI_nat hi, if_pos h0, if_pos (CDiv_of h0 (show s < 1000000000 by omega)), appI_ok (show drawn.length < 16777216 by omega)]
  have ht : (if packed = true then Rs.ok (decide (0 < left)) else Rs.ok false) = Rs.ok (packed && decide (0 < left)) := by cases packed <;> rfl
  rw [ht]
  simp only [Rs.bo]
  split
  · exact ⟨_, _, rfl, Int.emod_nonneg _ (by omega), Int.emod_lt_of_pos _ h0⟩
  · rw [if_pos (CMul_l (by decide) (by decide))]
    simp only [Rs.bo]
    rw [if_pos (by decide)]
    simp only [Rs.bo]
    generalize hm1 : (cell + 7919 * (i : Int) + 13) % 2147483647 = m1
    have b1 := Int.emod_nonneg (cell + 7919 * (i : Int) + 13) (show (2147483647 : Int) ≠ 0 by decide)
    have b2 := Int.emod_lt_of_pos (cell + 7919 * (i : Int) + 13) (show (0 : Int) < 2147483647 by decide)
    rw [hm1] at b1 b2
    rw [if_pos (CMul_l (by omega) (by omega))]
    simp only [Rs.bo]
    rw [if_pos (by decide)]
    simp only [Rs.bo]
    generalize hm2 : (m1 * (m1 + 48271)) % 2147483629 = m2
    have c1 := Int.emod_nonneg (m1 * (m1 + 48271)) (show (2147483629 : Int) ≠ 0 by decide)
    have c2 := Int.emod_lt_of_pos (m1 * (m1 + 48271)) (show (0 : Int) < 2147483629 by decide)
    rw [hm2] at c1 c2
    rw [if_pos (CMul_l (by omega) (by omega))]
    simp only [Rs.bo]
    rw [if_pos (CMul_l (by decide) (by decide))]
    simp only [Rs.bo]
    rw [if_pos (by decide)]
    simp only [Rs.bo]
    rw [if_pos (CDiv_of (by decide) (by decide))]
    simp only [Rs.bo, getI_nat hi, if_pos h0, appI_ok (show drawn.length < 16777216 by omega)]
    exact ⟨_, _, rfl, Int.emod_nonneg _ (by omega), Int.emod_lt_of_pos _ h0⟩
theorem draws_ok (cell : Int) (sizes : List Int) (hs : ∀ s ∈ sizes, 0 < s ∧ s < 1000000) (hl : sizes.length ≤ 1000000) : ∃ ds, m_law_draws (cell, sizes, ()) = .ok ds ∧ Drawn sizes ds := by
  unfold m_law_draws
  simp only [Rs.bo]
  rw [if_pos (by decide)]
  simp only [Rs.bo]
  rw [Rng_nat (by omega)]
  simp only [Rs.bo]
  obtain ⟨g, e, packed, left, drawn, rfl, hd, hv⟩ := fold_inv (f := fun γ x => m_law_draws_l1 (x, γ)) (xs := rng 0 (sizes.length : Int)) (g := (decide ((10 : Int) ^ (Int.toNat 18) ≤ cell), cell, ([] : List Int), cell, sizes, ()))
    (fun i g => ∃ packed left drawn, g = (packed, left, drawn, cell, sizes, ()) ∧ drawn.length = i ∧ ∀ j s, j < i → sizes[j]? = some s → ∃ d, drawn[j]? = some d ∧ 0 ≤ d ∧ d < s)
    ⟨_, _, _, rfl, rfl, fun j s hj => absurd hj (Nat.not_lt_zero j)⟩ (by
      rintro i g a ha ⟨packed, left, drawn, rfl, hd, hv⟩
      obtain ⟨hi, rfl⟩ := rng_get ha
      have hi' : i < sizes.length := by omega
      obtain ⟨left', d, e, h0, h1⟩ := draws_step sizes hs hl cell packed left drawn i _ (List.getElem?_eq_getElem hi') hd
      refine ⟨_, by rw [show (0 : Int) + (i : Int) = (i : Int) by omega]; exact e, packed, left', drawn ++ [d], rfl, by simp [hd], fun j s hj hjs => ?_⟩
      by_cases hji : j < i
      · obtain ⟨d', k1, k2, k3⟩ := hv j s hji hjs
        exact ⟨d', by rw [List.getElem?_append_left (by omega)]; exact k1, k2, k3⟩
      · have : j = i := by omega
        subst this
        rw [List.getElem?_eq_getElem hi'] at hjs
        cases hjs
        exact ⟨d, by rw [List.getElem?_append_right (by omega), hd]; simp, h0, h1⟩)
  rw [e]
  refine ⟨drawn, rfl, by rw [hd, rng0_len], fun i s hi => hv i s ?_ hi⟩
  rw [rng0_len]
  exact (List.getElem?_eq_some_iff.mp hi).1
theorem Drawn.get {sizes ds : List Int} (h : Drawn sizes ds) {i : Nat} {s : Int} (hi : sizes[i]? = some s) : ∃ d : Int, getI ds (i : Int) = .ok d ∧ ds[i]? = some d ∧ 0 ≤ d ∧ d < s := by
  obtain ⟨d, e, h0, h1⟩ := h.at' i s hi
  exact ⟨d, getI_nat e, e, h0, h1⟩

theorem cell_ex (s : Script) (k : Int) (h : 0 ≤ k) : ∃ v, m_law_cell (s, k, ()) = .ok v := by
  obtain ⟨n, rfl⟩ := Int.eq_ofNat_of_zero_le h
  exact cell_ok s.ns n
theorem Drawn.g {sizes ds : List Int} (h : Drawn sizes ds) (k : Int) {s : Int} (h0 : 0 ≤ k) (hs : sizes[k.toNat]? = some s) : ∃ d, getI ds k = .ok d ∧ 0 ≤ d ∧ d < s := by
  obtain ⟨d, e, _, l, u⟩ := h.get hs
  exact ⟨d, by rw [← e, Int.toNat_of_nonneg h0], l, u⟩

theorem comp_some {α β : Type} {t : α → Rs Bool} {f : α → Rs β} (P : β → Prop) : ∀ {xs : List α}, (∀ x ∈ xs, ∃ b, t x = .ok b ∧ (b = true → ∃ y, f x = .ok y ∧ P y)) → ∃ ys, Rs.comp t f xs = .ok ys ∧ ys.length ≤ xs.length ∧ ∀ y ∈ ys, P y
  | [], _ => ⟨[], rfl, Nat.le_refl _, fun _ h => by cases h⟩
  | x :: xs, h => by
    obtain ⟨b, e1, hb⟩ := h x List.mem_cons_self
    obtain ⟨ys, e2, l, hy⟩ := comp_some P (xs := xs) fun z hz => h z (List.mem_cons_of_mem _ hz)
    unfold Rs.comp
    rw [e1]
    cases b with
    | false => exact ⟨ys, e2, Nat.le_succ_of_le l, hy⟩
    | true =>
      obtain ⟨y, e3, hp⟩ := hb rfl
      refine ⟨y :: ys, ?_, Nat.succ_le_succ l, fun z hz => ?_⟩
      · show (Rs.nox (f x)).bind (fun y => (Rs.comp t f xs).bind fun ys => .ok (y :: ys)) = _
        rw [e3, e2]
        rfl
      · rcases List.mem_cons.mp hz with e | e
        · rw [e]; exact hp
        · exact hy z e
theorem cutI_len {α : Type} (xs : List α) (lo hi : Option Int) : (cutI xs lo hi).length ≤ xs.length := by
  unfold cutI
  rw [List.length_take, List.length_drop]
  omega
/-- over range(n), the test and the term fine at each place -/
theorem comp_rng {n : Int} (h0 : 0 ≤ n) (hn : n ≤ 16777216) {t : Int → Rs Bool} {f : Int → Rs β} (P : β → Prop) (h : ∀ x, 0 ≤ x → x < n → ∃ b, t x = .ok b ∧ (b = true → ∃ y, f x = .ok y ∧ P y)) :
    ∃ ys, ((Rng 0 n).bind fun xs => if xs.length ≤ 16777216 then Rs.comp t f xs else Rs.no) = .ok ys ∧ (ys.length : Int) ≤ n ∧ ∀ y ∈ ys, P y := by
  rw [Rng_ok (by omega) (by omega) (by omega) (by omega)]
  simp only [Rs.bo]
  rw [if_pos (by rw [rng_len]; omega)]
  obtain ⟨ys, e, l, hy⟩ := comp_some P (xs := rng 0 n) (t := t) (f := f) fun x hx => by
    have := mem_rng.mp hx
    exact h x this.1 this.2
  rw [rng_len] at l
  exact ⟨ys, e, by omega, hy⟩

/-- the sizes that the names are drawn by -/
def nameSizes (n : Nat) : List Int := [2, 36, 35] ++ (List.replicate n [7, 36, 36, 36]).flatten
theorem nameSizes_at {n k j : Nat} (hk : k < n) (hj : j < 4) : (nameSizes n)[3 + 4 * k + j]? = ([7, 36, 36, 36] : List Int)[j]? := by
  unfold nameSizes
  rw [List.getElem?_append_right (by simp; omega), rep_get n _ (by simp; omega)]
  congr 1
  simp
  omega
def letter (i : Int) : Nat := LET.cps.toList.getD i.toNat 0
theorem letter_inj {i j : Int} (i0 : 0 ≤ i) (i1 : i < 36) (j0 : 0 ≤ j) (j1 : j < 36) (h : letter i = letter j) : i = j := by
  have key : ∀ a b : Fin 36, LET.cps.toList.getD a.val 0 = LET.cps.toList.getD b.val 0 → a = b := by decide +kernel
  have := key ⟨i.toNat, by omega⟩ ⟨j.toNat, by omega⟩ h
  have := congrArg Fin.val this
  simp only at this
  omega
theorem letter_get {k : Int} (h0 : 0 ≤ k) (h1 : k < 36) : getI (chars LET) k = .ok ⟨#[letter k]⟩ ∧ Sg ⟨#[letter k]⟩ := by
  obtain ⟨i, rfl⟩ := Int.eq_ofNat_of_zero_le h0
  have hl : LET.cps.toList.length = 36 := by decide +kernel
  have hi : LET.cps.toList[i]? = some (letter (i : Int)) := by
    unfold letter
    rw [Int.toNat_natCast, List.getD_eq_getElem?_getD, List.getElem?_eq_getElem (by omega)]
    rfl
  exact ⟨getI_nat (chars_get hi), fun d hd => by
    have : d = letter (i : Int) := by simpa using hd
    rw [this]; exact List.mem_of_getElem? hi⟩
/-- what the k-th name is told by -/
def Told (n : Nat) (d0 d1 d2 : Int) (k : Nat) (t : Str) : Prop :=
  if d0 = 0 ∧ (n : Int) * (1 + d2 / 5) ≤ 36 then t.cps.toList = [letter ((d1 + (k : Int) * (1 + d2 / 5)) % 36)]
  else if d2 % 2 = 0 then ∃ fr, t.cps.toList = fr ++ [letter ((36 * d1 + d2 + 7 * (k : Int)) % 1296 / 36), letter ((36 * d1 + d2 + 7 * (k : Int)) % 1296 % 36)]
  else ∃ fr, t.cps.toList = [letter ((36 * d1 + d2 + 7 * (k : Int)) % 1296 / 36), letter ((36 * d1 + d2 + 7 * (k : Int)) % 1296 % 36)] ++ fr
theorem told_ne {n : Nat} {d0 d1 d2 : Int} {i j : Nat} {s t : Str} (h2 : 0 ≤ d2) (hn : n ≤ 1000) (hij : i < j) (hj : j < n) (h : Told n d0 d1 d2 i s) (k : Told n d0 d1 d2 j t) : s ≠ t := by
  intro e
  subst e
  unfold Told at h k
  have pl : letter ((36 * d1 + d2 + 7 * (i : Int)) % 1296 / 36) = letter ((36 * d1 + d2 + 7 * (j : Int)) % 1296 / 36) → letter ((36 * d1 + d2 + 7 * (i : Int)) % 1296 % 36) = letter ((36 * d1 + d2 + 7 * (j : Int)) % 1296 % 36) → False := by
    intro e1 e2
    have e1 := letter_inj (by omega) (by omega) (by omega) (by omega) e1
    have e2 := letter_inj (by omega) (by omega) (by omega) (by omega) e2
    omega
  by_cases c : d0 = 0 ∧ (n : Int) * (1 + d2 / 5) ≤ 36
  · rw [if_pos c] at h k
    rw [h] at k
    have e := (List.cons.inj k).1
    have e := letter_inj (Int.emod_nonneg _ (by decide)) (Int.emod_lt_of_pos _ (by decide)) (Int.emod_nonneg _ (by decide)) (Int.emod_lt_of_pos _ (by decide)) e
    generalize hs : 1 + d2 / 5 = st at e c
    have s1 : 1 ≤ st := by omega
    have m1 : ((i : Int) + 1) * st ≤ (j : Int) * st := Int.mul_le_mul_of_nonneg_right (by omega) (by omega)
    have m2 : ((j : Int) + 1) * st ≤ (n : Int) * st := Int.mul_le_mul_of_nonneg_right (by omega) (by omega)
    rw [Int.add_mul, Int.one_mul] at m1 m2
    have m3 : 0 ≤ (i : Int) * st := Int.mul_nonneg (by omega) (by omega)
    have c2 := c.2
    generalize (i : Int) * st = a at *
    generalize (j : Int) * st = b at *
    omega
  · rw [if_neg c] at h k
    by_cases c2 : d2 % 2 = 0
    · rw [if_pos c2] at h k
      obtain ⟨f, h⟩ := h
      obtain ⟨g, k⟩ := k
      rw [h] at k
      have e := List.append_inj_right' k rfl
      have e1 := (List.cons.inj e).1
      have e2 := (List.cons.inj (List.cons.inj e).2).1
      exact pl e1 e2
    · rw [if_neg c2] at h k
      obtain ⟨f, h⟩ := h
      obtain ⟨g, k⟩ := k
      rw [h] at k
      have e := List.append_inj_left k rfl
      have e1 := (List.cons.inj e).1
      have e2 := (List.cons.inj (List.cons.inj e).2).1
      exact pl e1 e2
theorem names_step {n : Nat} {ds names : List Int} {nm : List Str} {d0 d1 d2 : Int} (hD : Drawn (nameSizes n) ds) (g0 : getI ds ((0 : Nat) : Int) = .ok d0) (g1 : getI ds ((1 : Nat) : Int) = .ok d1) (g2 : getI ds ((2 : Nat) : Int) = .ok d2) (l0 : 0 ≤ d0) (u0 : d0 < 2) (l1 : 0 ≤ d1) (u1 : d1 < 36) (l2 : 0 ≤ d2) (u2 : d2 < 35) (hn : n ≤ 1000) {k : Nat} (hk : k < n) (hl : nm.length = k) :
    ∃ t, m_law_names_l1 ((k : Int), nm, ds, LET, (n : Int), ()) = .ok (nm ++ [t], ds, LET, (n : Int), ()) ∧ IsRec t ∧ Told n d0 d1 d2 k t := by
  have g0' : getI ds (0 : Int) = .ok d0 := g0
  have g1' : getI ds (1 : Int) = .ok d1 := g1
  have g2' : getI ds (2 : Int) = .ok d2 := g2
  have q1 : CMul (k : Int) (1 + d2 / 5) := CMul_l (by omega) (by omega)
  have q2 : CMul (n : Int) (1 + d2 / 5) := CMul_l (by omega) (by omega)
  have q3 : CMul (36 : Int) d1 := CMul_l (by decide) (by decide)
  have q4 : CMul (7 : Int) (k : Int) := CMul_l (by decide) (by decide)
  have q5 : CMul (4 : Int) (k : Int) := CMul_l (by decide) (by decide)
  have q7 : CDiv d2 (5 : Int) := CDiv_of (by decide) (by decide)
  unfold m_law_names_l1
  simp only [Rs.bo, g0', g1', g2', if_pos q1, if_pos q2, if_pos q3, if_pos q4, if_pos q5, if_pos q7, if_pos (show (0 : Int) < 36 by decide), if_pos (show (0 : Int) < 1296 by decide), if_pos (show (0 : Int) < 4 by decide), if_pos (show (0 : Int) < 2 by decide), ok_if]
  have hb : (if decide (d0 = 0) = true then decide ((n : Int) * (1 + d2 / 5) ≤ 36) else false) = decide (d0 = 0 ∧ (n : Int) * (1 + d2 / 5) ≤ 36) := by
    by_cases c : d0 = 0
    · rw [decide_eq_true c, if_pos rfl, decide_eq_decide]; exact ⟨fun h => ⟨c, h⟩, fun h => h.2⟩
    · rw [decide_eq_false c, if_neg (by decide), decide_eq_false (show ¬ (d0 = 0 ∧ (n : Int) * (1 + d2 / 5) ≤ 36) from fun z => c z.1)]
  rw [hb]
  cases hc : decide (d0 = 0 ∧ (n : Int) * (1 + d2 / 5) ≤ 36)
  rotate_left
  · simp only [if_true]
    obtain ⟨hy, hyS⟩ := letter_get (k := (d1 + (k : Int) * (1 + d2 / 5)) % 36) (Int.emod_nonneg _ (by decide)) (Int.emod_lt_of_pos _ (by decide))
    rw [hy]
    simp only [Rs.bo]
    rw [appI_ok (by omega)]
    exact ⟨_, rfl, ⟨hyS, by rw [one_len]; omega, by rw [one_len]; omega⟩, by unfold Told; rw [if_pos (of_decide_eq_true hc)]⟩
  · simp only [Bool.false_eq_true, if_false]
    generalize hp : (36 * d1 + d2 + 7 * (k : Int)) % 1296 = place
    have p0 := Int.emod_nonneg (36 * d1 + d2 + 7 * (k : Int)) (show (1296 : Int) ≠ 0 by decide)
    have p1 := Int.emod_lt_of_pos (36 * d1 + d2 + 7 * (k : Int)) (show (0 : Int) < 1296 by decide)
    rw [hp] at p0 p1
    generalize hw : (if decide (1 < d2 % 4) = true then (1 : Int) else 0) = w
    have hw' : w = 0 ∨ w = 1 := by rw [← hw]; split <;> simp
    have q6 : CMul (4 * (k : Int)) w := CMul_r (by omega) (by omega)
    have q8 : CDiv place (36 : Int) := CDiv_of (by decide) (by decide)
    have at' : ∀ j : Nat, j < 4 → ∃ d : Int, getI ds ((3 + j : Nat) + 4 * (k : Int) * w) = .ok d ∧ ∃ s, ([7, 36, 36, 36] : List Int)[j]? = some s ∧ 0 ≤ d ∧ d < s := by
      intro j hj
      rcases hw' with e | e
      · subst e
        obtain ⟨s, hs⟩ : ∃ s, ([7, 36, 36, 36] : List Int)[j]? = some s := ⟨_, List.getElem?_eq_getElem hj⟩
        obtain ⟨d, h1, h2, h3⟩ := hD.at' (3 + 4 * 0 + j) s (by rw [nameSizes_at (by omega) hj]; exact hs)
        exact ⟨d, getI_at (by simp) h1, s, hs, h2, h3⟩
      · subst e
        obtain ⟨s, hs⟩ : ∃ s, ([7, 36, 36, 36] : List Int)[j]? = some s := ⟨_, List.getElem?_eq_getElem hj⟩
        obtain ⟨d, h1, h2, h3⟩ := hD.at' (3 + 4 * k + j) s (by rw [nameSizes_at hk hj]; exact hs)
        exact ⟨d, getI_at (by simp; omega) h1, s, hs, h2, h3⟩
    obtain ⟨d3, e3, s3, hs3, l3, u3⟩ := at' 0 (by decide)
    obtain ⟨d4, e4, s4, hs4, l4, u4⟩ := at' 1 (by decide)
    obtain ⟨d5, e5, s5, hs5, l5, u5⟩ := at' 2 (by decide)
    obtain ⟨d6, e6, s6, hs6, l6, u6⟩ := at' 3 (by decide)
    cases hs3; cases hs4; cases hs5; cases hs6
    have e3' : getI ds (3 + 4 * (k : Int) * w) = .ok d3 := e3
    have e4' : getI ds (4 + 4 * (k : Int) * w) = .ok d4 := e4
    have e5' : getI ds (5 + 4 * (k : Int) * w) = .ok d5 := e5
    have e6' : getI ds (6 + 4 * (k : Int) * w) = .ok d6 := e6
    obtain ⟨y4, hy4, n4, S4⟩ := let_get l4 u4
    obtain ⟨y5, hy5, n5, S5⟩ := let_get l5 u5
    obtain ⟨y6, hy6, n6, S6⟩ := let_get l6 u6
    obtain ⟨hz1, T1⟩ := letter_get (k := place / 36) (by omega) (by omega)
    obtain ⟨hz2, T2⟩ := letter_get (k := place % 36) (by omega) (by omega)
    have m1 : (⟨#[letter (place / 36)]⟩ : Str).length = 1 := rfl
    have m2 : (⟨#[letter (place % 36)]⟩ : Str).length = 1 := rfl
    have c1 : (⟨#[letter (place / 36)]⟩ : Str).cps.toList = [letter (place / 36)] := rfl
    have c2 : (⟨#[letter (place % 36)]⟩ : Str).cps.toList = [letter (place % 36)] := rfl
    generalize (⟨#[letter (place / 36)]⟩ : Str) = z1 at *
    generalize (⟨#[letter (place % 36)]⟩ : Str) = z2 at *
    simp only [if_pos q6, if_pos q8, Rs.bo, e3', e4', e5', e6', hy4, hy5, hy6, hz1, hz2]
    rw [catS_ok (by omega)]
    simp only [Rs.bo]
    have nf : (y4 ++ y5 ++ y6).length = 3 := by rw [app_len, app_len]; omega
    rw [catS_ok (by rw [app_len]; omega)]
    simp only [Rs.bo]
    rw [catS_ok (a := y4 ++ y5 ++ y6) (by omega)]
    simp only [Rs.bo, e3', if_pos q8, hz1, hz2]
    have Sf : Sg (y4 ++ y5 ++ y6) := (S4.app S5).app S6
    generalize hfr : cutS (y4 ++ y5 ++ y6 ++ (y4 ++ y5 ++ y6)) none (some d3) = fr
    have Sfr : Sg fr := by rw [← hfr]; exact (Sf.app Sf).cut _ _
    have nfr : fr.length ≤ 6 := by rw [← hfr]; exact Nat.le_trans (cut_to l3) (by omega)
    rw [catS_ok (a := z1) (by omega)]
    simp only [Rs.bo]
    have nt : (z1 ++ z2).length = 2 := by rw [app_len]; omega
    rw [catS_ok (a := fr) (by omega), catS_ok (a := z1 ++ z2) (by omega)]
    simp only [Rs.bo, g2']
    have R1 : IsRec (fr ++ (z1 ++ z2)) := ⟨Sfr.app (T1.app T2), by rw [app_len]; omega, by rw [app_len]; omega⟩
    have R2 : IsRec (z1 ++ z2 ++ fr) := ⟨(T1.app T2).app Sfr, by rw [app_len]; omega, by rw [app_len]; omega⟩
    have hm : d2 % 2 = 0 ∨ d2 % 2 = 1 := by omega
    rcases hm with e | e
    · rw [e, show getI [fr ++ (z1 ++ z2), z1 ++ z2 ++ fr] (0 : Int) = .ok (fr ++ (z1 ++ z2)) from rfl]
      simp only [Rs.bo]
      rw [appI_ok (by omega)]
      exact ⟨_, rfl, R1, by
        unfold Told
        rw [if_neg (of_decide_eq_false hc), if_pos e, hp]
        exact ⟨fr.cps.toList, by rw [app_list, app_list, c1, c2]; rfl⟩⟩
    · rw [e, show getI [fr ++ (z1 ++ z2), z1 ++ z2 ++ fr] (1 : Int) = .ok (z1 ++ z2 ++ fr) from rfl]
      simp only [Rs.bo]
      rw [appI_ok (by omega)]
      exact ⟨_, rfl, R2, by
        unfold Told
        rw [if_neg (of_decide_eq_false hc), if_neg (by rw [e]; decide), hp]
        exact ⟨fr.cps.toList, by rw [app_list, app_list, c1, c2]; rfl⟩⟩
theorem names_nd (cell : Int) (n : Nat) (hn : n ≤ 1000) : ∃ nm : List Str, m_law_names (cell, (n : Int), ()) = .ok nm ∧ nm.length = n ∧ (∀ t ∈ nm, IsRec t) ∧ nm.Nodup := by
  unfold m_law_names
  simp only [Rs.bo]
  rw [repI_ok (by omega) (by omega) (by simp; omega)]
  simp only [Rs.bo]
  rw [catI_ok (by rw [rep_flen]; simp; omega)]
  simp only [Rs.bo]
  rw [show ((n : Int).toNat) = n from Int.toNat_natCast n]
  obtain ⟨ds, e, hD⟩ := draws_ok cell (nameSizes n) (fun s hs => by
    unfold nameSizes at hs
    rcases List.mem_append.mp hs with h | h
    · exact (by decide : ∀ s ∈ ([2, 36, 35] : List Int), 0 < s ∧ s < 1000000) s h
    · exact (by decide : ∀ s ∈ ([7, 36, 36, 36] : List Int), 0 < s ∧ s < 1000000) s (Wm.rep_mem h)) (by unfold nameSizes; rw [List.length_append, rep_flen]; simp; omega)
  rw [show m_law_draws (cell, [2, 36, 35] ++ (List.replicate n [7, 36, 36, 36]).flatten, ()) = _ from e]
  simp only [Rs.bo]
  rw [Rng_nat (by omega)]
  simp only [Rs.bo]
  obtain ⟨d0, g0, -, l0, u0⟩ := hD.get (i := 0) rfl
  obtain ⟨d1, g1, -, l1, u1⟩ := hD.get (i := 1) rfl
  obtain ⟨d2, g2, -, l2, u2⟩ := hD.get (i := 2) rfl
  obtain ⟨g, e2, nm, rfl, hl, hr, hd⟩ := fold_inv (f := fun (γ : Ctx.T [.ow 4 (List Str), .ow 3 (List Int), .fz 2 Str, .fz 1 Int]) x => m_law_names_l1 (x, γ)) (xs := rng 0 (n : Int)) (g := (([] : List Str), ds, LET, (n : Int), ()))
    (fun i g => ∃ nm : List Str, g = (nm, ds, LET, (n : Int), ()) ∧ nm.length = i ∧ (∀ t ∈ nm, IsRec t) ∧ ∀ j t, nm[j]? = some t → Told n d0 d1 d2 j t) ⟨[], rfl, rfl, (fun t h => by cases h), (fun j t h => by simp at h)⟩ (by
      rintro i a g ha ⟨nm, rfl, hl, hr, hd⟩
      obtain ⟨hi, rfl⟩ := rng_get ha
      obtain ⟨t, et, ht, htt⟩ := names_step (names := []) hD g0 g1 g2 l0 u0 l1 u1 l2 u2 hn (k := i) (by omega) hl
      refine ⟨_, by rw [show ((0 : Int) + (i : Int)) = (i : Int) by omega]; exact et, _, rfl, by rw [List.length_append, hl]; rfl, fun u hu => ?_, fun j u hu => ?_⟩
      · rcases List.mem_append.mp hu with h | h
        · exact hr u h
        · rw [List.mem_singleton.mp h]; exact ht
      · by_cases hj : j < nm.length
        · rw [List.getElem?_append_left hj] at hu
          exact hd j u hu
        · rw [List.getElem?_append_right (by omega)] at hu
          have h0 : j - nm.length = 0 := by
            have := (List.getElem?_eq_some_iff.mp hu).1
            simp at this
            omega
          rw [h0] at hu
          cases hu
          have : j = i := by omega
          rw [this]; exact htt)
  rw [e2]
  rw [rng0_len] at hl
  refine ⟨nm, rfl, hl, hr, ?_⟩
  refine List.pairwise_iff_getElem.mpr fun i j hi hj hij => ?_
  exact told_ne l2 hn hij (by omega) (hd i _ (List.getElem?_eq_getElem hi)) (hd j _ (List.getElem?_eq_getElem hj))
theorem names_ok (cell : Int) (n : Nat) (hn : n ≤ 1000) : ∃ nm : List Str, m_law_names (cell, (n : Int), ()) = .ok nm ∧ nm.length = n ∧ ∀ t ∈ nm, IsRec t := by
  obtain ⟨nm, e, l, r, -⟩ := names_nd cell n hn
  exact ⟨nm, e, l, r⟩

theorem Sg.any {t : Str} (h : Sg t) : (chars t).any (misses LET) = false := by
  rw [List.any_eq_false]
  intro x hx
  unfold chars at hx
  obtain ⟨c, hc, rfl⟩ := List.mem_map.mp hx
  show ¬ (!decide (c ∈ LET.cps.toList)) = true
  rw [decide_eq_true (h c hc)]
  decide
theorem valid_ok {t : Str} (h : IsRec t) : m_valid_record (t, ()) = .ok true := by
  unfold m_valid_record
  simp only [Rs.bo]
  have hf := foldR_test (f := fun (γ : Ctx.T [.fz 0 Str]) x => m_valid_record_l1 (x, γ)) (xs := chars t) (g := (t, ())) (misses LET) (r := false) (by
    intro x hx
    unfold m_valid_record_l1
    simp only [Rs.bo]
    rw [misses_chars hx]
    simp only [Rs.bo]
    exact ok_if)
  rw [hf, Sg.any h.sg, left_if]
  have h1 := h.lo
  have h2 := h.hi
  rw [decide_eq_false (show ¬ (t.length : Int) < 1 by omega)]
  simp only [Bool.false_eq_true, if_false]
  rw [decide_eq_false (show ¬ (8 : Int) < (t.length : Int) by omega)]
  simp only [Rs.bo, Bool.false_eq_true, if_false]
  rfl

/-- valid_record, of any text -/
def validB (t : Str) : Bool := decide (1 ≤ t.length) && decide (t.length ≤ 8) && !((chars t).any (misses LET))
theorem valid_any (t : Str) : m_valid_record (t, ()) = .ok (validB t) := by
  unfold m_valid_record validB
  simp only [Rs.bo]
  have hf := foldR_test (f := fun (γ : Ctx.T [.fz 0 Str]) x => m_valid_record_l1 (x, γ)) (xs := chars t) (g := (t, ())) (misses LET) (r := false) (by
    intro x hx
    unfold m_valid_record_l1
    simp only [Rs.bo]
    rw [misses_chars hx]
    simp only [Rs.bo]
    exact ok_if)
  rw [hf, left_if]
  by_cases h1 : (t.length : Int) < 1
  · rw [decide_eq_true h1, decide_eq_false (show ¬ 1 ≤ t.length by omega)]
    rfl
  · rw [decide_eq_false h1, decide_eq_true (show 1 ≤ t.length by omega)]
    simp only [Bool.false_eq_true, if_false]
    by_cases h2 : (8 : Int) < (t.length : Int)
    · rw [decide_eq_true h2, decide_eq_false (show ¬ t.length ≤ 8 by omega)]
      rfl
    · rw [decide_eq_false h2, decide_eq_true (show t.length ≤ 8 by omega)]
      simp only [Rs.bo, Bool.false_eq_true, if_false]
      cases (chars t).any (misses LET) <;> rfl
theorem IsRec.validB {t : Str} (h : IsRec t) : validB t = true := by
  have := (valid_any t).symm.trans (valid_ok h)
  cases e : Wk.validB t with
  | true => rfl
  | false => rw [e] at this; cases this

/-- rows as a sheaf takes them -/
structure IsRows (rs : List (Int × Str)) : Prop where
  ne : 1 ≤ rs.length
  le : rs.length ≤ 16777216
  rec' : ∀ r ∈ rs, IsRec r.2
theorem enum_get {xs : List (Int × Str)} {i : Nat} {p : Int × (Int × Str)} (h : (enumI xs)[i]? = some p) : p.1 = (i : Int) ∧ xs[i]? = some p.2 := by
  unfold enumI at h
  simp only [List.getElem?_map, List.getElem?_zipIdx, Option.map_eq_some_iff] at h
  obtain ⟨q, ⟨r, hr, rfl⟩, rfl⟩ := h
  exact ⟨by simp, hr⟩
theorem init_ok {rs : List (Int × Str)} (h : IsRows rs) : mi_Sheaf_init (rs, ()) = .ok ⟨⟨rs⟩⟩ := by
  unfold mi_Sheaf_init m_Sheaf_init
  have h1 := h.ne
  simp only [Rs.bo]
  rw [decide_eq_false (show ¬ (rs.length : Int) = 0 by omega)]
  simp only [Bool.false_eq_true, if_false, Rs.bo]
  obtain ⟨g, e, hg⟩ := fold_inv (f := fun (γ : Ctx.T [.ow 0 (Ini "Sheaf"), .bo 1 (List (Int × Str))]) x => m_Sheaf_init_l1 (x.2, x.1, γ)) (xs := enumI rs) (g := ((⟨⟩ : Ini "Sheaf"), rs, ())) (fun _ g => g = ((⟨⟩ : Ini "Sheaf"), rs, ())) rfl (by
    intro i x g hx hg
    rw [hg]
    refine ⟨_, ?_, rfl⟩
    obtain ⟨-, hx2⟩ := enum_get hx
    show m_Sheaf_init_l1 (x.2, x.1, (⟨⟩ : Ini "Sheaf"), rs, ()) = _
    unfold m_Sheaf_init_l1
    simp only [Rs.bo]
    rw [valid_ok (h.rec' _ (List.mem_of_getElem? hx2))]
    simp only [Rs.bo, Bool.not_true, Bool.false_eq_true, if_false])
  rw [e, hg]
  rfl
theorem sheaf_rows (s : Sheaf) : m_Sheaf_rows (s, ()) = .ok s.rows.items := rfl

theorem fold_exat {γ α : Type} {f : γ → α → Rs γ} {g : γ} {e : Exc} : ∀ {xs : List α} (k : Nat) {a : α}, xs[k]? = some a → f g a = .ex e → (∀ i b, i < k → xs[i]? = some b → f g b = .ok g) → Rs.fold f g xs = .ex e
  | [], k, a, h, _, _ => by simp at h
  | x :: xs, 0, a, h, h1, _ => by
    have : x = a := by simpa using h
    subst this
    show (f g x).bind _ = _
    rw [h1]
    rfl
  | x :: xs, k + 1, a, h, h1, h2 => by
    show (f g x).bind _ = _
    rw [h2 0 x (by omega) rfl]
    exact fold_exat (xs := xs) k (by simpa using h) h1 fun i b hi hb => h2 (i + 1) b (by omega) (by simpa using hb)
theorem fold_same {γ α : Type} {f : γ → α → Rs γ} {g : γ} : ∀ {xs : List α}, (∀ x ∈ xs, f g x = .ok g) → Rs.fold f g xs = .ok g
  | [], _ => rfl
  | x :: xs, h => by
    show (f g x).bind _ = _
    rw [h x List.mem_cons_self]
    exact fold_same fun y hy => h y (List.mem_cons_of_mem _ hy)
def exInt (n : String) (f : Str) (j : Int) : Exc := ⟨n, [(f, .int j)]⟩
theorem rai_int {β : Type} (n : String) (f : Str) (j : Int) (h : j.natAbs < 1000000000000) : (Rs.rai n f (.ok j) : Rs β) = .ex (exInt n f j) := by
  unfold Rs.rai
  simp only [Rs.bo]
  rw [if_pos (show XV.fit j = true from decide_eq_true h)]
  rfl
theorem at_int (n : String) (f : Str) (j : Int) : (Exc.at (exInt n f j) f : Rs Int) = .ok j := by
  unfold Exc.at exInt
  dsimp only
  rw [List.lookup_cons, beq_self_eq_true]
  rfl
theorem Rs.bx {α β : Type} (e : Exc) (f : α → Rs β) : (Rs.ex e).bind f = .ex e := rfl
theorem try_ok {α : Type} (n : String) (oth : List String) (a : α) (h : Exc → Rs α) : Rs.try n oth (.ok a) h = .ok a := rfl
theorem try_ex {α : Type} (n : String) (oth : List String) (f : Str) (j : Int) (h : Exc → Rs α) : Rs.try n oth (.ex (exInt n f j)) h = h (exInt n f j) := by
  unfold Rs.try
  exact if_pos rfl

def exStr (n : String) (f y : Str) : Exc := ⟨n, [(f, .str y)]⟩
theorem rai_str {β : Type} (n : String) (f y : Str) (h : y.length ≤ 1000) : (Rs.rai n f (.ok y) : Rs β) = .ex (exStr n f y) := by
  unfold Rs.rai
  simp only [Rs.bo]
  rw [if_pos (show XV.fit y = true from decide_eq_true h)]
  rfl
theorem at_str (n : String) (f y : Str) (h : SOk y) : (Exc.at (exStr n f y) f : Rs Str) = .ok y := by
  unfold Exc.at exStr
  dsimp only
  rw [List.lookup_cons, beq_self_eq_true]
  exact if_pos h
theorem try_exS {α : Type} (n : String) (oth : List String) (f y : Str) (h : Exc → Rs α) : Rs.try n oth (.ex (exStr n f y)) h = h (exStr n f y) := by
  unfold Rs.try
  exact if_pos rfl

/-- j is the first row whose record is not valid -/
def BadAt (rs : List (Int × Str)) (j : Nat) : Prop := (∃ r, rs[j]? = some r ∧ validB r.2 = false) ∧ ∀ i r, i < j → rs[i]? = some r → validB r.2 = true
theorem bad_or (rs : List (Int × Str)) : (∃ j, BadAt rs j) ∨ ∀ r ∈ rs, validB r.2 = true := by
  by_cases h : ∃ (j : Nat) (r : Int × Str), rs[j]? = some r ∧ validB r.2 = false
  · obtain ⟨j, h1, h2⟩ := least_ex h
    exact .inl ⟨j, h1, fun i r hi hr => by
      cases e : validB r.2 with
      | true => rfl
      | false => exact (h2 i hi ⟨r, hr, e⟩).elim⟩
  · refine .inr fun r hr => ?_
    obtain ⟨i, hi⟩ := List.mem_iff_getElem?.mp hr
    cases e : validB r.2 with
    | true => rfl
    | false => exact (h ⟨i, r, hi, e⟩).elim
theorem BadAt.lt {rs : List (Int × Str)} {j : Nat} (h : BadAt rs j) : j < rs.length := by
  obtain ⟨⟨r, hr, _⟩, _⟩ := h
  exact (List.getElem?_eq_some_iff.mp hr).1
theorem enum_at {xs : List (Int × Str)} {i : Nat} {r : Int × Str} (h : xs[i]? = some r) : (enumI xs)[i]? = some ((i : Int), r) := by
  unfold enumI
  simp only [List.getElem?_map, List.getElem?_zipIdx, h, Option.map_some, Nat.zero_add]
theorem init_l1 (r : Int × Str) (k : Nat) (hk : k < 1000000) (rs : List (Int × Str)) : m_Sheaf_init_l1 (r, (k : Int), (⟨⟩ : Ini "Sheaf"), rs, ()) = if validB r.2 = true then .ok ((⟨⟩ : Ini "Sheaf"), rs, ()) else .ex (exInt "InvalidSheaf" "index" k) := by
  unfold m_Sheaf_init_l1
  simp only [Rs.bo]
  rw [valid_any]
  simp only [Rs.bo]
  cases validB r.2 with
  | true => rfl
  | false =>
    simp only [Bool.not_false, if_true, Bool.false_eq_true, if_false]
    rw [rai_int _ _ _ (by omega)]
    rfl
theorem init_bad {rs : List (Int × Str)} {j : Nat} (h : BadAt rs j) (hl : rs.length ≤ 1000) : mi_Sheaf_init (rs, ()) = .ex (exInt "InvalidSheaf" "index" j) := by
  have hj := h.lt
  unfold mi_Sheaf_init m_Sheaf_init
  simp only [Rs.bo]
  rw [decide_eq_false (show ¬ (rs.length : Int) = 0 by omega)]
  simp only [Bool.false_eq_true, if_false, Rs.bo]
  obtain ⟨⟨r, hr, hb⟩, hi⟩ := h
  rw [fold_exat (f := fun (γ : Ctx.T [.ow 0 (Ini "Sheaf"), .bo 1 (List (Int × Str))]) x => m_Sheaf_init_l1 (x.2, x.1, γ)) (e := exInt "InvalidSheaf" "index" j) j (enum_at hr) (by
    show m_Sheaf_init_l1 (r, (j : Int), (⟨⟩ : Ini "Sheaf"), rs, ()) = _
    rw [init_l1 r j (by omega), if_neg (by rw [hb]; decide)]) (fun i b hij hb2 => by
    obtain ⟨e1, e2⟩ := enum_get hb2
    show m_Sheaf_init_l1 (b.2, b.1, (⟨⟩ : Ini "Sheaf"), rs, ()) = _
    rw [e1, init_l1 b.2 i (by omega), if_pos (hi i _ hij e2)])]
  rfl
theorem init_empty : mi_Sheaf_init ([], ()) = .ex (exInt "InvalidSheaf" "index" 0) := by
  unfold mi_Sheaf_init m_Sheaf_init
  simp only [Rs.bo]
  rw [decide_eq_true (show (([] : List (Int × Str)).length : Int) = 0 from rfl)]
  simp only [if_true]
  rw [rai_int _ _ _ (by decide)]
  rfl
theorem init_good {rs : List (Int × Str)} (h : ∀ r ∈ rs, validB r.2 = true) (h1 : 1 ≤ rs.length) (hl : rs.length ≤ 1000) : mi_Sheaf_init (rs, ()) = .ok ⟨⟨rs⟩⟩ := by
  unfold mi_Sheaf_init m_Sheaf_init
  simp only [Rs.bo]
  rw [decide_eq_false (show ¬ (rs.length : Int) = 0 by omega)]
  simp only [Bool.false_eq_true, if_false, Rs.bo]
  rw [fold_same (f := fun (γ : Ctx.T [.ow 0 (Ini "Sheaf"), .bo 1 (List (Int × Str))]) x => m_Sheaf_init_l1 (x.2, x.1, γ)) (g := ((⟨⟩ : Ini "Sheaf"), rs, ())) (xs := enumI rs) (fun x hx => by
    obtain ⟨i, hi⟩ := List.mem_iff_getElem?.mp hx
    obtain ⟨e1, e2⟩ := enum_get hi
    have hlt := (List.getElem?_eq_some_iff.mp e2).1
    show m_Sheaf_init_l1 (x.2, x.1, (⟨⟩ : Ini "Sheaf"), rs, ()) = _
    rw [e1, init_l1 x.2 i (by omega), if_pos (h _ (List.mem_of_getElem? e2))])]
  rfl

def Ei {γ ρ : Type} (I : γ → Prop) (P : ρ → Prop) : γ ⊕ ρ → Prop
  | .inl g => I g
  | .inr r => P r
theorem foldR_post {γ ρ α : Type} {f : γ → α → Rs (γ ⊕ ρ)} (I : γ → Prop) (P : ρ → Prop) : ∀ {xs : List α} {g : γ}, I g → (∀ x ∈ xs, ∀ g, I g → ∃ z, f g x = .ok z ∧ Ei I P z) → ∃ z, Rs.foldR f g xs = .ok z ∧ Ei I P z
  | [], g, h, _ => ⟨.inl g, rfl, h⟩
  | x :: xs, g, h, hs => by
    obtain ⟨z, e, hz⟩ := hs x List.mem_cons_self g h
    cases z with
    | inl g' =>
      obtain ⟨z2, e2, hz2⟩ := foldR_post I P (xs := xs) (g := g') hz fun y hy => hs y (List.mem_cons_of_mem _ hy)
      refine ⟨z2, ?_, hz2⟩
      show (f g x).bind _ = _
      rw [e]
      exact e2
    | inr r =>
      refine ⟨.inr r, ?_, hz⟩
      show (f g x).bind _ = _
      rw [e]
      rfl

/-! ### deeds -/
def lvl (rs : List (Int × Str)) (k : Int) : Int := ((rs[k.toNat]?).map (·.1)).getD 0
theorem row_at {rs : List (Int × Str)} {k : Int} (h0 : 0 ≤ k) (h1 : k < rs.length) : ∃ r, getI rs k = .ok r ∧ r ∈ rs ∧ r.1 = lvl rs k ∧ rs[k.toNat]? = some r := by
  obtain ⟨r, e, hm, hk⟩ := getI_mem h0 h1
  exact ⟨r, e, hm, by unfold lvl; rw [hk]; rfl, hk⟩
def Asc (ts : List Int) : Prop := ∀ i : Nat, i + 1 < ts.length → ts.getD i 0 < ts.getD (i + 1) 0
structure Fit (rs : List (Int × Str)) (s : Int) (ts : List Int) (w : Int) : Prop where
  s0 : 0 ≤ s
  s1 : s < rs.length
  t1 : 1 ≤ ts.length
  tw : (ts.length : Int) ≤ w
  tin : ∀ t ∈ ts, 0 ≤ t ∧ t < rs.length
  asc : Asc ts
  low : ∀ t ∈ ts, lvl rs t < lvl rs s
theorem Fit.out {rs : List (Int × Str)} {s : Int} {ts : List Int} {w : Int} (h : Fit rs s ts w) : s ∉ ts := fun z => by
  have := h.low s z
  omega
theorem any_not {α : Type} {p : α → Bool} {xs : List α} : (!xs.any p) = true ↔ ∀ x ∈ xs, p x = false := by
  constructor
  · intro h x hx
    rw [Bool.not_eq_true'] at h
    exact Bool.not_eq_true _ ▸ List.any_eq_false.mp h x hx
  · intro h
    rw [Bool.not_eq_true']
    exact List.any_eq_false.mpr fun x hx => by rw [h x hx]; decide
theorem if_ft {b : Bool} : (if b = true then Rs.ok false else Rs.ok true) = Rs.ok (!b) := by cases b <;> rfl

/-- the rows after a deed -/
def mvd (r : Int × Str) (ys : List (Int × Str)) (k : Int) : List (Int × Str) := ys.set k.toNat (r.1 - 1, r.2)
theorem mvd_len (r : Int × Str) : ∀ (xs : List Int) (ys : List (Int × Str)), (xs.foldl (mvd r) ys).length = ys.length
  | [], _ => rfl
  | x :: xs, ys => by
    rw [List.foldl_cons, mvd_len r xs]
    exact List.length_set
theorem mvd_mem (r : Int × Str) : ∀ (xs : List Int) (ys : List (Int × Str)) (z : Int × Str), z ∈ xs.foldl (mvd r) ys → z ∈ ys ∨ z = (r.1 - 1, r.2)
  | [], _, _, h => .inl h
  | x :: xs, ys, z, h => by
    rcases mvd_mem r xs _ z h with e | e
    · rcases List.mem_or_eq_of_mem_set e with q | q
      · exact .inl q
      · exact .inr q
    · exact .inr e

theorem law_moved_fold {rs : List (Int × Str)} {s : Int} {ts : List Int} {r : Int × Str} (er : getI rs s = .ok r) : ∀ (xs : List Int) (ys : List (Int × Str)), (∀ x ∈ xs, 0 ≤ x ∧ x < ys.length) →
    Rs.fold (fun (γ : Ctx.T [.ow 3 (List (Int × Str)), .bo 0 (List (Int × Str)), .fz 1 Int, .bo 2 (List Int)]) x => m_law_moved_l1 (x, γ)) (ys, rs, s, ts, ()) xs = .ok (xs.foldl (mvd r) ys, rs, s, ts, ())
  | [], _, _ => rfl
  | x :: xs, ys, h => by
    have e : m_law_moved_l1 (x, ys, rs, s, ts, ()) = .ok (mvd r ys x, rs, s, ts, ()) := by
      unfold m_law_moved_l1
      simp only [Rs.bo]
      rw [er]
      simp only [Rs.bo]
      rw [setI_in (h x List.mem_cons_self).1 (h x List.mem_cons_self).2]
      rfl
    show Rs.bind (m_law_moved_l1 (x, ys, rs, s, ts, ())) _ = _
    rw [e]
    exact law_moved_fold er xs _ fun y hy => by
      rw [show (mvd r ys x).length = ys.length from List.length_set]
      exact h y (List.mem_cons_of_mem _ hy)
theorem law_moved_ok {rs : List (Int × Str)} {s : Int} {ts : List Int} {r : Int × Str} (hs : 0 ≤ s ∧ s < rs.length) (er : getI rs s = .ok r) (hin : ∀ t ∈ ts, 0 ≤ t ∧ t < rs.length) (hl : ts.length ≤ 1000) : m_law_moved (rs, s, ts, ()) = .ok ((s :: ts).foldl (mvd r) rs) := by
  unfold m_law_moved
  simp only [Rs.bo, Rs.okl]
  rw [catI_ok (by simp; omega)]
  simp only [Rs.bo, Rs.okl, List.cons_append, List.nil_append]
  rw [law_moved_fold er (s :: ts) rs fun x hx => by
    rcases List.mem_cons.mp hx with e | e
    · rw [e]; exact hs
    · exact hin x e]
  rfl

theorem law_moved2_fold {rs : List (Int × Str)} {s : Int} {ts : List Int} {r : Int × Str} (er : getI rs s = .ok r) : ∀ (xs : List Int) (ys : List (Int × Str)), (∀ x ∈ xs, 0 ≤ x ∧ x < ys.length) →
    Rs.fold (fun (γ : Ctx.T [.ow 3 (List (Int × Str)), .bo 0 (List (Int × Str)), .fz 1 Int, .fz 2 (Tup Int)]) x => m_law_moved_v2_l1 (x, γ)) (ys, rs, s, ⟨ts⟩, ()) xs = .ok (xs.foldl (mvd r) ys, rs, s, ⟨ts⟩, ())
  | [], _, _ => rfl
  | x :: xs, ys, h => by
    have e : m_law_moved_v2_l1 (x, ys, rs, s, ⟨ts⟩, ()) = .ok (mvd r ys x, rs, s, ⟨ts⟩, ()) := by
      unfold m_law_moved_v2_l1
      simp only [Rs.bo]
      rw [er]
      simp only [Rs.bo]
      rw [setI_in (h x List.mem_cons_self).1 (h x List.mem_cons_self).2]
      rfl
    show Rs.bind (m_law_moved_v2_l1 (x, ys, rs, s, ⟨ts⟩, ())) _ = _
    rw [e]
    exact law_moved2_fold er xs _ fun y hy => by
      rw [show (mvd r ys x).length = ys.length from List.length_set]
      exact h y (List.mem_cons_of_mem _ hy)
theorem law_moved2_ok {rs : List (Int × Str)} {s : Int} {ts : List Int} {r : Int × Str} (hs : 0 ≤ s ∧ s < rs.length) (er : getI rs s = .ok r) (hin : ∀ t ∈ ts, 0 ≤ t ∧ t < rs.length) (hl : ts.length ≤ 1000) : m_law_moved_v2 (rs, s, ⟨ts⟩, ()) = .ok ((s :: ts).foldl (mvd r) rs) := by
  unfold m_law_moved_v2
  simp only [Rs.bo, Rs.okl]
  rw [catI_ok (by simp; omega)]
  simp only [Rs.bo, Rs.okl, List.cons_append, List.nil_append]
  rw [law_moved2_fold er (s :: ts) rs fun x hx => by
    rcases List.mem_cons.mp hx with e | e
    · rw [e]; exact hs
    · exact hin x e]
  rfl

/-! ### rounds: the plain notions -/
def rowA (rs : List (Int × Str)) (k : Int) : Int × Str := (rs[k.toNat]?).getD (0, (⟨#[]⟩ : Str))
theorem rowA_get {rs : List (Int × Str)} {k : Int} (h0 : 0 ≤ k) (h1 : k < rs.length) : getI rs k = .ok (rowA rs k) := by
  obtain ⟨r, e, -, hk⟩ := getI_mem h0 h1
  unfold rowA
  rw [hk]
  exact e
theorem rowA_lvl {rs : List (Int × Str)} {k : Int} (h0 : 0 ≤ k) (h1 : k < rs.length) : (rowA rs k).1 = lvl rs k := by
  obtain ⟨r, e, -, hk⟩ := getI_mem h0 h1
  unfold rowA lvl
  rw [hk]
  rfl
theorem rowA_mem {rs : List (Int × Str)} {k : Int} (h0 : 0 ≤ k) (h1 : k < rs.length) : rowA rs k ∈ rs := by
  obtain ⟨r, e, hm, hk⟩ := getI_mem h0 h1
  unfold rowA
  rw [hk]
  exact hm
def idx (d : Int × Tup Int) : List Int := d.1 :: d.2.items
def used (ds : List (Int × Tup Int)) : List Int := ds.flatMap idx
theorem used_cons (d : Int × Tup Int) (ds : List (Int × Tup Int)) : used (d :: ds) = d.1 :: (d.2.items ++ used ds) := rfl
def aft1 (rs ys : List (Int × Str)) (d : Int × Tup Int) : List (Int × Str) := (idx d).foldl (mvd (rowA rs d.1)) ys
def aft (rs : List (Int × Str)) (ds : List (Int × Tup Int)) : List (Int × Str) := ds.foldl (aft1 rs) rs
structure RFit (rs : List (Int × Str)) (ds : List (Int × Tup Int)) (w : Int) : Prop where
  fit : ∀ d ∈ ds, Fit rs d.1 d.2.items w
  nd : (used ds).Nodup
theorem Fit.idx {rs : List (Int × Str)} {d : Int × Tup Int} {w : Int} (h : Fit rs d.1 d.2.items w) : ∀ k ∈ idx d, 0 ≤ k ∧ k < rs.length := fun k hk => by
  rcases List.mem_cons.mp hk with e | e
  · rw [e]; exact ⟨h.s0, h.s1⟩
  · exact h.tin k e
theorem aft1_len (rs ys : List (Int × Str)) (d : Int × Tup Int) : (aft1 rs ys d).length = ys.length := mvd_len _ _ _
theorem aftf_len (rs : List (Int × Str)) : ∀ (ds : List (Int × Tup Int)) (ys : List (Int × Str)), (ds.foldl (aft1 rs) ys).length = ys.length
  | [], _ => rfl
  | d :: ds, ys => by rw [List.foldl_cons, aftf_len rs ds]; exact aft1_len rs ys d
theorem aft_len (rs : List (Int × Str)) (ds : List (Int × Tup Int)) : (aft rs ds).length = rs.length := aftf_len rs ds rs
theorem aft_mem (rs : List (Int × Str)) {w : Int} : ∀ (ds : List (Int × Tup Int)) (ys : List (Int × Str)) (z : Int × Str), (∀ d ∈ ds, Fit rs d.1 d.2.items w) → z ∈ ds.foldl (aft1 rs) ys → z ∈ ys ∨ ∃ r ∈ rs, z = (r.1 - 1, r.2)
  | [], _, _, _, h => .inl h
  | d :: ds, ys, z, hf, h => by
    rcases aft_mem rs ds _ z (fun x hx => hf x (List.mem_cons_of_mem _ hx)) h with e | e
    · rcases mvd_mem _ _ _ _ e with q | q
      · exact .inl q
      · have hd := hf d List.mem_cons_self
        exact .inr ⟨_, rowA_mem hd.s0 hd.s1, q⟩
    · exact .inr e
/-- a place that is not touched -/
theorem mvd_at {r : Int × Str} {k : Int} (k0 : 0 ≤ k) : ∀ (xs : List Int) (ys : List (Int × Str)), (∀ x ∈ xs, 0 ≤ x) → k ∉ xs → rowA (xs.foldl (mvd r) ys) k = rowA ys k
  | [], _, _, _ => rfl
  | x :: xs, ys, h0, hn => by
    rw [List.foldl_cons, mvd_at k0 xs _ (fun y hy => h0 y (List.mem_cons_of_mem _ hy)) fun z => hn (List.mem_cons_of_mem _ z)]
    have := h0 x List.mem_cons_self
    have : x ≠ k := fun e => hn (by rw [e]; exact List.mem_cons_self)
    unfold rowA mvd
    rw [List.getElem?_set_ne (by omega)]

/-! ### the law walks a log -/
theorem Fit.len' {rs : List (Int × Str)} {s : Int} {ts : List Int} {w : Int} (h : Fit rs s ts w) (hw : w ≤ 1000) : ts.length ≤ 1000 := by have := h.tw; omega
def play1 (rs : List (Int × Str)) (d : Int × Tup Int) : List (Int × Str) := aft1 rs rs d
def played (rs : List (Int × Str)) (log : List (Int × Tup Int)) : List (Int × Str) := log.foldl play1 rs
def Plays (w : Int) : List (Int × Str) → List (Int × Tup Int) → Prop
  | _, [] => True
  | rs, d :: log => Fit rs d.1 d.2.items w ∧ Plays w (play1 rs d) log
theorem played_snoc (rs : List (Int × Str)) (log : List (Int × Tup Int)) (d : Int × Tup Int) : played rs (log ++ [d]) = play1 (played rs log) d := by unfold played; rw [List.foldl_append]; rfl
theorem Plays.snoc {w : Int} : ∀ {log : List (Int × Tup Int)} {rs : List (Int × Str)} {d : Int × Tup Int}, Plays w rs log → Fit (played rs log) d.1 d.2.items w → Plays w rs (log ++ [d])
  | [], _, _, _, h => ⟨h, trivial⟩
  | _ :: _, _, _, h, k => ⟨h.1, Plays.snoc h.2 k⟩
theorem play1_len (rs : List (Int × Str)) (d : Int × Tup Int) : (play1 rs d).length = rs.length := aft1_len rs rs d
theorem played_len : ∀ (log : List (Int × Tup Int)) (rs : List (Int × Str)), (played rs log).length = rs.length
  | [], _ => rfl
  | d :: log, rs => (played_len log (play1 rs d)).trans (play1_len rs d)
theorem play1_mem {rs : List (Int × Str)} {d : Int × Tup Int} {w : Int} (h : Fit rs d.1 d.2.items w) {z : Int × Str} (hz : z ∈ play1 rs d) : z ∈ rs ∨ ∃ r ∈ rs, r.1 = lvl rs d.1 ∧ z = (r.1 - 1, r.2) := by
  rcases mvd_mem _ _ _ _ hz with e | e
  · exact .inl e
  · exact .inr ⟨_, rowA_mem h.s0 h.s1, rowA_lvl h.s0 h.s1, e⟩
def lvs (rows : List (Int × Str)) : List Int := rows.map (·.1)
theorem lvs_len (rows : List (Int × Str)) : (lvs rows).length = rows.length := List.length_map ..
theorem lvs_at {rows : List (Int × Str)} {k : Int} (h0 : 0 ≤ k) (h1 : k < rows.length) : (lvs rows)[k.toNat]? = some (lvl rows k) := by
  obtain ⟨r, e, -, hk⟩ := getI_mem h0 h1
  unfold lvs lvl
  rw [List.getElem?_map, hk]
  rfl
theorem lvs_mem {rows : List (Int × Str)} {x : Int} : x ∈ lvs rows ↔ ∃ k : Int, 0 ≤ k ∧ k < rows.length ∧ lvl rows k = x := by
  constructor
  · intro h
    obtain ⟨i, hi⟩ := List.mem_iff_getElem?.mp h
    have hl := (List.getElem?_eq_some_iff.mp hi).1
    rw [lvs_len] at hl
    have := lvs_at (rows := rows) (k := (i : Int)) (by omega) (by omega)
    rw [Int.toNat_natCast, hi] at this
    exact ⟨i, by omega, by omega, (Option.some.inj this).symm⟩
  · rintro ⟨k, h0, h1, e⟩
    have := lvs_at h0 h1
    rw [e] at this
    exact List.mem_of_getElem? this
theorem lvs_play {rs : List (Int × Str)} {i j : Int} (h : Fit rs i [j] 1) : lvs (play1 rs (i, ⟨[j]⟩)) = ((lvs rs).set i.toNat (lvl rs i - 1)).set j.toNat (lvl rs i - 1) := by
  unfold lvs play1 aft1 idx
  simp only [List.foldl_cons, List.foldl_nil, mvd, List.map_set]
  rw [rowA_lvl h.s0 h.s1]
theorem idx_of {xs : List Int} {a : Int} (h : a ∈ xs) : ∃ j : Nat, idxI xs a = .ok (j : Int) ∧ xs[j]? = some a := by
  unfold idxI
  cases e : xs.findIdx? (fun x => x == a) with
  | none =>
    have := List.findIdx?_eq_none_iff.mp e a h
    simp at this
  | some j =>
    obtain ⟨hj, h1, -⟩ := List.findIdx?_eq_some_iff_getElem.mp e
    refine ⟨j, rfl, ?_⟩
    rw [List.getElem?_eq_getElem hj]
    rw [eq_of_beq h1]

/-- what maxI tells of the low heights -/
def LowIs (s : List Int) (f : Int) : Prop := (∃ x ∈ s, x - below s x = f) ∧ ∀ x ∈ s, x - below s x ≤ f
theorem lowIs_iff {s : List Int} {f : Int} : maxI (s.map fun x => x - below s x) = .ok f ↔ LowIs s f := by
  rw [maxI_spec]
  constructor
  · rintro ⟨h1, h2⟩
    obtain ⟨x, hx, e⟩ := List.mem_map.mp h1
    exact ⟨⟨x, hx, e⟩, fun y hy => h2 _ (List.mem_map.mpr ⟨y, hy, rfl⟩)⟩
  · rintro ⟨⟨x, hx, e⟩, h2⟩
    refine ⟨List.mem_map.mpr ⟨x, hx, e⟩, fun z hz => ?_⟩
    obtain ⟨y, hy, rfl⟩ := List.mem_map.mp hz
    exact h2 y hy
theorem below_out {s : List Int} {z : Int} (h : z ∉ s) : below s (z + 1) = below s z := by
  unfold below
  congr 2
  apply List.filter_congr
  intro y hy
  have : y ≠ z := fun e => h (e ▸ hy)
  by_cases h1 : y < z
  · rw [decide_eq_true h1, decide_eq_true (by omega)]
  · rw [decide_eq_false h1, decide_eq_false (by omega)]
theorem low_any {s : List Int} {f : Int} (h : LowIs s f) {m : Int} (hm : m ∈ s) : ∀ (k : Nat) (z : Int), z + k = m → z - below s z ≤ f
  | 0, z, e => by
    have : z = m := by omega
    rw [this]
    exact h.2 m hm
  | k + 1, z, e => by
    by_cases hz : z ∈ s
    · exact h.2 z hz
    · have := low_any h hm k (z + 1) (by omega)
      rw [below_out hz] at this
      omega
theorem low_le {s : List Int} {f z m : Int} (h : LowIs s f) (hm : m ∈ s) (hz : z ≤ m) : z - below s z ≤ f := low_any h hm (m - z).toNat z (by omega)
/-- one sheet more -/
theorem below_add (s : List Int) (y x : Int) : below (s ++ [y]) x = below s x + (if y < x then 1 else 0) := by
  rw [below_perm (List.perm_append_comm (l₁ := s) (l₂ := [y])), List.singleton_append, below_cons]
  omega
theorem low_add {s : List Int} {f g y : Int} (h : LowIs s f) (h' : LowIs (s ++ [y]) g) : f - g ≤ 1 ∧ ((∀ x ∈ s, x < y) → f - g ≤ 0) ∧ ((∃ x ∈ s, y ≤ x) → 0 ≤ f - g) ∧ (y = f - 1 → f - g = 1) := by
  obtain ⟨⟨x0, m0, e0⟩, hf⟩ := h
  have hg := h'.2 x0 (List.mem_append_left _ m0)
  rw [below_add] at hg
  have n0 := below_nn s y
  have k1 : f - g ≤ 1 := by split at hg <;> omega
  refine ⟨k1, fun hx => ?_, ?_, fun hy => ?_⟩
  · have := hx x0 m0
    rw [if_neg (by omega)] at hg
    omega
  · rintro ⟨m, hm, hy⟩
    obtain ⟨⟨x1, m1, e1⟩, -⟩ := h'
    rw [below_add] at e1
    rcases List.mem_append.mp m1 with z | z
    · have := hf x1 z
      split at e1 <;> omega
    · rw [List.mem_singleton.mp z, if_neg (by omega)] at e1
      have := low_le ⟨⟨x0, m0, e0⟩, hf⟩ hm hy
      omega
  · obtain ⟨⟨x1, m1, e1⟩, -⟩ := h'
    rw [below_add] at e1
    have n1 := below_nn s x1
    rcases List.mem_append.mp m1 with z | z
    · have := hf x1 z
      split at e1 <;> omega
    · rw [List.mem_singleton.mp z, if_neg (by omega)] at e1
      omega
/-- one sheet stepped: every place at most t up -/
theorem below_mono {s s' : List Int} (hl : s.length = s'.length) {t : Int} (h : ∀ (i : Nat) (a b : Int), s[i]? = some a → s'[i]? = some b → a ≤ b ∧ b ≤ a + t) : ∀ z, below s' z ≤ below s z ∧ below s (z - t) ≤ below s' z := by
  induction s generalizing s' with
  | nil =>
    intro z
    have : s' = [] := List.eq_nil_of_length_eq_zero hl.symm
    rw [this]
    exact ⟨Int.le_refl _, Int.le_refl _⟩
  | cons a s ih =>
    intro z
    cases s' with
    | nil => cases hl
    | cons b s' =>
      have h0 := h 0 a b rfl rfl
      have := ih (s' := s') (Nat.succ.inj hl) (fun i x y hx hy => h (i + 1) x y hx hy) z
      rw [below_cons, below_cons, below_cons]
      refine ⟨?_, ?_⟩
      · split <;> split <;> omega
      · split <;> split <;> omega
theorem low_up {s s' : List Int} {f g t : Int} (h : LowIs s f) (h' : LowIs s' g) (hl : s.length = s'.length) (hs : ∀ (i : Nat) (a b : Int), s[i]? = some a → s'[i]? = some b → a ≤ b ∧ b ≤ a + t) : f ≤ g ∧ g ≤ f + t := by
  have hb := below_mono hl hs
  obtain ⟨x, hx, e⟩ := h.1
  obtain ⟨y, hy, e'⟩ := h'.1
  obtain ⟨i, hi, rfl⟩ := List.mem_iff_getElem.mp hx
  obtain ⟨j, hj, rfl⟩ := List.mem_iff_getElem.mp hy
  have hi' : i < s'.length := by omega
  have hj' : j < s.length := by omega
  have q1 := hs i s[i] s'[i] (List.getElem?_eq_getElem hi) (List.getElem?_eq_getElem hi')
  have q2 := hs j s[j] s'[j] (List.getElem?_eq_getElem hj') (List.getElem?_eq_getElem hj)
  have l1 := low_le (z := s[i]) h' (List.getElem_mem hi') q1.1
  have l2 := low_le (z := s'[j] - t) h (List.getElem_mem hj') (by omega)
  have b1 := (hb s[i]).1
  have b2 := (hb s'[j]).2
  omega

theorem law_low_is {s : List Int} (hs : s.length ≤ 16777216) : m_law_low (s, ()) = maxI (s.map fun x => x - below s x) := by
  unfold m_law_low
  simp only [Rs.bo, if_pos hs]
  rw [Wm.comp_map (f := fun x => m_law_low_e3 (x, s, ())) (g := fun x => x - below s x) (fun _ _ => rfl) (fun x _ => by
    show m_law_low_e3 (x, s, ()) = _
    unfold m_law_low_e3
    simp only [Rs.bo, if_pos hs]
    rw [comp_count (p := fun y => decide (y < x)) (t := fun y => m_law_low_t1 (y, x, ())) (fun _ _ => rfl) (fun y => m_law_low_e2 (y, x, ())) (fun _ _ => rfl)]
    rfl)]
  rfl

theorem law_power_is {b e : Int} (b0 : -1000000 ≤ b) (b1 : b ≤ 1000000) (e0 : 0 ≤ e) (e1 : e ≤ 1000000) : m_law_power (b, e, ()) = .ok (b ^ e.toNat) := by
  unfold m_law_power
  simp (disch := first | omega | (simp only [List.length_map]; omega)) only [Rs.bo, Rs.okl, comp_okk, comp_oki, comp_okt, comp_okid, filter_tt, if_pos, decide_eq_true_eq, decide_true, decide_false, if_true, Bool.false_eq_true, if_false, left_okl, left_okr, nox_ok, catI_ok, appI_ok, Rng_ok, RngL_ok, CMul_l, CDiv_of, theI_some, Bool.not_true, Bool.not_false, getI_0, getI_1, List.length_map]
  obtain ⟨g, h, rfl⟩ := fold_inv (f := fun (γ : Ctx.T [.fz 2 Int, .fz 0 Int, .fz 1 Int]) x => m_law_power_l1 (x, γ)) (xs := rng 0 e) (g := (1, b, e, ())) (fun i g => g = (b ^ i, b, e, ())) (by rw [Int.pow_zero]) (by
    rintro i a g ha rfl
    refine ⟨_, ?_, rfl⟩
    unfold m_law_power_l1
    simp only [Rs.bo, if_pos (CMul_r (i := b ^ i) (show -1000000000000 ≤ b by omega) (show b ≤ 1000000000000 by omega))]
    rw [Int.pow_succ])
  rw [h, rng_len]
  simp only [Rs.bo, Int.sub_zero]

theorem law_cap_is {x e w : Int} (w0 : 0 ≤ w) (w1 : w ≤ 1000) (he : x - e ≤ 1000000) : m_law_cap (x, e, w, ()) = .ok (capE w x e) := by
  unfold m_law_cap capE
  simp only [Rs.bo, decide_eq_true_eq]
  by_cases h : x < e
  · rw [if_pos h, if_pos h]
  · rw [if_neg h, if_neg h, law_power_is (by omega) (by omega) (by omega) (by omega)]

theorem law_high_is {L : List Int} {w t : Int} (w0 : 1 ≤ w) (w1 : w ≤ 1000) (hl : L.length ≤ 60) (ht : maxI L = .ok t) :
    ∃ k : Nat, k < 60 ∧ m_law_high (L, w, ()) = .ok (t - k) ∧ (L.length : Int) ≤ reachE w L (t - k) ∧ ∀ j : Nat, j < k → ¬ (L.length : Int) ≤ reachE w L (t - j) := by
  obtain ⟨t1, t2⟩ := maxI_spec.mp ht
  have hex : (L.length : Int) ≤ reachE w L (t - (6 : Nat)) := by
    have h1 : capE w t (t - (6 : Nat)) ≤ reachE w L (t - (6 : Nat)) := sum_mem (fun x => capE_nn (by omega) x _) t1
    have h2 : (2 : Int) ^ 6 ≤ (w + 1) ^ 6 := pow_base (by decide) (by omega) 6
    have h3 : capE w t (t - (6 : Nat)) = (w + 1) ^ 6 := by
      unfold capE
      rw [if_neg (by omega), show (t - (t - (6 : Nat))).toNat = 6 by omega]
    have h4 : (2 : Int) ^ 6 = 64 := by decide
    omega
  obtain ⟨k, hk, hmin⟩ := least_ex (p := fun k : Nat => (L.length : Int) ≤ reachE w L (t - k)) ⟨6, hex⟩
  have hk6 : k ≤ 6 := Nat.le_of_not_lt fun h => hmin 6 h hex
  refine ⟨k, by omega, ?_, hk, hmin⟩
  unfold m_law_high
  simp only [Rs.bo, ht]
  rw [Rng_ok (by decide) (by decide) (by decide) (by decide)]
  simp only [Rs.bo]
  have step : ∀ i : Nat, i < 60 → m_law_high_l2 ((i : Int), t, L, w, ()) = .ok (if (L.length : Int) ≤ reachE w L (t - i) then .inr (t - i) else .inl (t, L, w, ())) := by
    intro i hi
    unfold m_law_high_l2
    simp only [Rs.bo, if_pos (show L.length ≤ 16777216 by omega)]
    rw [Wm.comp_map (f := fun x => m_law_high_e1 (x, (i : Int), t, w, ())) (g := fun x => capE w x (t - i)) (fun _ _ => rfl) (fun x hx => by
      have := t2 x hx
      show m_law_high_e1 (x, (i : Int), t, w, ()) = _
      simp (disch := first | omega | (simp only [List.length_map]; omega)) only [Rs.bo, Rs.okl, comp_okk, comp_oki, comp_okt, comp_okid, filter_tt, if_pos, decide_eq_true_eq, decide_true, decide_false, if_true, Bool.false_eq_true, if_false, left_okl, left_okr, nox_ok, catI_ok, appI_ok, Rng_ok, RngL_ok, CMul_l, CDiv_of, theI_some, Bool.not_true, Bool.not_false, getI_0, getI_1, List.length_map, m_law_high_e1]
      rw [law_cap_is (by omega) w1 (by omega)])]
    simp only [Rs.bo, decide_eq_true_eq, ite_okk]
    rfl
  rw [left_inr (foldR_at (f := fun γ x => m_law_high_l2 (x, γ)) (xs := rng 0 60) (g := (t, L, w, ())) (r := t - k) k (rng_at (i := k) (by omega)) (by
      show m_law_high_l2 ((0 : Int) + (k : Int), t, L, w, ()) = _
      rw [show (0 : Int) + (k : Int) = (k : Int) by omega, step k (by omega), if_pos hk]) fun i b hi hb => by
      obtain ⟨h1, rfl⟩ := rng_get hb
      show m_law_high_l2 ((0 : Int) + (i : Int), t, L, w, ()) = _
      rw [show (0 : Int) + (i : Int) = (i : Int) by omega, step i (by omega), if_neg (hmin i hi)])]

/-- what both ways to the high end tell -/
def HighIs (w : Int) (L : List Int) (e : Int) : Prop := (L.length : Int) ≤ reachE w L e ∧ ∀ z, (L.length : Int) ≤ reachE w L z → z ≤ e
theorem reach_over {w : Int} {L : List Int} {z : Int} (h : ∀ x ∈ L, x < z) : reachE w L z = 0 := by
  unfold reachE
  induction L with
  | nil => rfl
  | cons x L ih =>
    rw [List.map_cons, List.sum_cons, ih fun y hy => h y (List.mem_cons_of_mem _ hy)]
    unfold capE
    rw [if_pos (h x List.mem_cons_self)]
    rfl
theorem highIs_of {w t : Int} {L : List Int} {k : Nat} (ht : maxI L = .ok t) (hk : (L.length : Int) ≤ reachE w L (t - k)) (hj : ∀ j : Nat, j < k → ¬ (L.length : Int) ≤ reachE w L (t - j)) : HighIs w L (t - k) := by
  obtain ⟨t1, t2⟩ := maxI_spec.mp ht
  refine ⟨hk, fun z hz => ?_⟩
  by_cases h1 : z ≤ t - k
  · exact h1
  · exfalso
    by_cases h2 : z ≤ t
    · refine hj (t - z).toNat (by omega) ?_
      rw [show t - ((t - z).toNat : Int) = z by omega]
      exact hz
    · rw [reach_over fun x hx => by have := t2 x hx; omega] at hz
      have := List.length_pos_of_mem t1
      omega
theorem capE_mono {w : Int} (hw : 0 ≤ w) {x y e : Int} (h : x ≤ y) : capE w x e ≤ capE w y e := by
  unfold capE
  by_cases h1 : x < e
  · rw [if_pos h1]
    split
    · exact Int.le_refl _
    · exact Int.pow_nonneg (by omega)
  · rw [if_neg h1, if_neg (by omega)]
    exact pow_mono (by omega) (by omega)
theorem capE_shift (w x e t : Int) : capE w x (e - t) = capE w (x + t) e := by
  unfold capE
  by_cases h : x < e - t
  · rw [if_pos h, if_pos (by omega)]
  · rw [if_neg h, if_neg (by omega), show x - (e - t) = x + t - e by omega]
theorem reach_le {w w' : Int} {L L' : List Int} {e e' : Int} (hl : L.length = L'.length) (h : ∀ (i : Nat) (a b : Int), L[i]? = some a → L'[i]? = some b → capE w a e ≤ capE w' b e') : reachE w L e ≤ reachE w' L' e' := by
  induction L generalizing L' with
  | nil =>
    have : L' = [] := List.eq_nil_of_length_eq_zero hl.symm
    rw [this]
    exact Int.le_refl _
  | cons a L ih =>
    cases L' with
    | nil => cases hl
    | cons b L' =>
      have h0 := h 0 a b rfl rfl
      have := ih (L' := L') (Nat.succ.inj hl) fun i x y hx hy => h (i + 1) x y hx hy
      unfold reachE at this ⊢
      rw [List.map_cons, List.sum_cons, List.map_cons, List.sum_cons]
      omega
theorem high_up {w : Int} (hw : 0 ≤ w) {s s' : List Int} {f g t : Int} (h : HighIs w s f) (h' : HighIs w s' g) (hl : s.length = s'.length) (hs : ∀ (i : Nat) (a b : Int), s[i]? = some a → s'[i]? = some b → a ≤ b ∧ b ≤ a + t) : f ≤ g ∧ g ≤ f + t := by
  refine ⟨h'.2 f ?_, ?_⟩
  · rw [← hl]
    exact Int.le_trans h.1 (reach_le hl fun i a b ha hb => capE_mono hw (hs i a b ha hb).1)
  · have := h.2 (g - t) (by
      rw [hl]
      exact Int.le_trans h'.1 (reach_le hl.symm fun i a b ha hb => by rw [capE_shift]; exact capE_mono hw (hs i b a hb ha).2))
    omega
theorem reach_erase {w e : Int} : ∀ {L : List Int} {i : Nat} {x : Int}, L[i]? = some x → reachE w L e = capE w x e + reachE w (L.eraseIdx i) e
  | [], _, _, h => by cases h
  | a :: L, 0, x, h => by
    cases h
    rfl
  | a :: L, i + 1, x, h => by
    have := reach_erase (w := w) (e := e) (L := L) (i := i) (x := x) h
    unfold reachE at this ⊢
    rw [List.eraseIdx_cons_succ, List.map_cons, List.sum_cons, List.map_cons, List.sum_cons]
    omega
theorem high_out {w : Int} {L : List Int} {i : Nat} {x f g : Int} (hx : L[i]? = some x) (h : HighIs w L f) (h' : HighIs w (L.eraseIdx i) g) (hl : x ≤ f) : f ≤ g := by
  apply h'.2
  have e := reach_erase (w := w) (e := f) hx
  have hi : i < L.length := (List.getElem?_eq_some_iff.mp hx).1
  rw [List.length_eraseIdx_of_lt hi]
  have c : capE w x f ≤ 1 := by
    unfold capE
    by_cases h1 : x < f
    · rw [if_pos h1]; decide
    · rw [if_neg h1, show (x - f).toNat = 0 by omega, Int.pow_zero]
      exact Int.le_refl _
  have := h.1
  omega

theorem dct_get_cons {κ α : Type} [DecidableEq κ] (p : κ × α) (es : List (κ × α)) (k : κ) : (Dct.mk (p :: es)).get? k = if p.1 = k then some p.2 else (Dct.mk es).get? k := by
  unfold Dct.get?
  dsimp only
  rw [List.find?_cons]
  by_cases h : p.1 = k
  · rw [decide_eq_true h, if_pos h]; rfl
  · rw [decide_eq_false h, if_neg h]
theorem dct_mem {κ α : Type} [DecidableEq κ] : ∀ (es : List (κ × α)) (k : κ), k ∈ es.map (·.1) ↔ ((Dct.mk es).get? k).isSome = true
  | [], k => by simp [Dct.get?]
  | p :: es, k => by
    rw [dct_get_cons, List.map_cons, List.mem_cons, dct_mem es k]
    by_cases h : p.1 = k
    · rw [if_pos h]; simp [h]
    · rw [if_neg h]
      exact ⟨fun z => z.resolve_left fun e => h e.symm, .inr⟩
theorem dct_any {κ α : Type} [DecidableEq κ] : ∀ (es : List (κ × α)) (k : κ), (es.any fun e => decide (e.1 = k)) = ((Dct.mk es).get? k).isSome
  | [], k => rfl
  | p :: es, k => by
    rw [dct_get_cons, List.any_cons, dct_any es k]
    by_cases h : p.1 = k
    · rw [if_pos h, decide_eq_true h]; rfl
    · rw [if_neg h, decide_eq_false h, Bool.false_or]
theorem dct_map {κ α : Type} [DecidableEq κ] (k j : κ) (a : α) : ∀ es : List (κ × α), (Dct.mk (es.map fun e => if e.1 = k then (e.1, a) else e)).get? j = ((Dct.mk es).get? j).map fun x => if j = k then a else x
  | [] => rfl
  | p :: es => by
    rw [List.map_cons, dct_get_cons, dct_get_cons, dct_map k j a es]
    by_cases h : p.1 = k
    · rw [if_pos h]
      by_cases e : p.1 = j
      · rw [if_pos e, if_pos e, Option.map_some, if_pos (e.symm.trans h)]
      · rw [if_neg e, if_neg e]
    · rw [if_neg h]
      by_cases e : p.1 = j
      · rw [if_pos e, if_pos e, Option.map_some, if_neg fun z => h (e.trans z)]
      · rw [if_neg e, if_neg e]
theorem dct_snoc {κ α : Type} [DecidableEq κ] (k j : κ) (a : α) : ∀ es : List (κ × α), (Dct.mk es).get? k = none → (Dct.mk (es ++ [(k, a)])).get? j = if j = k then some a else (Dct.mk es).get? j
  | [], _ => by
    rw [List.nil_append, dct_get_cons]
    by_cases e : k = j
    · rw [if_pos e, if_pos e.symm]
    · rw [if_neg e, if_neg fun z => e z.symm]
  | p :: es, h => by
    rw [dct_get_cons] at h
    by_cases hp : p.1 = k
    · rw [if_pos hp] at h; cases h
    · rw [if_neg hp] at h
      rw [List.cons_append, dct_get_cons, dct_get_cons, dct_snoc k j a es h]
      by_cases e : p.1 = j
      · rw [if_pos e, if_pos e, if_neg fun z => hp (e.trans z)]
      · rw [if_neg e, if_neg e]
theorem dct_put {κ α : Type} [DecidableEq κ] (d : Dct κ α) (k j : κ) (a : α) : (d.put k a).get? j = if j = k then some a else d.get? j := by
  obtain ⟨es⟩ := d
  unfold Dct.put
  dsimp only
  rw [dct_any]
  cases e : (Dct.mk es).get? k with
  | none =>
    rw [if_neg (by simp)]
    exact dct_snoc k j a es e
  | some b =>
    rw [if_pos (by simp), dct_map]
    by_cases h : j = k
    · rw [h, if_pos rfl, e]; simp
    · rw [if_neg h]
      cases (Dct.mk es).get? j with
      | none => rfl
      | some x => rw [Option.map_some, if_neg h]
theorem dct_len {κ α : Type} [DecidableEq κ] (d : Dct κ α) (k : κ) (a : α) : (d.put k a).es.length ≤ d.es.length + 1 := by
  unfold Dct.put
  dsimp only
  split
  · rw [List.length_map]; omega
  · rw [List.length_append, List.length_singleton]; omega
theorem dput_ok {κ α : Type} [DecidableEq κ] {d : Dct κ α} {k : κ} {a : α} (h : d.es.length < 16777216) : dputR d k a = .ok (d.put k a) := if_pos h
theorem dget_ok {κ α : Type} [DecidableEq κ] {d : Dct κ α} {k : κ} {a : α} (h : d.get? k = some a) : dgetR d k = .ok a := by unfold dgetR; rw [h]

theorem nd_le {α : Type} [DecidableEq α] : ∀ {xs ys : List α}, xs.Nodup → (∀ x ∈ xs, x ∈ ys) → xs.length ≤ ys.length
  | [], _, _, _ => Nat.zero_le _
  | x :: xs, ys, h, k => by
    obtain ⟨h1, h2⟩ := List.nodup_cons.mp h
    have := nd_le (ys := ys.erase x) h2 fun z hz => (List.mem_erase_of_ne (fun e : z = x => h1 (by rw [← e]; exact hz))).mpr (k z (List.mem_cons_of_mem _ hz))
    rw [List.length_erase_of_mem (k x List.mem_cons_self)] at this
    have := List.length_pos_of_mem (k x List.mem_cons_self)
    rw [List.length_cons]
    omega

/-! texts in ascending order, each once -/
theorem leS_refl (a : Str) : leS a a = true := by
  have := leS_total a a
  rwa [Bool.or_self] at this
def addS (acc : List Str) (y : Str) : List Str := if acc.getLast? = some y then acc else acc ++ [y]
def AscS (pre r : List Str) : Prop := (∀ x, x ∈ r ↔ x ∈ pre) ∧ r.Nodup ∧ r.getLast? = pre.getLast?
theorem asc_step : ∀ (ys pre r : List Str), AscS pre r → (pre ++ ys).Pairwise (fun a b => leS a b = true) → AscS (pre ++ ys) (ys.foldl addS r)
  | [], pre, r, h, _ => by rw [List.append_nil]; exact h
  | y :: ys, pre, r, ⟨h1, h2, h3⟩, hs => by
    have e : pre ++ y :: ys = (pre ++ [y]) ++ ys := by simp
    rw [e] at hs ⊢
    refine asc_step ys (pre ++ [y]) (addS r y) ?_ hs
    have hp := (List.pairwise_append.mp hs).1
    obtain ⟨p1, -, p2⟩ := List.pairwise_append.mp hp
    unfold addS
    by_cases c : r.getLast? = some y
    · rw [if_pos c]
      have hy : y ∈ pre := List.mem_of_getLast? (h3 ▸ c)
      refine ⟨fun x => ?_, h2, by rw [c]; simp⟩
      rw [h1, List.mem_append, List.mem_singleton]
      exact ⟨.inl, fun z => z.elim id fun w => w ▸ hy⟩
    · rw [if_neg c]
      refine ⟨fun x => by rw [List.mem_append, List.mem_append, h1], ?_, by simp⟩
      refine List.nodup_append.mpr ⟨h2, (by simp), fun a ha b hb e => ?_⟩
      rw [List.mem_singleton.mp hb] at e
      rw [e] at ha
      have hy := (h1 y).mp ha
      obtain ⟨l, z, hl⟩ : ∃ l z, pre = l ++ [z] := ⟨pre.dropLast, pre.getLast (List.ne_nil_of_mem hy), (List.dropLast_concat_getLast _).symm⟩
      have hz : z ∈ pre := by rw [hl]; simp
      have q1 : leS z y = true := p2 z hz y (List.mem_singleton.mpr rfl)
      have q2 : leS y z = true := by
        rw [hl] at hy p1
        rcases List.mem_append.mp hy with w | w
        · exact (List.pairwise_append.mp p1).2.2 y w z (List.mem_singleton.mpr rfl)
        · rw [List.mem_singleton.mp w]; exact leS_refl z
      have := leS_anti q1 q2
      exact c (by rw [h3, hl, ← this]; simp)
def ascS (xs : List Str) : List Str := (sortStr xs).foldl addS []
theorem ascS_ok (xs : List Str) : (∀ x, x ∈ ascS xs ↔ x ∈ xs) ∧ (ascS xs).Nodup := by
  obtain ⟨h1, h2, -⟩ := asc_step (sortStr xs) [] [] ⟨fun _ => Iff.rfl, List.nodup_nil, rfl⟩ (by rw [List.nil_append]; exact sortStr_up xs)
  rw [List.nil_append] at h1
  exact ⟨fun x => (h1 x).trans (sortStr_perm xs).mem_iff, h2⟩
theorem addS_len (acc : List Str) (y : Str) : (addS acc y).length ≤ acc.length + 1 := by
  unfold addS
  split
  · omega
  · rw [List.length_append]; simp
theorem ascS_len (xs : List Str) : (ascS xs).length ≤ xs.length := nd_le (ascS_ok xs).2 fun x h => ((ascS_ok xs).1 x).mp h
/-- a fold that adds text by text -/
theorem asc_fold {γ : Type} {f : γ → Str → Rs γ} (st : List Str → γ) (hf : ∀ acc y, acc.length ≤ 1000000 → f (st acc) y = .ok (st (addS acc y))) : ∀ (ys acc : List Str), acc.length + ys.length ≤ 1000000 → Rs.fold f (st acc) ys = .ok (st (ys.foldl addS acc))
  | [], acc, _ => rfl
  | y :: ys, acc, h => by
    rw [List.length_cons] at h
    show (f (st acc) y).bind _ = _
    rw [hf acc y (by omega)]
    exact asc_fold st hf ys (addS acc y) (by have := addS_len acc y; omega)
theorem last_ne {acc : List Str} {y : Str} (h : acc ≠ []) : ∃ z, getI acc ((acc.length : Int) - 1) = .ok z ∧ getI acc (-1) = .ok z ∧ (acc.getLast? = some y ↔ z = y) := by
  obtain ⟨l, z, rfl⟩ : ∃ l z, acc = l ++ [z] := ⟨acc.dropLast, acc.getLast h, (List.dropLast_concat_getLast _).symm⟩
  refine ⟨z, getI_at (i := l.length) (by rw [List.length_append]; simp) (by simp), getI_last, ?_⟩
  simp

theorem ascending_ok {xs : List Str} (h : xs.length < 64) : m_ascending (xs, ()) = .ok (ascS xs) := by
  unfold m_ascending
  simp only [Rs.bo, Rs.okl]
  rw [show sortS xs = .ok (sortStr xs) from if_pos h]
  simp only [Rs.bo]
  rw [asc_fold (f := fun (γ : Ctx.T [.ow 1 (List Str), .bo 0 (List Str)]) x => m_ascending_l1 (x, γ)) (fun acc => (acc, xs, ())) (fun acc y hl => by
    show m_ascending_l1 (y, acc, xs, ()) = _
    unfold m_ascending_l1 addS
    simp only [Rs.bo]
    by_cases c : acc = []
    · subst c
      rfl
    · obtain ⟨z, -, e2, e3⟩ := last_ne (y := y) c
      rw [show acc.isEmpty = false by cases acc with | nil => exact absurd rfl c | cons _ _ => rfl]
      simp only [Bool.not_false, Bool.not_true, Bool.false_eq_true, if_false]
      rw [e2]
      simp only [Rs.bo]
      by_cases d : z = y
      · rw [decide_eq_true d, if_pos (e3.mpr d)]
        rfl
      · rw [decide_eq_false d, if_neg fun w => d (e3.mp w)]
        simp only [Bool.not_false, if_true]
        rw [appI_ok (by omega)]
        rfl) (sortStr xs) [] (by rw [sortStr_len]; simp; omega)]
  rfl

theorem addS_sub : ∀ (ys acc : List Str), ∃ zs, zs.Sublist ys ∧ ys.foldl addS acc = acc ++ zs
  | [], acc => ⟨[], .slnil, by rw [List.append_nil]; rfl⟩
  | y :: ys, acc => by
    obtain ⟨zs, h1, h2⟩ := addS_sub ys (addS acc y)
    rw [List.foldl_cons, h2]
    unfold addS
    by_cases c : acc.getLast? = some y
    · rw [if_pos c]
      exact ⟨zs, h1.cons y, rfl⟩
    · rw [if_neg c]
      exact ⟨y :: zs, h1.cons₂ y, by rw [List.append_assoc]; rfl⟩
theorem ascS_up (xs : List Str) : (ascS xs).Pairwise (fun a b => leS a b = true) := by
  obtain ⟨zs, h1, h2⟩ := addS_sub (sortStr xs) []
  unfold ascS
  rw [h2, List.nil_append]
  exact (sortStr_up xs).sublist h1

def cnt (rows : List (Int × Str)) (nm : Str) : Int := ((rows.filter fun r => decide (r.2 = nm)).length : Int)
theorem cnt_snoc (rows : List (Int × Str)) (r : Int × Str) (nm : Str) : cnt (rows ++ [r]) nm = cnt rows nm + if r.2 = nm then 1 else 0 := by
  unfold cnt
  rw [List.filter_append, List.length_append]
  by_cases h : r.2 = nm
  · rw [if_pos h, List.filter_cons, if_pos (by simpa using h)]; simp
  · rw [if_neg h, List.filter_cons, if_neg (by simpa using h)]; simp
theorem cnt_zero {rows : List (Int × Str)} {nm : Str} (h : nm ∉ rows.map (·.2)) : cnt rows nm = 0 := by
  unfold cnt
  rw [List.filter_eq_nil_iff.mpr fun z hz q => h (List.mem_map.mpr ⟨z, hz, by simpa using q⟩)]
  rfl
def SharesD (rows : List (Int × Str)) (d : Dct Str Int) : Prop := (∀ nm, d.get? nm = if nm ∈ rows.map (·.2) then some (cnt rows nm) else none) ∧ (d.es.map (·.1)).Nodup
theorem put_nd {κ α : Type} [DecidableEq κ] {d : Dct κ α} {k : κ} {a : α} (h : (d.es.map (·.1)).Nodup) : ((d.put k a).es.map (·.1)).Nodup := by
  obtain ⟨es⟩ := d
  unfold Dct.put
  dsimp only at h ⊢
  by_cases c : (es.any fun e => decide (e.1 = k)) = true
  · rw [if_pos c, List.map_map]
    have : (fun x : κ × α => x.1) ∘ (fun e : κ × α => if e.1 = k then (e.1, a) else e) = fun x => x.1 := by
      funext e
      show (if e.1 = k then (e.1, a) else e).1 = e.1
      split <;> rfl
    rw [this]
    exact h
  · rw [if_neg c, List.map_append]
    refine List.nodup_append.mpr ⟨h, by simp, fun x hx y hy e => ?_⟩
    have hy : y = k := by simpa using hy
    rw [dct_any] at c
    exact c ((dct_mem es k).mp (by rw [← hy, ← e]; exact hx))
theorem shares_ok {rows : List (Int × Str)} (h : rows.length ≤ 1000000) : ∃ d, m_Sheaf_shares (⟨⟨rows⟩⟩, ()) = .ok d ∧ SharesD rows d ∧ d.es.length ≤ rows.length := by
  unfold m_Sheaf_shares
  simp only [Rs.bo]
  obtain ⟨g, eg, d, rfl, dl, dg, dn⟩ := fold_inv (f := fun (γ : Ctx.T [.ow 1 (Dct Str Int), .bo 0 Sheaf]) x => m_Sheaf_shares_l1 (x, γ)) (xs := rows) (g := (⟨[]⟩, ⟨⟨rows⟩⟩, ()))
    (fun i γ => ∃ d : Dct Str Int, γ = (d, ⟨⟨rows⟩⟩, ()) ∧ d.es.length ≤ i ∧ (∀ nm, d.get? nm = if nm ∈ (rows.take i).map (·.2) then some (cnt (rows.take i) nm) else none) ∧ (d.es.map (·.1)).Nodup) ⟨⟨[]⟩, rfl, Nat.zero_le _, (fun nm => rfl), List.nodup_nil⟩ (by
    rintro i r _ hr ⟨d, rfl, dl, dg, dn⟩
    have hi := (List.getElem?_eq_some_iff.mp hr).1
    have ht : rows.take (i + 1) = rows.take i ++ [r] := by rw [List.take_succ, hr]; rfl
    show ∃ g', m_Sheaf_shares_l1 (r, d, ⟨⟨rows⟩⟩, ()) = .ok g' ∧ _
    unfold m_Sheaf_shares_l1
    simp only [Rs.bo]
    rw [dput_ok (by omega)]
    refine ⟨_, rfl, _, rfl, ?_, fun nm => ?_, put_nd dn⟩
    · have := dct_len d r.2 ((d.get? r.2).getD 0 + 1)
      show (d.put r.2 ((d.get? r.2).getD 0 + 1)).es.length ≤ i + 1
      omega
    · rw [dct_put, ht, List.map_append, cnt_snoc]
      by_cases c : r.2 = nm
      · subst c
        have hin : r.2 ∈ (rows.take i).map (·.2) ++ [r].map (·.2) := by simp
        rw [if_pos rfl, if_pos hin, if_pos rfl, dg]
        congr 2
        by_cases c2 : r.2 ∈ (rows.take i).map (·.2)
        · rw [if_pos c2]; rfl
        · rw [if_neg c2, cnt_zero c2]; rfl
      · rw [if_neg (show ¬ nm = r.2 from fun z => c z.symm), if_neg (show ¬ r.2 = nm from c), Int.add_zero, dg]
        by_cases c2 : nm ∈ (rows.take i).map (·.2)
        · rw [if_pos c2, if_pos (List.mem_append_left _ c2)]
        · have hout : ¬ nm ∈ (rows.take i).map (·.2) ++ [r].map (·.2) := fun z => (List.mem_append.mp z).elim c2 fun q => c (List.mem_singleton.mp (show nm ∈ [r.2] from q)).symm
          rw [if_neg c2, if_neg hout])
  rw [List.take_length] at dg
  rw [eg]
  exact ⟨d, rfl, ⟨dg, dn⟩, dl⟩

/-! ### the outcome order -/
def prs (rs : List (Int × Str)) : List (Int × Int) := (rng 0 (rs.length : Int)).map fun i => (lvl rs i, i)
def ordI (rs : List (Int × Str)) : List Int := ((prs rs).mergeSort leP).map (·.2)
theorem leP_trans {a b c : Int × Int} (h : leP a b = true) (k : leP b c = true) : leP a c = true := by
  unfold leP at *
  rw [decide_eq_true_eq] at *
  omega
theorem leP_total (a b : Int × Int) : (leP a b || leP b a) = true := by
  unfold leP
  rw [Bool.or_eq_true, decide_eq_true_eq, decide_eq_true_eq]
  omega
theorem leP_anti {a b : Int × Int} (h : leP a b = true) (k : leP b a = true) : a = b := by
  unfold leP at *
  rw [decide_eq_true_eq] at *
  exact Prod.ext (by omega) (by omega)
theorem ord_up (rs : List (Int × Str)) : ((prs rs).mergeSort leP).Pairwise (fun a b => leP a b = true) := List.pairwise_mergeSort (le := leP) (fun _ _ _ h k => leP_trans h k) leP_total _
theorem ord_perm (rs : List (Int × Str)) : ((prs rs).mergeSort leP).Perm (prs rs) := List.mergeSort_perm _ _
theorem prs_len (rs : List (Int × Str)) : (prs rs).length = rs.length := by unfold prs; rw [List.length_map, rng_len]; omega
theorem ordI_len (rs : List (Int × Str)) : (ordI rs).length = rs.length := by unfold ordI; rw [List.length_map, (ord_perm rs).length_eq, prs_len]
theorem ord_fst (rs : List (Int × Str)) : ∀ p ∈ (prs rs).mergeSort leP, (0 ≤ p.2 ∧ p.2 < rs.length) ∧ p.1 = lvl rs p.2 := fun p hp => by
  have hp := (ord_perm rs).mem_iff.mp hp
  unfold prs at hp
  obtain ⟨i, hi, rfl⟩ := List.mem_map.mp hp
  exact ⟨mem_rng.mp hi, rfl⟩
theorem ordI_in (rs : List (Int × Str)) : ∀ i ∈ ordI rs, 0 ≤ i ∧ i < rs.length := fun i hi => by
  unfold ordI at hi
  obtain ⟨p, hp, rfl⟩ := List.mem_map.mp hi
  exact (ord_fst rs p hp).1
theorem ordI_perm (rs : List (Int × Str)) : (ordI rs).Perm (rng 0 (rs.length : Int)) := by
  unfold ordI
  refine ((ord_perm rs).map _).trans ?_
  unfold prs
  rw [List.map_map]
  exact .of_eq (List.map_id'' (fun _ => rfl) _)
/-- the levels in the order: ascending, the same -/
def levO (rs : List (Int × Str)) : List Int := (ordI rs).map (lvl rs)
theorem levO_is (rs : List (Int × Str)) : levO rs = ((prs rs).mergeSort leP).map (·.1) := by
  unfold levO ordI
  rw [List.map_map]
  exact List.map_congr_left fun p hp => (ord_fst rs p hp).2.symm
theorem levO_up (rs : List (Int × Str)) : (levO rs).Pairwise (· ≤ ·) := by
  rw [levO_is]
  refine (List.pairwise_map).mpr ((ord_up rs).imp fun {a b} h => ?_)
  unfold leP at h
  rw [decide_eq_true_eq] at h
  omega
theorem levO_len (rs : List (Int × Str)) : (levO rs).length = rs.length := by unfold levO; rw [List.length_map, ordI_len]
theorem order_tail {rs : List (Int × Str)} (h : rs.length ≤ 1000) : (Rs.bind (Rs.bind (Rs.bind (Rs.bind (Rng 0 (rs.length : Int)) (fun xs => if xs.length ≤ 16777216 then Rs.comp (fun x => Rs.ok true) (fun x => m_outcome_order_e2 (x, (rs, ()))) xs else Rs.no)) (fun x => Rs.ok (x.mergeSort SortT.le))) Rs.ok) (fun xs => if xs.length ≤ 16777216 then Rs.comp (fun x => Rs.ok true) (fun x => m_outcome_order_e3 (x, (()))) xs else Rs.no)) = .ok (ordI rs) := by
  rw [Rng_nat (by omega)]
  simp only [Rs.bo, Rs.okl]
  rw [if_pos (by rw [rng_len]; omega), show Rs.comp (fun x => Rs.ok true) (fun x => m_outcome_order_e2 (x, (rs, ()))) (rng 0 (rs.length : Int)) = .ok (prs rs) from Wm.comp_map (fun _ _ => rfl) fun x hx => by
    have hx := mem_rng.mp hx
    show m_outcome_order_e2 (x, (rs, ())) = _
    unfold m_outcome_order_e2
    simp only [Rs.bo]
    rw [rowA_get hx.1 hx.2]
    simp only [Rs.bo]
    rw [rowA_lvl hx.1 hx.2]]
  simp only [Rs.bo]
  rw [if_pos (by show ((prs rs).mergeSort leP).length ≤ _; rw [(ord_perm rs).length_eq, prs_len]; omega)]
  exact Wm.comp_map (fun _ _ => rfl) fun _ _ => rfl
theorem cnt_one {rows : List (Int × Str)} (h : (rows.map (·.2)).Nodup) (nm : Str) : cnt rows nm ≤ 1 := by
  induction rows with
  | nil => simp [cnt]
  | cons r rows ih =>
    rw [List.map_cons, List.nodup_cons] at h
    have e : cnt (r :: rows) nm = (if r.2 = nm then 1 else 0) + cnt rows nm := by
      unfold cnt
      rw [List.filter_cons]
      by_cases c : r.2 = nm
      · rw [decide_eq_true c, if_pos rfl, if_pos c, List.length_cons]; omega
      · rw [decide_eq_false c, if_neg (by decide), if_neg c]; omega
    have := ih h.2
    by_cases c : r.2 = nm
    · have := cnt_zero (rows := rows) (nm := nm) (by rw [← c]; exact h.1)
      rw [e, if_pos c]; omega
    · rw [e, if_neg c]; omega
theorem records_is {rs : List (Int × Str)} (h : rs.length < 64) : m_Sheaf_records (⟨⟨rs⟩⟩, ()) = .ok (ascS (rs.map (·.2))) := by
  unfold m_Sheaf_records
  simp only [Rs.bo]
  rw [if_pos (by show rs.length ≤ _; omega), show Rs.comp (fun x => Rs.ok true) (fun x => m_Sheaf_records_e1 (x, ())) rs = .ok (rs.map (·.2)) from Wm.comp_map (fun _ _ => rfl) fun _ _ => rfl]
  simp only [Rs.bo]
  exact ascending_ok (by rw [List.length_map]; exact h)
theorem order_l1 {rs : List (Int × Str)} {d : Dct Str Int} (hd : SharesD rs d) {nm : Str} (hm : nm ∈ rs.map (·.2)) (hl : nm.length ≤ 1000) :
    (cnt rs nm ≤ 1 → m_outcome_order_l1 (nm, d, ⟨⟨rs⟩⟩, ()) = .ok (d, ⟨⟨rs⟩⟩, ())) ∧ (1 < cnt rs nm → m_outcome_order_l1 (nm, d, ⟨⟨rs⟩⟩, ()) = .ex (exStr "RepeatedRecord" "record" nm)) := by
  have hg : dgetR d nm = .ok (cnt rs nm) := dget_ok (by rw [hd.1, if_pos hm])
  unfold m_outcome_order_l1
  simp only [Rs.bo]
  rw [hg]
  simp only [Rs.bo]
  refine ⟨fun h => ?_, fun h => ?_⟩
  · rw [decide_eq_false (by omega)]
    rfl
  · rw [decide_eq_true h]
    simp only [if_true]
    rw [rai_str _ _ _ hl]
    rfl
theorem order_ok {rs : List (Int × Str)} (h : rs.length < 64) (hv : ∀ r ∈ rs, r.2.length ≤ 1000) (hn : (rs.map (·.2)).Nodup) : m_outcome_order (⟨⟨rs⟩⟩, ()) = .ok (ordI rs) := by
  obtain ⟨d, ed, hd, -⟩ := shares_ok (rows := rs) (by omega)
  unfold m_outcome_order
  simp only [Rs.bo, Rs.okl, m_Sheaf_rows]
  rw [ed]
  simp only [Rs.bo]
  rw [records_is h]
  simp only [Rs.bo]
  rw [fold_same (f := fun (γ : Ctx.T [.ow 1 (Dct Str Int), .bo 0 Sheaf]) x => m_outcome_order_l1 (x, γ)) (g := (d, ⟨⟨rs⟩⟩, ())) fun x hx => by
    have hm := ((ascS_ok _).1 x).mp hx
    obtain ⟨r, hr, rfl⟩ := List.mem_map.mp hm
    exact (order_l1 hd hm (hv r hr)).1 (cnt_one hn _)]
  simp only [Rs.bo]
  have := order_tail (rs := rs) (by omega)
  simp only [Rs.bo, Rs.okl] at this
  exact this
theorem order_rep {rs : List (Int × Str)} (h : rs.length < 64) (hv : ∀ r ∈ rs, r.2.length ≤ 1000) {nm : Str} (hm : nm ∈ rs.map (·.2)) (hc : 1 < cnt rs nm) (hmin : ∀ x ∈ rs.map (·.2), 1 < cnt rs x → leS nm x = true) : m_outcome_order (⟨⟨rs⟩⟩, ()) = .ex (exStr "RepeatedRecord" "record" nm) := by
  obtain ⟨d, ed, hd, -⟩ := shares_ok (rows := rs) (by omega)
  unfold m_outcome_order
  simp only [Rs.bo, Rs.okl, m_Sheaf_rows]
  rw [ed]
  simp only [Rs.bo]
  rw [records_is h]
  simp only [Rs.bo]
  have hin := ((ascS_ok (rs.map (·.2))).1 nm).mpr hm
  obtain ⟨k, hk⟩ := List.mem_iff_getElem?.mp hin
  have hkl := (List.getElem?_eq_some_iff.mp hk).1
  have hlen : ∀ x ∈ rs.map (·.2), x.length ≤ 1000 := fun x hx => by
    obtain ⟨r, hr, rfl⟩ := List.mem_map.mp hx
    exact hv r hr
  rw [fold_exat (f := fun (γ : Ctx.T [.ow 1 (Dct Str Int), .bo 0 Sheaf]) x => m_outcome_order_l1 (x, γ)) (g := (d, ⟨⟨rs⟩⟩, ())) (e := exStr "RepeatedRecord" "record" nm) k hk ((order_l1 hd hm (hlen nm hm)).2 hc) fun i b hi hb => by
    have hbm := ((ascS_ok _).1 b).mp (List.mem_of_getElem? hb)
    refine (order_l1 hd hbm (hlen b hbm)).1 ?_
    by_cases c : 1 < cnt rs b
    · have h1 := hmin b hbm c
      have h2 := (List.pairwise_iff_getElem.mp (ascS_up (rs.map (·.2)))) i k (by omega) hkl hi
      rw [List.getElem?_eq_getElem (by omega)] at hb
      rw [List.getElem?_eq_getElem hkl] at hk
      rw [Option.some.inj hb, Option.some.inj hk] at h2
      have e := leS_anti h1 h2
      have := (List.pairwise_iff_getElem.mp (ascS_ok (rs.map (·.2))).2) i k (by omega) hkl hi
      rw [Option.some.inj hb, Option.some.inj hk] at this
      exact absurd e.symm this
    · omega]
  rfl

structure GoodD (n : Nat) (d : Int × Tup Int) : Prop where
  s : 0 ≤ d.1 ∧ d.1 < n
  t : ∀ t ∈ d.2.items, 0 ≤ t ∧ t < n
  l : d.2.items.length ≤ 100
theorem wild_step {rs : List (Int × Str)} {log : List (Int × Tup Int)} {cells : List Int} {cell w : Int} {n : Nat} (hn : rs.length = n) (h1 : 1 ≤ n) (h2 : n ≤ 40) (hw : 1 ≤ w ∧ w ≤ 6) (hg : ∀ d ∈ log, GoodD n d) (hll : log.length ≤ 100) :
    ∃ z, m_law_wild_log_l9 (cell, log, rs, cells, w, 12, ()) = .ok z ∧ Ei (fun γ : List (Int × Tup Int) × List (Int × Str) × List Int × Int × Int × Unit => ∃ (log : List (Int × Tup Int)) (rs : List (Int × Str)), γ = (log, rs, cells, w, 12, ()) ∧ rs.length = n ∧ (∀ d ∈ log, GoodD n d) ∧ log.length ≤ 100) (fun log : List (Int × Tup Int) => (∀ d ∈ log, GoodD n d) ∧ log.length ≤ 100) z := by
  obtain ⟨ds, hds, hD⟩ := draws_ok cell ([64, 3] ++ List.replicate n 2) (by
    intro s hs
    rcases List.mem_append.mp hs with e | e
    · simp only [List.mem_cons, List.not_mem_nil, or_false] at e; omega
    · rw [(List.mem_replicate.mp e).2]; omega) (by simp; omega)
  obtain ⟨d0, g0, l0, u0⟩ := Drawn.g hD 0 (by decide) rfl
  obtain ⟨d1, g1, l1, u1⟩ := Drawn.g hD 1 (by decide) rfl
  have hdl : ds.length = 2 + n := by rw [hD.len]; simp; omega
  unfold m_law_wild_log_l9
  simp only [Rs.bo, Rs.okl]
  rw [hn, repI_one (by omega) (by omega)]
  simp only [Rs.bo]
  rw [catI_ok (by simp; omega)]
  simp only [Rs.bo, Int.toNat_natCast]
  rw [hds]
  simp only [Rs.bo, hn]
  obtain ⟨so, eso, lso, hso⟩ := comp_rng (n := (n : Int)) (by omega) (by omega) (t := fun x => m_law_wild_log_t3 (x, rs, ())) (f := fun x => m_law_wild_log_e4 (x, rs, ())) (fun y => (0 ≤ y ∧ y < (n : Int)) ∧ ∃ r ∈ rs, r.1 < lvl rs y) (fun x x0 x1 => by
    obtain ⟨r1, e1, -, k1, -⟩ := row_at (rs := rs) (k := x) x0 (by omega)
    have hc : Rs.comp (fun y => m_law_wild_log_t1 (y, x, rs, ())) (fun y => m_law_wild_log_e2 (y, x, rs, ())) rs = .ok ((rs.filter fun r => decide (r.1 < lvl rs x)).map fun r => r) := by
      refine comp_filter (fun r hr => ?_) fun _ _ _ => rfl
      unfold m_law_wild_log_t1
      simp only [Rs.bo]
      rw [e1]
      simp only [Rs.bo]
      rw [k1]
    refine ⟨decide ((0 : Int) < ((rs.filter fun r => decide (r.1 < lvl rs x)).length : Int)), ?_, fun hb => ⟨x, rfl, ⟨x0, x1⟩, ?_⟩⟩
    · unfold m_law_wild_log_t3
      simp only [Rs.bo, Rs.okl]
      rw [if_pos (show rs.length ≤ 16777216 by omega), show Rs.comp (fun y => m_law_wild_log_t1 (y, x, rs, ())) (fun y => m_law_wild_log_e2 (y, x, rs, ())) rs = _ from hc, List.map_id']
      rfl
    · have := of_decide_eq_true hb
      cases hf : rs.filter fun r => decide (r.1 < lvl rs x) with
      | nil => rw [hf] at this; simp at this
      | cons r l =>
        have hm : r ∈ rs.filter fun r => decide (r.1 < lvl rs x) := by rw [hf]; exact List.mem_cons_self
        have := List.mem_filter.mp hm
        exact ⟨r, this.1, of_decide_eq_true this.2⟩)
  rw [eso]
  simp only [Rs.bo]
  by_cases hstop : (so.length : Int) = 0 ∨ (12 : Int) ≤ log.length
  · have hb : (if decide ((so.length : Int) = 0) = true then Rs.ok true else Rs.ok (decide ((12 : Int) ≤ (log.length : Int)))) = Rs.ok true := by
      by_cases q : (so.length : Int) = 0
      · rw [dtrue q]; rfl
      · rw [decide_eq_false q, dtrue (show (12 : Int) ≤ (log.length : Int) from hstop.resolve_left q)]; rfl
    rw [hb]
    exact ⟨_, rfl, hg, hll⟩
  have hb : (if decide ((so.length : Int) = 0) = true then Rs.ok true else Rs.ok (decide ((12 : Int) ≤ (log.length : Int)))) = Rs.ok false := by
    rw [decide_eq_false (fun z => hstop (.inl z)), decide_eq_false (fun z => hstop (.inr z))]; rfl
  rw [hb]
  simp only [Rs.bo, Bool.false_eq_true, if_false, g0]
  have hs0 : ¬ (so.length : Int) = 0 := fun z => hstop (.inl z)
  have hl0 : ¬ (12 : Int) ≤ log.length := fun z => hstop (.inr z)
  have q1 := Int.emod_nonneg d0 hs0
  have q2 := Int.emod_lt_of_pos d0 (show (0 : Int) < so.length by omega)
  rw [if_pos (show (0 : Int) < (so.length : Int) by omega)]
  obtain ⟨s, es, hsm, -⟩ := getI_mem (xs := so) (k := d0 % (so.length : Int)) (by omega) (by omega)
  obtain ⟨hs, rr, hrr, hlt⟩ := hso s hsm
  obtain ⟨r2, e2, -, k2, -⟩ := row_at (rs := rs) (k := s) hs.1 (by omega)
  simp only [Rs.bo, es, hn]
  have hu : Rs.comp (fun x => m_law_wild_log_t5 (x, s, rs, ())) (fun x => m_law_wild_log_e6 (x, s, rs, ())) (rng 0 (n : Int)) = .ok (((rng 0 (n : Int)).filter fun x => decide (lvl rs x < lvl rs s)).map fun x => x) := by
    refine comp_filter (fun x hx => ?_) fun _ _ _ => rfl
    have hx := mem_rng.mp hx
    obtain ⟨r1, e1, -, k1, -⟩ := row_at (rs := rs) (k := x) hx.1 (by omega)
    unfold m_law_wild_log_t5
    simp only [Rs.bo]
    rw [e1, e2]
    simp only [Rs.bo]
    rw [k1, k2]
  rw [Rng_nat (by omega)]
  simp only [Rs.bo]
  rw [if_pos (by rw [rng0_len]; omega), show Rs.comp (fun x => m_law_wild_log_t5 (x, s, rs, ())) (fun x => m_law_wild_log_e6 (x, s, rs, ())) (rng 0 (n : Int)) = _ from hu, List.map_id']
  simp only [Rs.bo]
  have hun : ∀ x ∈ (rng 0 (n : Int)).filter fun x => decide (lvl rs x < lvl rs s), 0 ≤ x ∧ x < (n : Int) := fun x hx => mem_rng.mp (List.mem_filter.mp hx).1
  have hul : ((rng 0 (n : Int)).filter fun x => decide (lvl rs x < lvl rs s)).length ≤ n := by
    have := List.length_filter_le (fun x => decide (lvl rs x < lvl rs s)) (rng 0 (n : Int))
    rw [rng0_len] at this
    exact this
  have hu1 : 1 ≤ ((rng 0 (n : Int)).filter fun x => decide (lvl rs x < lvl rs s)).length := by
    obtain ⟨i, hi⟩ := List.mem_iff_getElem?.mp hrr
    have hil := (List.getElem?_eq_some_iff.mp hi).1
    have hv : lvl rs (i : Int) = rr.1 := by unfold lvl; rw [Int.toNat_natCast, hi]; rfl
    exact List.length_pos_of_mem (a := (i : Int)) (List.mem_filter.mpr ⟨mem_rng.mpr ⟨by omega, by omega⟩, decide_eq_true (by rw [hv]; exact hlt)⟩)
  revert hun hul hu1
  generalize ((rng 0 (n : Int)).filter fun x => decide (lvl rs x < lvl rs s)) = un
  intro hun hul hu1
  obtain ⟨pk, epk, lpk, hpk⟩ := comp_rng (n := (un.length : Int)) (by omega) (by omega) (t := fun x => m_law_wild_log_t7 (x, un, ds, ())) (f := fun x => m_law_wild_log_e8 (x, un, ds, ())) (fun y => 0 ≤ y ∧ y < (n : Int)) (fun x x0 x1 => by
    obtain ⟨v, ev, -⟩ := getI_mem (xs := ds) (k := 2 + x) (by omega) (by omega)
    obtain ⟨v2, ev2, hv2, -⟩ := getI_mem (xs := un) (k := x) x0 x1
    have hb : ∃ b, m_law_wild_log_t7 (x, un, ds, ()) = .ok b := by
      unfold m_law_wild_log_t7
      simp only [Rs.bo]
      rw [ev]
      simp only [Rs.bo]
      exact ⟨_, rfl⟩
    obtain ⟨b, hb⟩ := hb
    exact ⟨b, hb, fun _ => ⟨v2, ev2, hun v2 hv2⟩⟩)
  rw [epk]
  simp only [Rs.bo, g1]
  rw [if_pos (CMul_l (show -1000000000000 ≤ d1 by omega) (by omega))]
  simp only [Rs.bo]
  rw [if_pos (CDiv_of (show (0 : Int) < 2 by decide) (by decide))]
  simp only [Rs.bo]
  have hcut : ∀ hi, ∀ y ∈ cutI pk none hi, 0 ≤ y ∧ y < (n : Int) := fun hi y hy => by
    unfold cutI at hy
    exact hpk y (List.mem_of_mem_drop (List.mem_of_mem_take hy))
  have hcl : ∀ hi, (cutI pk none hi).length ≤ 40 := fun hi => Nat.le_trans (cutI_len _ _ _) (by omega)
  refine Rs.exb (fun γ => ∃ P : List Int, γ = (P, s, log, rs, cells, w, 12, ()) ∧ (∀ y ∈ P, 0 ≤ y ∧ y < (n : Int)) ∧ P.length ≤ 40) ?_ ?_
  · refine Rs.exi (fun _ => ?_) fun _ => ⟨_, rfl, cutI pk none (some (1 + d1 * (w - 1) / 2)), rfl, hcut _, hcl _⟩
    simp only [Rs.bo, g0]
    rw [if_pos (CDiv_of (show (0 : Int) < 8 by decide) (by decide))]
    simp only [Rs.bo]
    rw [if_pos (show (0 : Int) < (un.length : Int) by omega)]
    have q3 := Int.emod_nonneg (d0 / 8) (show (un.length : Int) ≠ 0 by omega)
    have q4 := Int.emod_lt_of_pos (d0 / 8) (show (0 : Int) < un.length by omega)
    obtain ⟨v, ev, hv, -⟩ := getI_mem (xs := un) (k := d0 / 8 % (un.length : Int)) (by omega) (by omega)
    simp only [Rs.bo, ev, Rs.okl]
    exact ⟨_, rfl, [v], rfl, fun y hy => by rw [List.mem_singleton.mp hy]; exact hun v hv, by simp⟩
  rintro _ ⟨P, rfl, hP, lP⟩
  simp only [Rs.bo]
  rw [appI_ok (by omega)]
  simp only [Rs.bo]
  rw [law_moved_ok ⟨hs.1, by omega⟩ e2 (fun t ht => by have := hP t ht; omega) (by omega)]
  simp only [Rs.bo]
  refine ⟨_, rfl, _, _, rfl, by rw [mvd_len]; exact hn, fun d hd => ?_, by rw [List.length_append]; simp; omega⟩
  rcases List.mem_append.mp hd with e | e
  · exact hg d e
  · rw [List.mem_singleton.mp e]
    exact ⟨hs, hP, by show P.length ≤ 100; omega⟩
theorem wild_ok {rs : List (Int × Str)} {cells : List Int} {w : Int} {n : Nat} (hn : rs.length = n) (h1 : 1 ≤ n) (h2 : n ≤ 40) (hw : 1 ≤ w ∧ w ≤ 6) : ∃ log, m_law_wild_log (rs, cells, w, 12, ()) = .ok log ∧ (∀ d ∈ log, GoodD n d) ∧ log.length ≤ 100 := by
  unfold m_law_wild_log
  simp only [Rs.bo]
  obtain ⟨z, e, hz⟩ := foldR_post (f := fun (γ : Ctx.T [.ow 4 (List (Int × (Tup Int))), .fz 0 (List (Int × Str)), .bo 1 (List Int), .fz 2 Int, .fz 3 Int]) x => m_law_wild_log_l9 (x, γ)) (fun γ => ∃ (log : List (Int × Tup Int)) (rs : List (Int × Str)), γ = (log, rs, cells, w, 12, ()) ∧ rs.length = n ∧ (∀ d ∈ log, GoodD n d) ∧ log.length ≤ 100) (fun log => (∀ d ∈ log, GoodD n d) ∧ log.length ≤ 100) (xs := cells) (g := (([] : List (Int × Tup Int)), rs, cells, w, 12, ()))
    ⟨[], rs, rfl, hn, (fun _ h => by cases h), by simp⟩ (by
    rintro x hx _ ⟨log, rs, rfl, a, b, c⟩
    exact wild_step a h1 h2 hw b c)
  rw [e]
  cases z with
  | inl γ =>
    obtain ⟨log, rs2, rfl, a, b, c⟩ := hz
    exact ⟨log, rfl, b, c⟩
  | inr log => exact ⟨log, rfl, hz⟩

def EiN {γ ρ : Type} (I : γ → Prop) (P : ρ → Prop) : γ ⊕ ρ → Prop
  | .inl g => I g
  | .inr r => P r
theorem foldR_postN {γ ρ α : Type} {f : γ → α → Rs (γ ⊕ ρ)} (I : Nat → γ → Prop) (P : ρ → Prop) : ∀ {xs : List α} (i : Nat) {g : γ}, I i g → (∀ j x g, xs[j]? = some x → I (i + j) g → ∃ z, f g x = .ok z ∧ EiN (I (i + j + 1)) P z) → ∃ z, Rs.foldR f g xs = .ok z ∧ EiN (I (i + xs.length)) P z
  | [], _, g, h, _ => ⟨.inl g, rfl, h⟩
  | x :: xs, i, g, h, hs => by
    obtain ⟨z, e, hz⟩ := hs 0 x g rfl h
    cases z with
    | inl g' =>
      obtain ⟨z2, e2, hz2⟩ := foldR_postN I P (xs := xs) (i + 1) (g := g') hz fun j y g hy hg => by
        have := hs (j + 1) y g (by simpa using hy) (by rw [show i + (j + 1) = i + 1 + j by omega]; exact hg)
        rw [show i + (j + 1) = i + 1 + j by omega] at this
        exact this
      refine ⟨z2, ?_, by rw [show i + (x :: xs).length = i + 1 + xs.length by rw [List.length_cons]; omega]; exact hz2⟩
      show (f g x).bind _ = _
      rw [e]
      exact e2
    | inr r =>
      refine ⟨.inr r, ?_, hz⟩
      show (f g x).bind _ = _
      rw [e]
      rfl

theorem capped_is {b e n : Int} (b0 : 2 ≤ b) (b1 : b ≤ 1000) (e0 : 0 ≤ e) (n0 : 1 ≤ n) : m_capped_power (b, e, n, ()) = .ok (min (b ^ e.toNat) n) := by
  obtain ⟨k, rfl⟩ := Int.eq_ofNat_of_zero_le e0
  rw [Int.toNat_natCast]
  obtain ⟨j, hj, hmin⟩ := least_ex (p := fun j : Nat => j = k ∨ n ≤ b ^ j) ⟨k, .inl rfl⟩
  have hjk : j ≤ k := Nat.le_of_not_lt fun h => hmin k h (.inl rfl)
  unfold m_capped_power
  simp only [Rs.bo]
  have hw := whl_count (t := m_capped_power_w1) (b := m_capped_power_l2) (fun i : Nat => ((k : Int) - i, b ^ i, b, n, ())) j (fun i hi => by
      have h := hmin i hi
      have h1 : i ≠ k := fun e => h (.inl e)
      have h2 : ¬ n ≤ b ^ i := fun e => h (.inr e)
      show m_capped_power_w1 ((k : Int) - i, b ^ i, b, n, ()) = _
      unfold m_capped_power_w1
      simp only [Rs.bo]
      rw [dtrue (show (0 : Int) < (k : Int) - i by omega), dtrue (show b ^ i < n by omega)]
      rfl) (fun i hi => by
      show m_capped_power_l2 ((k : Int) - i, b ^ i, b, n, ()) = _
      unfold m_capped_power_l2
      simp only [Rs.bo, if_pos (CMul_r (i := b ^ i) (show -1000000000000 ≤ b by omega) (show b ≤ 1000000000000 by omega))]
      rw [Int.pow_succ, show (k : Int) - i - 1 = (k : Int) - ((i + 1 : Nat) : Int) by omega]) (by
      show m_capped_power_w1 ((k : Int) - j, b ^ j, b, n, ()) = _
      unfold m_capped_power_w1
      simp only [Rs.bo]
      rcases hj with e | e
      · rw [decide_eq_false (show ¬ (0 : Int) < (k : Int) - j by omega)]
        rfl
      · rw [decide_eq_false (show ¬ b ^ j < n by omega)]
        cases decide ((0 : Int) < (k : Int) - j) <;> rfl)
  have h0 : Rs.whl m_capped_power_w1 m_capped_power_l2 ((k : Int), (1 : Int), b, n, ()) = .ok ((k : Int) - (j : Int), b ^ j, b, n, ()) := by
    have : ((k : Int), (1 : Int), b, n, ()) = ((k : Int) - ((0 : Nat) : Int), b ^ 0, b, n, ()) := by rw [Int.pow_zero]; simp
    rw [this]
    exact hw
  rw [h0]
  simp only [Rs.bo]
  rw [minI_two]
  rcases hj with e | e
  · rw [e]
  · have := pow_mono (show 1 ≤ b by omega) hjk
    congr 1
    omega

/-! ### what an outcome is -/
def Zc (L ns : List Int) (h : Int) : Int := (((rng 0 (L.length : Int)).filter fun k => decide (L.getD k.toNat 0 ≤ h ∧ ns.getD k.toNat 0 = 0)).length : Int)
structure OutP (w e : Int) (L ns : List Int) : Prop where
  len : ns.length = L.length
  nn : ∀ x ∈ ns, 0 ≤ x
  sum : ns.sum = L.length
  cap : ∀ k : Int, 0 ≤ k → k < L.length → ns.getD k.toNat 0 ≤ capE w (L.getD k.toNat 0) e
  hts : ∀ h x : Int, x ∈ L → e ≤ h → h < x → h + 1 - e ≤ Zc L ns h
theorem getD_mem {L : List Int} {k : Nat} (h : k < L.length) : L.getD k 0 ∈ L := by
  rw [List.getD_eq_getElem?_getD, List.getElem?_eq_getElem h]
  exact List.getElem_mem h
theorem map_getD (L : List Int) : (rng 0 (L.length : Int)).map (fun k => L.getD k.toNat 0) = L := by
  unfold rng
  rw [List.map_map]
  apply List.ext_getElem?
  intro i
  rw [List.getElem?_map]
  by_cases h : i < L.length
  · rw [List.getElem?_range (by omega), Option.map_some, List.getElem?_eq_getElem h]
    show some (L.getD ((0 : Int) + (i : Int)).toNat 0) = _
    rw [show ((0 : Int) + (i : Int)).toNat = i by omega, List.getD_eq_getElem?_getD, List.getElem?_eq_getElem h]
    rfl
  · rw [List.getElem?_eq_none (by rw [List.length_range]; omega), List.getElem?_eq_none (by omega)]
    rfl
theorem filter_len (L : List Int) (p : Int → Bool) : ((rng 0 (L.length : Int)).filter fun k => p (L.getD k.toNat 0)).length = (L.filter p).length := by
  rw [show (fun k : Int => p (L.getD k.toNat 0)) = p ∘ (fun k : Int => L.getD k.toNat 0) from rfl, ← List.length_map (f := fun k : Int => L.getD k.toNat 0), ← List.filter_map, map_getD]
theorem Zc_le (L ns : List Int) (h : Int) : Zc L ns h ≤ below L (h + 1) := by
  have h1 : ((rng 0 (L.length : Int)).filter fun k => decide (L.getD k.toNat 0 ≤ h ∧ ns.getD k.toNat 0 = 0)).length ≤ ((rng 0 (L.length : Int)).filter fun k => decide (L.getD k.toNat 0 ≤ h)).length := by
    rw [← List.countP_eq_length_filter, ← List.countP_eq_length_filter]
    refine List.countP_mono_left fun x _ hx => ?_
    rw [decide_eq_true_eq] at hx ⊢
    exact hx.1
  rw [filter_len L fun x => decide (x ≤ h)] at h1
  unfold Zc below
  have e : (L.filter fun x => decide (x ≤ h)) = L.filter fun y => decide (y < h + 1) := List.filter_congr fun x _ => by
    by_cases c : x ≤ h
    · rw [decide_eq_true c, decide_eq_true (by omega)]
    · rw [decide_eq_false c, decide_eq_false (by omega)]
  rw [e] at h1
  omega
theorem sum_idx : ∀ {ns L : List Int} {g : Int → Int}, ns.length = L.length → (∀ k : Nat, k < L.length → ns.getD k 0 ≤ g (L.getD k 0)) → ns.sum ≤ (L.map g).sum
  | [], [], _, _, _ => Int.le_refl _
  | a :: ns, x :: L, g, hl, h => by
    have h0 := h 0 (by rw [List.length_cons]; omega)
    have := sum_idx (ns := ns) (L := L) (g := g) (by simpa using hl) fun k hk => h (k + 1) (by rw [List.length_cons]; omega)
    rw [List.map_cons, List.sum_cons, List.sum_cons]
    have h0 : a ≤ g x := h0
    omega
  | [], _ :: _, _, hl, _ => by cases hl
  | _ :: _, [], _, hl, _ => by cases hl
theorem OutP.ends {w e f g : Int} {L ns : List Int} (h : OutP w e L ns) (hf : LowIs L f) (hg : HighIs w L g) : f ≤ e ∧ e ≤ g := by
  refine ⟨?_, ?_⟩
  · by_cases c : f ≤ e
    · exact c
    · obtain ⟨⟨x, hx, ex⟩, -⟩ := hf
      have hb := below_nn L x
      have a := h.hts (x - 1) x hx (by omega) (by omega)
      have b := Zc_le L ns (x - 1)
      rw [show x - 1 + 1 = x by omega] at b
      omega
  · refine hg.2 e ?_
    rw [← h.sum]
    exact sum_idx h.len fun k hk => by
      have := h.cap (k : Int) (by omega) (by omega)
      rwa [Int.toNat_natCast] at this
theorem nums_le {ns : List Int} (h : ∀ x ∈ ns, 0 ≤ x) : ∀ x ∈ ns, x ≤ ns.sum := by
  induction ns with
  | nil => intro x hx; cases hx
  | cons a ns ih =>
    intro x hx
    have hs : 0 ≤ ns.sum := by
      have : ∀ M : List Int, (∀ x ∈ M, 0 ≤ x) → 0 ≤ M.sum := fun M hM => by
        induction M with
        | nil => exact Int.le_refl _
        | cons b M ih2 =>
          rw [List.sum_cons]
          have := hM b List.mem_cons_self
          have := ih2 fun y hy => hM y (List.mem_cons_of_mem _ hy)
          omega
      exact this ns fun y hy => h y (List.mem_cons_of_mem _ hy)
    have ha := h a List.mem_cons_self
    rw [List.sum_cons]
    rcases List.mem_cons.mp hx with e | e
    · omega
    · have := ih (fun y hy => h y (List.mem_cons_of_mem _ hy)) x e
      omega

/-! ### the law's order -/
def ordL (L : List Int) : List Int := (((rng 0 (L.length : Int)).map fun i => (L.getD i.toNat 0, i)).mergeSort leP).map (·.2)
theorem lvl_getD {rs : List (Int × Str)} {k : Int} (h0 : 0 ≤ k) (h1 : k < rs.length) : (lvs rs).getD k.toNat 0 = lvl rs k := by
  rw [List.getD_eq_getElem?_getD, lvs_at h0 h1]
  rfl
theorem ordL_is (rs : List (Int × Str)) : ordL (lvs rs) = ordI rs := by
  unfold ordL ordI prs
  rw [lvs_len]
  congr 2
  exact List.map_congr_left fun i hi => by
    have hi := mem_rng.mp hi
    rw [lvl_getD hi.1 hi.2]
theorem rng_lt (lo hi : Int) : (rng lo hi).Pairwise (· < ·) := by
  unfold rng
  exact List.Pairwise.map _ (fun a b (h : a < b) => show lo + (a : Int) < lo + (b : Int) by omega) (List.pairwise_lt_range)
theorem order_in {L : List Int} {level : Int} : ∀ (xs O O0 : List Int), xs.Nodup → (∀ k ∈ xs, 0 ≤ k ∧ k < L.length) → O.length + xs.length ≤ 100000 → (∀ k ∈ xs, k ∈ O ↔ k ∈ O0) →
    Rs.fold (fun (γ : Ctx.T [.fz 2 Int, .ow 1 (List Int), .bo 0 (List Int)]) x => m_law_order_l1 (x, γ)) (level, O, L, ()) xs = .ok (level, O ++ xs.filter (fun k => decide (L.getD k.toNat 0 = level ∧ k ∉ O0)), L, ())
  | [], O, _, _, _, _, _ => by rw [List.filter_nil, List.append_nil]; rfl
  | x :: xs, O, O0, nd, hr, hl, ho => by
    obtain ⟨n1, n2⟩ := List.nodup_cons.mp nd
    rw [List.length_cons] at hl
    have hx := hr x List.mem_cons_self
    have hox := ho x List.mem_cons_self
    show (m_law_order_l1 (x, level, O, L, ())).bind _ = _
    have el : m_law_order_l1 (x, level, O, L, ()) = .ok (level, (if decide (L.getD x.toNat 0 = level ∧ x ∉ O0) = true then O ++ [x] else O), L, ()) := by
      unfold m_law_order_l1
      simp only [Rs.bo]
      rw [getD_at hx.1 hx.2]
      simp only [Rs.bo]
      by_cases c1 : L.getD x.toNat 0 = level
      · rw [decide_eq_true c1]
        simp only [if_true]
        by_cases c2 : x ∈ O
        · rw [decide_eq_true c2, decide_eq_false (show ¬ (L.getD x.toNat 0 = level ∧ x ∉ O0) from fun z => z.2 (hox.mp c2))]
          rfl
        · rw [decide_eq_false c2, decide_eq_true (show L.getD x.toNat 0 = level ∧ x ∉ O0 from ⟨c1, fun z => c2 (hox.mpr z)⟩)]
          simp only [Rs.bo, Bool.not_false, if_true]
          rw [appI_ok (by omega)]
          rfl
      · rw [decide_eq_false c1, decide_eq_false (show ¬ (L.getD x.toNat 0 = level ∧ x ∉ O0) from fun z => c1 z.1)]
        rfl
    rw [el]
    have ol : (if decide (L.getD x.toNat 0 = level ∧ x ∉ O0) = true then O ++ [x] else O).length ≤ O.length + 1 := by
      split
      · rw [List.length_append]; exact Nat.le_refl _
      · omega
    refine (order_in xs _ O0 n2 (fun k hk => hr k (List.mem_cons_of_mem _ hk)) (by omega) fun k hk => ?_).trans ?_
    · have hk' := ho k (List.mem_cons_of_mem _ hk)
      split
      · rw [List.mem_append, List.mem_singleton]
        exact ⟨fun z => z.elim hk'.mp fun e => absurd (by rw [← e]; exact hk) n1, fun z => .inl (hk'.mpr z)⟩
      · exact hk'
    · rw [List.filter_cons]
      split
      · rw [List.append_assoc]; rfl
      · rfl
structure OrdInv (L pre O : List Int) : Prop where
  mem : ∀ k, k ∈ O ↔ (0 ≤ k ∧ k < (L.length : Int)) ∧ L.getD k.toNat 0 ∈ pre
  nd : O.Nodup
  up : (O.map fun k => (L.getD k.toNat 0, k)).Pairwise fun a b => leP a b = true
theorem order_out {L : List Int} (hL : L.length ≤ 1000) : ∀ (ys pre O : List Int), OrdInv L pre O → (pre ++ ys).Pairwise (· ≤ ·) → O.length ≤ L.length →
    ∃ O', Rs.fold (fun (γ : Ctx.T [.ow 1 (List Int), .bo 0 (List Int)]) x => m_law_order_l2 (x, γ)) (O, L, ()) ys = .ok (O', L, ()) ∧ OrdInv L (pre ++ ys) O'
  | [], pre, O, h, _, _ => ⟨O, rfl, by rw [List.append_nil]; exact h⟩
  | y :: ys, pre, O, h, hs, ol => by
    have e : pre ++ y :: ys = (pre ++ [y]) ++ ys := by simp
    rw [e] at hs ⊢
    obtain ⟨p1, -, p2⟩ := List.pairwise_append.mp (List.pairwise_append.mp hs).1
    have h' : OrdInv L (pre ++ [y]) (O ++ (rng 0 (L.length : Int)).filter fun k => decide (L.getD k.toNat 0 = y ∧ k ∉ O)) := by
      refine ⟨fun k => ?_, ?_, ?_⟩
      · rw [List.mem_append, List.mem_append, List.mem_filter, mem_rng, decide_eq_true_eq, List.mem_singleton, h.mem]
        constructor
        · rintro (⟨a, b⟩ | ⟨a, b, c⟩)
          · exact ⟨a, .inl b⟩
          · exact ⟨a, .inr b⟩
        · rintro ⟨a, b | b⟩
          · exact .inl ⟨a, b⟩
          · by_cases c : L.getD k.toNat 0 ∈ pre
            · exact .inl ⟨a, c⟩
            · exact .inr ⟨a, b, fun z => c z.2⟩
      · refine List.nodup_append.mpr ⟨h.nd, ((rng_lt _ _).imp fun {a b} (z : a < b) => (by omega : a ≠ b)).filter _, fun a ha b hb => ?_⟩
        have hb := of_decide_eq_true (List.mem_filter.mp hb).2
        rintro rfl
        exact hb.2 ha
      · rw [List.map_append]
        refine List.pairwise_append.mpr ⟨h.up, ?_, fun a ha b hb => ?_⟩
        · refine List.pairwise_map.mpr ?_
          have hp := ((rng_lt 0 (L.length : Int)).filter fun k => decide (L.getD k.toNat 0 = y ∧ k ∉ O))
          refine hp.imp_of_mem fun {a b} ha hb z => ?_
          have ha := of_decide_eq_true (List.mem_filter.mp ha).2
          have hb := of_decide_eq_true (List.mem_filter.mp hb).2
          unfold leP
          rw [decide_eq_true_eq]
          exact .inr ⟨ha.1.trans hb.1.symm, by show a ≤ b; omega⟩
        · obtain ⟨k, hk, rfl⟩ := List.mem_map.mp ha
          obtain ⟨j, hj, rfl⟩ := List.mem_map.mp hb
          obtain ⟨j1, j2⟩ := List.mem_filter.mp hj
          have j2 := of_decide_eq_true j2
          have hk' := (h.mem k).mp hk
          have hle : L.getD k.toNat 0 ≤ y := p2 _ hk'.2 y (by simp)
          have hne : L.getD k.toNat 0 ≠ y := fun z => j2.2 ((h.mem j).mpr ⟨mem_rng.mp j1, by rw [j2.1, ← z]; exact hk'.2⟩)
          unfold leP
          rw [decide_eq_true_eq]
          left
          show L.getD k.toNat 0 < L.getD j.toNat 0
          rw [j2.1]
          omega
    have ol' : (O ++ (rng 0 (L.length : Int)).filter fun k => decide (L.getD k.toNat 0 = y ∧ k ∉ O)).length ≤ L.length := by
      have := nd_le (ys := rng 0 (L.length : Int)) h'.nd fun k hk => mem_rng.mpr ((h'.mem k).mp hk).1
      rw [rng_len] at this
      omega
    obtain ⟨O', eO, hO⟩ := order_out hL ys (pre ++ [y]) _ h' hs ol'
    refine ⟨O', ?_, hO⟩
    show (m_law_order_l2 (y, O, L, ())).bind _ = _
    have el : m_law_order_l2 (y, O, L, ()) = .ok (O ++ (rng 0 (L.length : Int)).filter (fun k => decide (L.getD k.toNat 0 = y ∧ k ∉ O)), L, ()) := by
      unfold m_law_order_l2
      simp only [Rs.bo]
      rw [Rng_nat (by omega)]
      simp only [Rs.bo]
      rw [order_in (rng 0 (L.length : Int)) O O ((rng_lt _ _).imp fun {a b} (z : a < b) => (by omega : a ≠ b)) (fun k hk => mem_rng.mp hk) (by rw [rng_len]; omega) fun _ _ => Iff.rfl]
      rfl
    rw [el]
    exact eO
theorem law_order_ok {L : List Int} (hL : L.length ≤ 1000) : m_law_order (L, ()) = .ok (ordL L) := by
  unfold m_law_order
  simp only [Rs.bo, Rs.okl]
  obtain ⟨O, e, h⟩ := order_out hL (sortI L) [] [] ⟨fun k => by simp, List.nodup_nil, List.Pairwise.nil⟩ (by rw [List.nil_append]; exact sortI_up L) (Nat.zero_le _)
  rw [e]
  simp only [Rs.bo]
  rw [List.nil_append] at h
  congr 1
  have hm : ∀ k, k ∈ O ↔ k ∈ rng 0 (L.length : Int) := fun k => by
    rw [h.mem, mem_rng]
    refine ⟨fun z => z.1, fun z => ⟨z, (sortI_perm L).mem_iff.mpr ?_⟩⟩
    rw [List.getD_eq_getElem?_getD, List.getElem?_eq_getElem (by omega)]
    exact List.getElem_mem _
  have hp : O.Perm (rng 0 (L.length : Int)) := (List.perm_ext_iff_of_nodup h.nd ((rng_lt _ _).imp fun {a b} (z : a < b) => (by omega : a ≠ b))).mpr hm
  have hq : (O.map fun k => (L.getD k.toNat 0, k)) = ((rng 0 (L.length : Int)).map fun i => (L.getD i.toNat 0, i)).mergeSort leP :=
    List.Perm.eq_of_pairwise (fun a b _ _ h1 h2 => leP_anti h1 h2) h.up (List.pairwise_mergeSort (le := leP) (fun _ _ _ h k => leP_trans h k) leP_total _) ((hp.map _).trans (List.mergeSort_perm _ _).symm)
  unfold ordL
  rw [← hq, List.map_map]
  exact (List.map_id'' (fun _ => rfl) O).symm

theorem deed_cell_ok (ns : List Int) {k : Int} (h0 : 0 ≤ k) (h1 : k ≤ 1000) : ∃ v, m_law_deed_cell (⟨ns⟩, k, ()) = .ok v := by
  obtain ⟨c1, hc1⟩ := cell_ex ⟨ns⟩ 1 (by decide)
  unfold m_law_deed_cell
  simp only [Rs.bo, hc1]
  by_cases c : k < (ns.length : Int)
  · rw [decide_eq_true c]
    simp only [if_true]
    obtain ⟨v, e, -⟩ := getI_mem (xs := ns) h0 c
    rw [e]
    exact ⟨v, rfl⟩
  · rw [decide_eq_false c]
    simp only [Bool.false_eq_true, if_false]
    rw [if_pos (show CMul 104729 (k + 1) from CMul_l (by omega) (by omega)), if_pos (show CMul 31 c1 from CMul_l (by omega) (by omega))]
    exact ⟨_, rfl⟩
theorem small_mul {a b m n : Int} (a0 : 0 ≤ a) (a1 : a ≤ m) (b0 : 0 ≤ b) (b1 : b ≤ n) : 0 ≤ a * b ∧ a * b ≤ m * n :=
  ⟨Int.mul_nonneg a0 b0, Int.le_trans (Int.mul_le_mul_of_nonneg_right a1 b0) (Int.mul_le_mul_of_nonneg_left b1 (by omega))⟩
theorem levels_e2 {ds : List Int} {n base dl x : Int} (gl : getI ds (2 * n) = .ok dl) (n1 : 1 ≤ n) (n2 : n ≤ 40) : ∃ y, m_law_levels_e2 (x, ds, n, base, ()) = .ok y ∧ base ≤ y ∧ y ≤ base + 200 := by
  unfold m_law_levels_e2
  simp only [Rs.bo]
  rw [if_pos (CMul_l (by omega) (by omega))]
  simp only [Rs.bo]
  rw [gl]
  simp only [Rs.bo]
  rw [if_pos (show (0 : Int) < n by omega)]
  have q0 : 0 ≤ (x + dl) % n := Int.emod_nonneg _ (by omega)
  have q1 : (x + dl) % n < n := Int.emod_lt_of_pos _ (by omega)
  exact ⟨_, rfl, by show base ≤ base + (x + dl) % n; omega, by show base + (x + dl) % n ≤ base + 200; omega⟩
theorem levels_ok {cell hand spread base : Int} {n : Nat} (n1 : 1 ≤ n) (n2 : n ≤ 40) (s0 : 1 ≤ spread) (s1 : spread ≤ 100) :
    ∃ lv : List Int, m_law_levels (cell, hand, (n : Int), spread, base, ()) = .ok lv ∧ lv.length = n ∧ ∀ x ∈ lv, base ≤ x ∧ x ≤ base + 200 := by
  unfold m_law_levels
  simp only [Rs.bo, Rs.okl]
  rw [repI_ok (by omega) (by omega) (by simp; omega)]
  simp only [Rs.bo]
  rw [catI_ok (by rw [rep_flen]; simp; omega)]
  simp only [Rs.bo]
  have hm : ∀ s ∈ (List.replicate (n : Int).toNat [spread, 2]).flatten ++ [40], 0 < s ∧ s < 1000000 := fun s hs => by
    rcases List.mem_append.mp hs with h | h
    · have := Wm.rep_mem h
      simp only [List.mem_cons, List.not_mem_nil, or_false] at this
      omega
    · rw [List.mem_singleton.mp h]; decide
  obtain ⟨ds, hds, hD⟩ := draws_ok cell ((List.replicate (n : Int).toNat [spread, 2]).flatten ++ [40]) hm (by rw [List.length_append, rep_flen]; simp; omega)
  rw [hds]
  simp only [Rs.bo]
  have e2 : (n : Int).toNat = n := Int.toNat_natCast n
  rw [e2] at hD
  have flen : ((List.replicate n [spread, 2]).flatten).length = n * 2 := by rw [rep_flen]; rfl
  have at0 : ∀ k : Int, 0 ≤ k → k < n → ∃ d, getI ds (2 * k) = .ok d ∧ 0 ≤ d ∧ d < spread := fun k k0 k1 => by
    refine hD.g (2 * k) (by omega) (s := spread) ?_
    rw [show (2 * k).toNat = 2 * k.toNat by omega, List.getElem?_append_left (by rw [flen]; omega), rep_get _ _ (by simp; omega)]
    simp
  have at1 : ∀ k : Int, 0 ≤ k → k < n → ∃ d, getI ds (2 * k + 1) = .ok d ∧ 0 ≤ d ∧ d < 2 := fun k k0 k1 => by
    refine hD.g (2 * k + 1) (by omega) (s := 2) ?_
    rw [show (2 * k + 1).toNat = 2 * k.toNat + 1 by omega, List.getElem?_append_left (by rw [flen]; omega), rep_get _ _ (by simp; omega)]
    simp [Nat.add_mod]
  obtain ⟨dl, gl, l0, l1⟩ := hD.g (2 * (n : Int)) (by omega) (s := 40) (by
    rw [show (2 * (n : Int)).toNat = n * 2 by omega, List.getElem?_append_right (by rw [flen]; omega), flen, Nat.sub_self]
    rfl)
  have cm : ∀ k : Int, CMul 2 k := fun k => CMul_l (by omega) (by omega)
  refine Rs.exi (fun _ => ?_) fun _ => Rs.exi (fun _ => ?_) fun _ => Rs.exi (fun _ => ?_) fun _ => ?_
  · rw [repI_one (by omega) (by omega)]
    exact ⟨_, rfl, by rw [List.length_replicate, e2], fun x hx => by rw [(List.mem_replicate.mp hx).2]; omega⟩
  all_goals
    rw [Rng_nat (by omega)]
    simp only [Rs.bo]
    rw [if_pos (by rw [rng_len]; omega)]
  · obtain ⟨lv, e, el, eP⟩ := comp_ex (t := fun _ => Rs.ok true) (f := fun x => m_law_levels_e1 (x, ds, (n : Int), base, ())) (fun _ (x : Int) => base ≤ x ∧ x ≤ base + 200) (xs := rng 0 (n : Int)) (fun _ _ => rfl) (by
      intro i x hx
      have hx := mem_rng.mp (List.mem_of_getElem? hx)
      obtain ⟨d, gd, d0, d1⟩ := at1 x hx.1 hx.2
      show ∃ y, m_law_levels_e1 (x, ds, (n : Int), base, ()) = .ok y ∧ _
      unfold m_law_levels_e1
      simp only [Rs.bo]
      rw [if_pos (cm _)]
      simp only [Rs.bo]
      rw [gl]
      simp only [Rs.bo]
      rw [if_pos (cm _)]
      simp only [Rs.bo]
      rw [gd]
      simp only [Rs.bo]
      rw [if_pos (CMul_l (by omega) (by omega))]
      have := small_mul (a := 1 + dl) (m := 40) (b := d) (n := 1) (by omega) (by omega) d0 (by omega)
      exact ⟨_, rfl, by show base ≤ base + (1 + dl) * d; omega, by show base + (1 + dl) * d ≤ base + 200; omega⟩)
    exact ⟨lv, e, by rw [el, rng_len]; omega, fun x hx => by obtain ⟨i, hi⟩ := List.mem_iff_getElem?.mp hx; exact eP i x hi⟩
  · obtain ⟨lv, e, el, eP⟩ := comp_ex (t := fun _ => Rs.ok true) (f := fun x => m_law_levels_e2 (x, ds, (n : Int), base, ())) (fun _ (x : Int) => base ≤ x ∧ x ≤ base + 200) (xs := rng 0 (n : Int)) (fun _ _ => rfl) (by
      intro i x hx
      have hx := mem_rng.mp (List.mem_of_getElem? hx)
      exact levels_e2 gl (by omega) (by omega))
    exact ⟨lv, e, by rw [el, rng_len]; omega, fun x hx => by obtain ⟨i, hi⟩ := List.mem_iff_getElem?.mp hx; exact eP i x hi⟩
  · obtain ⟨lv, e, el, eP⟩ := comp_ex (t := fun _ => Rs.ok true) (f := fun x => m_law_levels_e3 (x, ds, base, ())) (fun _ (x : Int) => base ≤ x ∧ x ≤ base + 200) (xs := rng 0 (n : Int)) (fun _ _ => rfl) (by
      intro i x hx
      have hx := mem_rng.mp (List.mem_of_getElem? hx)
      obtain ⟨d, gd, d0, d1⟩ := at0 x hx.1 hx.2
      show ∃ y, m_law_levels_e3 (x, ds, base, ()) = .ok y ∧ _
      unfold m_law_levels_e3
      simp only [Rs.bo]
      rw [if_pos (cm _)]
      simp only [Rs.bo]
      rw [gd]
      exact ⟨_, rfl, by show base ≤ base + d; omega, by show base + d ≤ base + 200; omega⟩)
    exact ⟨lv, e, by rw [el, rng_len]; omega, fun x hx => by obtain ⟨i, hi⟩ := List.mem_iff_getElem?.mp hx; exact eP i x hi⟩
/-! ### playing on -/
structure Lies (n : Nat) (lo hi : Int) (rs : List (Int × Str)) : Prop where
  len : rs.length = n
  bnd : ∀ r ∈ rs, lo ≤ r.1 ∧ r.1 ≤ hi
theorem mvd_lies {n : Nat} {lo hi : Int} {rs : List (Int × Str)} {d : Int × Tup Int} (h : Lies n lo hi rs) (hd : GoodD n d) : Lies n (lo - 1) hi ((d.1 :: d.2.items).foldl (mvd (rowA rs d.1)) rs) := by
  refine ⟨(mvd_len _ _ _).trans h.len, fun r hr => ?_⟩
  have hm := rowA_mem (rs := rs) hd.s.1 (by rw [h.len]; exact hd.s.2)
  have := h.bnd _ hm
  rcases mvd_mem _ _ _ _ hr with e | e
  · have := h.bnd r e; omega
  · rw [e]
    show lo - 1 ≤ (rowA rs d.1).1 - 1 ∧ (rowA rs d.1).1 - 1 ≤ hi
    omega
theorem played_ok {n : Nat} {all : List (Int × Tup Int)} {hi : Int} : ∀ (log : List (Int × Tup Int)) (lo : Int) (rs : List (Int × Str)), Lies n lo hi rs → (∀ d ∈ log, GoodD n d) →
    ∃ rs', Rs.fold (fun (γ : Ctx.T [.fz 0 (List (Int × Str)), .bo 1 (List (Int × Tup Int))]) x => m_law_played_l1 (x, γ)) (rs, all, ()) log = .ok (rs', all, ()) ∧ Lies n (lo - log.length) hi rs'
  | [], lo, rs, h, _ => ⟨rs, rfl, by rw [List.length_nil]; exact ⟨h.len, fun r hr => by have := h.bnd r hr; omega⟩⟩
  | d :: log, lo, rs, h, hg => by
    have hd := hg d List.mem_cons_self
    obtain ⟨rs', e, h'⟩ := played_ok (all := all) log (lo - 1) _ (mvd_lies h hd) fun x hx => hg x (List.mem_cons_of_mem _ hx)
    refine ⟨rs', ?_, by rw [List.length_cons]; exact ⟨h'.len, fun r hr => by have := h'.bnd r hr; omega⟩⟩
    have hs : 0 ≤ d.1 ∧ d.1 < rs.length := by rw [h.len]; exact hd.s
    show (m_law_played_l1 (d, rs, all, ())).bind _ = _
    have el : m_law_played_l1 (d, rs, all, ()) = .ok ((d.1 :: d.2.items).foldl (mvd (rowA rs d.1)) rs, all, ()) := by
      unfold m_law_played_l1
      simp only [Rs.bo]
      rw [show m_law_moved_v2 (rs, d.1, d.2, ()) = .ok ((d.1 :: d.2.items).foldl (mvd (rowA rs d.1)) rs) from law_moved2_ok hs (rowA_get hs.1 hs.2) (fun t ht => by rw [h.len]; exact hd.t t ht) (Nat.le_trans hd.l (by decide))]
      rfl
    rw [el]
    exact e
theorem law_played_ok {n : Nat} {log : List (Int × Tup Int)} {lo hi : Int} {rs : List (Int × Str)} (h : Lies n lo hi rs) (hg : ∀ d ∈ log, GoodD n d) : ∃ rs', m_law_played (rs, log, ()) = .ok rs' ∧ Lies n (lo - log.length) hi rs' := by
  obtain ⟨rs', e, h'⟩ := played_ok (all := log) log lo rs h hg
  refine ⟨rs', ?_, h'⟩
  unfold m_law_played
  simp only [Rs.bo]
  rw [e]
  rfl
theorem finished_step {n : Nat} (n1 : 1 ≤ n) (n2 : n ≤ 40) {k pick : Int} {log : List (Int × Tup Int)} {rs : List (Int × Str)} (hl : rs.length = n) (hll : log.length ≤ 2000) (hg : ∀ d ∈ log, GoodD n d) :
    ∃ z, m_law_finished_l6 (k, log, rs, pick, ()) = .ok z ∧ EiN (fun γ => ∃ log' rs', γ = (log', rs', pick, ()) ∧ rs'.length = n ∧ log'.length = log.length + 1 ∧ ∀ d ∈ log', GoodD n d) (fun r => (∀ d ∈ r, GoodD n d) ∧ r.length = log.length) z := by
  have ln := lvs_len rs
  obtain ⟨T, eT, mT, uT⟩ := maxI_ok (xs := lvs rs) (by intro e; rw [e] at ln; simp at ln; omega)
  unfold m_law_finished_l6
  simp only [Rs.bo, Rs.okl]
  rw [if_pos (by omega), show Rs.comp (fun x => Rs.ok true) (fun x => m_law_finished_e1 (x, ())) rs = .ok (lvs rs) from Wm.comp_map (fun _ _ => rfl) fun _ _ => rfl]
  simp only [Rs.bo]
  rw [eT]
  simp only [Rs.bo]
  rw [Rng_nat (by omega)]
  simp only [Rs.bo]
  rw [if_pos (by rw [rng_len]; omega), show Rs.comp (fun x => m_law_finished_t2 (x, T, rs, ())) (fun x => m_law_finished_e3 (x, T, rs, ())) (rng 0 (rs.length : Int)) = .ok (((rng 0 (rs.length : Int)).filter fun j => decide (lvl rs j < T)).map fun x => x) from comp_on (fun j : Int => decide (lvl rs j < T)) (fun x => x) fun x hx => ⟨by
    have hx := mem_rng.mp hx
    unfold m_law_finished_t2
    simp only [Rs.bo]
    rw [rowA_get hx.1 hx.2]
    simp only [Rs.bo]
    rw [rowA_lvl hx.1 hx.2], fun _ => rfl⟩]
  simp only [Rs.bo, List.map_id']
  have hum : ∀ j ∈ (rng 0 (rs.length : Int)).filter (fun j => decide (lvl rs j < T)), 0 ≤ j ∧ j < rs.length := fun j hj => mem_rng.mp (List.mem_filter.mp hj).1
  generalize (rng 0 (rs.length : Int)).filter (fun j => decide (lvl rs j < T)) = under at hum
  by_cases h0 : (under.length : Int) = 0
  · rw [decide_eq_true h0]
    exact ⟨_, rfl, hg, rfl⟩
  rw [decide_eq_false h0]
  simp only [Bool.false_eq_true, if_false]
  rw [Rng_nat (by omega)]
  simp only [Rs.bo]
  rw [if_pos (by rw [rng_len]; omega), show Rs.comp (fun x => m_law_finished_t4 (x, T, rs, ())) (fun x => m_law_finished_e5 (x, T, rs, ())) (rng 0 (rs.length : Int)) = .ok (((rng 0 (rs.length : Int)).filter fun j => decide (lvl rs j = T)).map fun x => x) from comp_on (fun j : Int => decide (lvl rs j = T)) (fun x => x) fun x hx => ⟨by
    have hx := mem_rng.mp hx
    unfold m_law_finished_t4
    simp only [Rs.bo]
    rw [rowA_get hx.1 hx.2]
    simp only [Rs.bo]
    rw [rowA_lvl hx.1 hx.2], fun _ => rfl⟩]
  simp only [Rs.bo, List.map_id']
  obtain ⟨q, q0, q1, q2⟩ := lvs_mem.mp mT
  have hs1 : q ∈ (rng 0 (rs.length : Int)).filter (fun j => decide (lvl rs j = T)) := List.mem_filter.mpr ⟨mem_rng.mpr ⟨q0, q1⟩, decide_eq_true q2⟩
  obtain ⟨s, es, ms, -⟩ := getI_mem (xs := (rng 0 (rs.length : Int)).filter fun j => decide (lvl rs j = T)) (k := 0) (Int.le_refl 0) (by have := List.length_pos_of_mem hs1; omega)
  rw [es]
  simp only [Rs.bo]
  have hs := mem_rng.mp (List.mem_filter.mp ms).1
  rw [if_pos (show CMul 7 k from CMul_l (by omega) (by omega))]
  simp only [Rs.bo]
  rw [if_pos (by omega)]
  simp only [Rs.bo]
  obtain ⟨t, et, mt, -⟩ := getI_mem (xs := under) (k := (pick + 7 * k) % (under.length : Int)) (Int.emod_nonneg _ (by omega)) (Int.emod_lt_of_pos _ (by omega))
  rw [et]
  simp only [Rs.bo, Rs.okl]
  have ht := hum t mt
  rw [appI_ok (by omega)]
  simp only [Rs.bo]
  rw [show m_law_moved (rs, s, [t], ()) = .ok ((s :: [t]).foldl (mvd (rowA rs s)) rs) from law_moved_ok hs (rowA_get hs.1 hs.2) (fun x hx => by rw [List.mem_singleton.mp hx]; exact ht) (by simp)]
  refine ⟨_, rfl, _, _, rfl, by rw [mvd_len]; exact hl, by rw [List.length_append, List.length_singleton], fun d hd => ?_⟩
  rcases List.mem_append.mp hd with e | e
  · exact hg d e
  · rw [List.mem_singleton.mp e]
    exact ⟨by rw [← hl]; exact hs, fun x hx => by rw [List.mem_singleton.mp hx, ← hl]; exact ht, by show (1 : Nat) ≤ 100; decide⟩
theorem finished_ok {n : Nat} (n1 : 1 ≤ n) (n2 : n ≤ 40) {pick : Int} {rs : List (Int × Str)} (hl : rs.length = n) : ∃ log, m_law_finished (rs, [], pick, ()) = .ok log ∧ (∀ d ∈ log, GoodD n d) ∧ log.length ≤ 1600 := by
  unfold m_law_finished
  simp only [Rs.bo]
  rw [Rng_ok (by decide) (by decide) (by decide) (by decide)]
  simp only [Rs.bo]
  obtain ⟨z, e, hz⟩ := foldR_postN (f := fun (γ : Ctx.T [.ow 3 (List (Int × Tup Int)), .fz 0 (List (Int × Str)), .fz 2 Int]) x => m_law_finished_l6 (x, γ)) (fun i γ => ∃ log rs, γ = (log, rs, pick, ()) ∧ rs.length = n ∧ log.length = i ∧ ∀ d ∈ log, GoodD n d) (fun r => (∀ d ∈ r, GoodD n d) ∧ r.length ≤ 1600) (xs := rng 0 1600) 0 (g := ([], rs, pick, ())) ⟨[], rs, rfl, hl, rfl, (fun d hd => nomatch hd)⟩ (by
    rintro j x _ hj ⟨log, rs, rfl, a, b, c⟩
    have hj' := (List.getElem?_eq_some_iff.mp hj).1
    rw [rng_len] at hj'
    have hj2 : j < 1600 := by omega
    obtain ⟨z, e, hz⟩ := finished_step n1 n2 (k := x) (pick := pick) a (by omega) c
    refine ⟨z, e, ?_⟩
    cases z with
    | inl g =>
      obtain ⟨log', rs', rfl, a', b', c'⟩ := hz
      exact ⟨log', rs', rfl, a', by omega, c'⟩
    | inr r => exact ⟨hz.1, by have := hz.2; omega⟩)
  rw [e]
  rw [rng_len] at hz
  cases z with
  | inl g =>
    obtain ⟨log, rs', rfl, a, b, c⟩ := hz
    rw [left_okl]
    exact ⟨log, rfl, c, by rw [b]; decide⟩
  | inr r =>
    rw [left_okr]
    exact ⟨r, rfl, hz⟩
theorem run_ok {ns : List Int} {n : Nat} (n1 : 1 ≤ n) (n2 : n ≤ 40) {w lo hi : Int} {rs : List (Int × Str)} (hw : 1 ≤ w ∧ w ≤ 6) (h : Lies n lo hi rs) : ∃ rs', m_law_run (⟨ns⟩, rs, w, ()) = .ok rs' ∧ Lies n (lo - 2000) hi rs' := by
  obtain ⟨c5, e5⟩ := deed_cell_ok ns (k := 5) (by decide) (by decide)
  unfold m_law_run
  simp only [Rs.bo, Rs.okl, e5]
  obtain ⟨ds, hds, hdD⟩ := draws_ok c5 [13, 60] (by intro s hs; simp only [List.mem_cons, List.not_mem_nil, or_false] at hs; omega) (by simp)
  obtain ⟨d0, gd0, ld0, ud0⟩ := Drawn.g hdD 0 (by decide) rfl
  obtain ⟨d1, gd1, ld1, ud1⟩ := Drawn.g hdD 1 (by decide) rfl
  simp only [hds]
  simp only [Rs.bo, gd0]
  rw [Rng_ok (by omega) (by omega) (by omega) (by omega)]
  simp only [Rs.bo]
  obtain ⟨cells, ec, -, -⟩ := comp_some (t := fun _ => Rs.ok true) (f := fun x => m_law_run_e1 (x, ⟨ns⟩, ())) (fun _ => True) (xs := rng 0 d0) fun x hx => by
    have hx := mem_rng.mp hx
    have x1 : (x : Int) < 13 := Int.lt_trans hx.2 ud0
    obtain ⟨v, ev⟩ := deed_cell_ok ns (k := 6 + x) (Int.add_nonneg (by decide) hx.1) (by omega)
    refine ⟨_, rfl, fun _ => ⟨v, ?_, trivial⟩⟩
    show m_law_run_e1 (x, ⟨ns⟩, ()) = _
    unfold m_law_run_e1
    simp only [Rs.bo]
    exact ev
  rw [if_pos (by rw [rng_len]; omega), ec]
  simp only [Rs.bo]
  obtain ⟨log, el, hg, hll⟩ := wild_ok (cells := cells) h.len n1 n2 hw
  rw [el]
  simp only [Rs.bo]
  obtain ⟨left, e1, h1⟩ := law_played_ok h hg
  rw [e1]
  simp only [Rs.bo, gd1]
  obtain ⟨log2, e2, hg2, hl2⟩ := finished_ok n1 n2 (pick := d1) h1.len
  rw [e2]
  simp only [Rs.bo]
  obtain ⟨rs', e3, h3⟩ := law_played_ok h1 hg2
  exact ⟨rs', e3, h3.len, fun r hr => by have := h3.bnd r hr; omega⟩
/-! ### the law's outcome, the program's -/
theorem law_caps_l3 {L ns : List Int} {w e k : Int} (w0 : 1 ≤ w) (w1 : w ≤ 6) (hb : ∀ x ∈ L, x - e ≤ 1000000) (hl : ns.length = L.length) (k0 : 0 ≤ k) (k1 : k < L.length) (c : Int) :
    m_law_is_outcome_l3 (k, c, L, e, ns, w, ()) = .ok (if decide (capE w (L.getD k.toNat 0) e < ns.getD k.toNat 0) = true then .inr false else .inl (c, L, e, ns, w, ())) := by
  unfold m_law_is_outcome_l3
  simp only [Rs.bo]
  rw [getD_at (L := ns) k0 (by omega), getD_at (L := L) k0 k1]
  simp only [Rs.bo]
  rw [law_cap_is (by omega) (by omega) (hb _ (getD_mem (by omega)))]
  simp only [Rs.bo]
  split <;> rfl
theorem law_hts_l6 {L ns : List Int} {e h : Int} (hl : ns.length = L.length) (h2 : L.length ≤ 1000) : m_law_is_outcome_l6 (h, (L.length : Int), L, e, ns, ()) = .ok (if decide (Zc L ns h < h + 1 - e) = true then .inr false else .inl ((L.length : Int), L, e, ns, ())) := by
  unfold m_law_is_outcome_l6
  simp only [Rs.bo]
  rw [Rng_nat (by omega)]
  simp only [Rs.bo]
  rw [if_pos (by rw [rng_len]; omega), show Rs.comp (fun x => m_law_is_outcome_t4 (x, h, L, ns, ())) (fun x => m_law_is_outcome_e5 (x, h, L, ns, ())) (rng 0 (L.length : Int)) = .ok (((rng 0 (L.length : Int)).filter fun k => decide (L.getD k.toNat 0 ≤ h ∧ ns.getD k.toNat 0 = 0)).map fun x => x) from comp_on (fun k : Int => decide (L.getD k.toNat 0 ≤ h ∧ ns.getD k.toNat 0 = 0)) (fun x => x) fun x hx => ⟨by
    have hx := mem_rng.mp hx
    unfold m_law_is_outcome_t4
    simp only [Rs.bo]
    rw [getD_at (L := L) hx.1 hx.2]
    simp only [Rs.bo]
    by_cases c1 : L.getD x.toNat 0 ≤ h
    · rw [decide_eq_true c1]
      simp only [if_true]
      rw [getD_at (L := ns) hx.1 (by omega)]
      simp only [Rs.bo]
      by_cases c2 : ns.getD x.toNat 0 = 0
      · rw [decide_eq_true c2, decide_eq_true ⟨c1, c2⟩]
      · rw [decide_eq_false c2, decide_eq_false (fun z => c2 z.2)]
    · rw [decide_eq_false c1, decide_eq_false (fun z : _ ∧ _ => c1 z.1)]
      rfl, fun _ => rfl⟩]
  simp only [Rs.bo, List.map_id']
  show (if decide (Zc L ns h < h + 1 - e) = true then _ else _) = _
  split <;> rfl
theorem hts_l4 {L ns : List Int} {e h : Int} (hl : ns.length = L.length) (h2 : L.length ≤ 1000) : m_is_outcome_l4 (h, (L.length : Int), L, e, ns, ()) = .ok (if decide (Zc L ns h < h + 1 - e) = true then .inr false else .inl ((L.length : Int), L, e, ns, ())) := by
  unfold m_is_outcome_l4
  simp only [Rs.bo]
  rw [Rng_nat (by omega)]
  simp only [Rs.bo]
  rw [if_pos (by rw [rng_len]; omega), show Rs.comp (fun x => m_is_outcome_t2 (x, h, L, ns, ())) (fun x => m_is_outcome_e3 (x, h, L, ns, ())) (rng 0 (L.length : Int)) = .ok (((rng 0 (L.length : Int)).filter fun k => decide (L.getD k.toNat 0 ≤ h ∧ ns.getD k.toNat 0 = 0)).map fun x => x) from comp_on (fun k : Int => decide (L.getD k.toNat 0 ≤ h ∧ ns.getD k.toNat 0 = 0)) (fun x => x) fun x hx => ⟨by
    have hx := mem_rng.mp hx
    unfold m_is_outcome_t2
    simp only [Rs.bo]
    rw [getD_at (L := L) hx.1 hx.2]
    simp only [Rs.bo]
    by_cases c1 : L.getD x.toNat 0 ≤ h
    · rw [decide_eq_true c1]
      simp only [if_true]
      rw [getD_at (L := ns) hx.1 (by omega)]
      simp only [Rs.bo]
      by_cases c2 : ns.getD x.toNat 0 = 0
      · rw [decide_eq_true c2, decide_eq_true ⟨c1, c2⟩]
      · rw [decide_eq_false c2, decide_eq_false (fun z => c2 z.2)]
    · rw [decide_eq_false c1, decide_eq_false (fun z : _ ∧ _ => c1 z.1)]
      rfl, fun _ => rfl⟩]
  simp only [Rs.bo, List.map_id']
  show (if decide (Zc L ns h < h + 1 - e) = true then _ else _) = _
  split <;> rfl
theorem any_low {xs : List Int} : (xs.filter fun x => decide (x < 0)).length = 0 ↔ ∀ x ∈ xs, 0 ≤ x := by
  rw [List.length_eq_zero_iff, List.filter_eq_nil_iff]
  exact ⟨fun h x hx => by have := h x hx; rw [decide_eq_true_eq] at this; omega, fun h x hx => by have := h x hx; rw [decide_eq_true_eq]; omega⟩
theorem law_is_outcome_ok {L ns : List Int} {w e f g : Int} (w0 : 1 ≤ w) (w1 : w ≤ 6) (h1 : L ≠ []) (h2 : L.length ≤ 60) (hn2 : ns.length ≤ 1000) (hb : ∀ x ∈ L, -100000 ≤ x ∧ x ≤ 100000) (e0 : -100000 ≤ e) (e1 : e ≤ 100000)
    (hf : m_law_low (L, ()) = .ok f) (hg : m_law_high (L, w, ()) = .ok g) : ∃ b, m_law_is_outcome (L, e, ns, w, ()) = .ok b ∧ (b = true ↔ (f ≤ e ∧ e ≤ g) ∧ OutP w e L ns) := by
  obtain ⟨T, eT, mT, uT⟩ := maxI_ok h1
  have bT := hb T mT
  unfold m_law_is_outcome
  simp only [Rs.bo, hf]
  by_cases a1 : e < f
  · rw [decide_eq_true a1]
    exact ⟨false, rfl, ⟨(fun z => nomatch z), fun z => by omega⟩⟩
  rw [decide_eq_false a1]
  simp only [Bool.false_eq_true, if_false]
  rw [hg]
  simp only [Rs.bo]
  by_cases a2 : g < e
  · rw [decide_eq_true a2]
    exact ⟨false, rfl, ⟨(fun z => nomatch z), fun z => by omega⟩⟩
  rw [decide_eq_false a2]
  simp only [Bool.false_eq_true, if_false]
  by_cases a3' : ¬ ((ns.length : Int) = L.length)
  · rw [decide_eq_false a3']
    exact ⟨false, rfl, ⟨(fun z => nomatch z), fun z => absurd (by rw [z.2.len]) a3'⟩⟩
  have a3 : (ns.length : Int) = L.length := Decidable.not_not.mp a3'
  rw [decide_eq_true a3]
  have hl : ns.length = L.length := by omega
  simp only [Bool.not_true, Bool.false_eq_true, if_false]
  rw [if_pos (by omega), show Rs.comp (fun x => m_law_is_outcome_t1 (x, ())) (fun x => m_law_is_outcome_e2 (x, ())) ns = .ok ((ns.filter fun x => decide (x < 0)).map fun x => x) from comp_on (fun x : Int => decide (x < 0)) (fun x => x) fun x _ => ⟨rfl, fun _ => rfl⟩]
  simp only [Rs.bo, List.map_id']
  by_cases a4 : 0 < ((ns.filter fun x => decide (x < 0)).length : Int)
  · rw [decide_eq_true a4]
    refine ⟨false, rfl, ⟨(fun z => nomatch z), fun z => ?_⟩⟩
    have := any_low.mpr z.2.nn
    omega
  rw [decide_eq_false a4]
  have hnn := any_low.mp (show (ns.filter fun x => decide (x < 0)).length = 0 by omega)
  simp only [Bool.false_eq_true, if_false]
  by_cases a5' : ¬ (ns.sum = (L.length : Int))
  · rw [decide_eq_false a5']
    exact ⟨false, rfl, ⟨(fun z => nomatch z), fun z => absurd z.2.sum a5'⟩⟩
  have a5 : ns.sum = (L.length : Int) := Decidable.not_not.mp a5'
  rw [decide_eq_true a5]
  simp only [Rs.bo, Bool.not_true, Bool.false_eq_true, if_false]
  rw [Rng_nat (by omega)]
  simp only [Rs.bo]
  rw [foldR_test (f := fun (γ : Ctx.T [.fz 4 Int, .bo 0 (List Int), .fz 1 Int, .bo 2 (List Int), .fz 3 Int]) x => m_law_is_outcome_l3 (x, γ)) (g := ((L.length : Int), L, e, ns, w, ())) (xs := rng 0 (L.length : Int)) (fun k => decide (capE w (L.getD k.toNat 0) e < ns.getD k.toNat 0)) (r := false) fun x hx => law_caps_l3 w0 w1 (fun x hx => by have := hb x hx; omega) hl (mem_rng.mp hx).1 (mem_rng.mp hx).2 _]
  cases a6 : (rng 0 (L.length : Int)).any fun k => decide (capE w (L.getD k.toNat 0) e < ns.getD k.toNat 0) with
  | true =>
    rw [if_pos rfl, left_okr]
    obtain ⟨k, hk, hc⟩ := List.any_eq_true.mp a6
    refine ⟨false, rfl, ⟨(fun z => nomatch z), fun z => ?_⟩⟩
    have := z.2.cap k (mem_rng.mp hk).1 (mem_rng.mp hk).2
    rw [decide_eq_true_eq] at hc
    omega
  | false =>
    simp only [Bool.false_eq_true, if_false]
    rw [left_okl]
    have hcap : ∀ k : Int, 0 ≤ k → k < L.length → ns.getD k.toNat 0 ≤ capE w (L.getD k.toNat 0) e := fun k k0 k1 => by
      have := List.any_eq_false.mp a6 k (mem_rng.mpr ⟨k0, k1⟩)
      rw [decide_eq_true_eq] at this
      omega
    show ∃ b, m_law_is_outcome_b8 ((L.length : Int), L, e, ns, ()) = .ok b ∧ _
    unfold m_law_is_outcome_b8
    simp only [Rs.bo]
    rw [eT]
    simp only [Rs.bo]
    rw [Rng_ok (by omega) (by omega) (by omega) (by omega)]
    simp only [Rs.bo]
    rw [foldR_test (f := fun (γ : Ctx.T [.fz 4 Int, .bo 0 (List Int), .fz 1 Int, .bo 2 (List Int)]) x => m_law_is_outcome_l6 (x, γ)) (g := ((L.length : Int), L, e, ns, ())) (xs := rng e T) (fun h => decide (Zc L ns h < h + 1 - e)) (r := false) fun x hx => law_hts_l6 hl (by omega)]
    cases a7 : (rng e T).any fun h => decide (Zc L ns h < h + 1 - e) with
    | true =>
      rw [if_pos rfl, left_okr]
      obtain ⟨h, hh, hc⟩ := List.any_eq_true.mp a7
      refine ⟨false, rfl, ⟨(fun z => nomatch z), fun z => ?_⟩⟩
      have := z.2.hts h T mT (mem_rng.mp hh).1 (mem_rng.mp hh).2
      rw [decide_eq_true_eq] at hc
      omega
    | false =>
      simp only [Bool.false_eq_true, if_false]
      rw [left_okl]
      refine ⟨true, rfl, ⟨fun _ => ⟨by omega, hl, hnn, a5, hcap, fun h x hx h0 h1 => ?_⟩, fun _ => rfl⟩⟩
      have := List.any_eq_false.mp a7 h (mem_rng.mpr ⟨h0, by have := uT x hx; omega⟩)
      rw [decide_eq_true_eq] at this
      omega
theorem levels_told {rs : List (Int × Str)} (h : rs.length < 64) (hv : ∀ r ∈ rs, r.2.length ≤ 1000) (hn : (rs.map (·.2)).Nodup) : m_ordered_levels (⟨⟨rs⟩⟩, ()) = .ok (levO rs) := by
  unfold m_ordered_levels
  simp only [Rs.bo, Rs.okl, m_Sheaf_rows]
  rw [order_ok h hv hn]
  simp only [Rs.bo]
  rw [if_pos (by rw [ordI_len]; omega)]
  exact Wm.comp_map (fun _ _ => rfl) fun x hx => by
    have hx := ordI_in rs x hx
    show m_ordered_levels_e1 (x, rs, ()) = _
    unfold m_ordered_levels_e1
    simp only [Rs.bo]
    rw [rowA_get hx.1 hx.2]
    simp only [Rs.bo]
    rw [rowA_lvl hx.1 hx.2]
theorem capped_e1 {L : List Int} {w e x : Int} (w0 : 1 ≤ w) (w1 : w ≤ 6) (h1 : 1 ≤ L.length) : m_capped_caps_e1 (x, L, e, w, ()) = .ok (min (capE w x e) L.length) := by
  unfold m_capped_caps_e1 capE
  simp only [Rs.bo]
  by_cases c : e ≤ x
  · rw [decide_eq_true c, if_neg (show ¬ x < e by omega)]
    simp only [if_true]
    rw [capped_is (b := w + 1) (e := x - e) (n := (L.length : Int)) (by omega) (by omega) (by omega) (by omega)]
  · rw [decide_eq_false c, if_pos (show x < e by omega)]
    simp only [Bool.false_eq_true, if_false]
    rw [show min (0 : Int) (L.length : Int) = 0 by omega]
theorem capped_ok {L : List Int} {w e : Int} (w0 : 1 ≤ w) (w1 : w ≤ 6) (h1 : 1 ≤ L.length) (h2 : L.length ≤ 1000) : m_capped_caps (L, e, w, ()) = .ok (L.map fun x => min (capE w x e) L.length) := by
  unfold m_capped_caps
  simp only [Rs.bo]
  rw [if_pos (by omega)]
  exact Wm.comp_map (fun _ _ => rfl) fun x _ => capped_e1 w0 w1 h1
theorem is_outcome_ok {rs : List (Int × Str)} {ns : List Int} {w e : Int} (w0 : 1 ≤ w) (w1 : w ≤ 6) (h1 : 1 ≤ rs.length) (h2 : rs.length < 60) (hv : ∀ r ∈ rs, r.2.length ≤ 1000) (hn : (rs.map (·.2)).Nodup) (hb : ∀ x ∈ levO rs, -100000 ≤ x ∧ x ≤ 100000) (e0 : -100000 ≤ e) (e1 : e ≤ 100000) :
    ∃ b, m_is_outcome (⟨⟨rs⟩⟩, e, ns, w, ()) = .ok b ∧ (b = true ↔ OutP w e (levO rs) ns) := by
  have ll := levO_len rs
  unfold m_is_outcome
  simp only [Rs.bo]
  rw [levels_told (by omega) hv hn]
  simp only [Rs.bo]
  generalize hL : levO rs = L at *
  have hup : L.Pairwise (· ≤ ·) := by rw [← hL]; exact levO_up rs
  have h1' : L ≠ [] := by intro z; rw [z] at ll; simp at ll; omega
  by_cases a3' : ¬ ((ns.length : Int) = L.length)
  · rw [decide_eq_false a3']
    exact ⟨false, rfl, ⟨(fun z => nomatch z), fun z => absurd (by rw [z.len]) a3'⟩⟩
  have a3 : (ns.length : Int) = L.length := Decidable.not_not.mp a3'
  rw [decide_eq_true a3]
  have hl : ns.length = L.length := by omega
  simp only [Bool.not_true, Bool.false_eq_true, if_false]
  obtain ⟨m, em, mm, um⟩ := minI_ok (xs := ns) (by intro z; rw [z] at hl; simp at hl; omega)
  rw [em]
  simp only [Rs.bo]
  by_cases a4 : m < 0
  · rw [decide_eq_true a4]
    refine ⟨false, rfl, ⟨(fun z => nomatch z), fun z => ?_⟩⟩
    have := z.nn m mm
    omega
  rw [decide_eq_false a4]
  have hnn : ∀ x ∈ ns, 0 ≤ x := fun x hx => by have := um x hx; omega
  simp only [Bool.false_eq_true, if_false]
  by_cases a5' : ¬ (ns.sum = (L.length : Int))
  · rw [decide_eq_false a5']
    exact ⟨false, rfl, ⟨(fun z => nomatch z), fun z => absurd z.sum a5'⟩⟩
  have a5 : ns.sum = (L.length : Int) := Decidable.not_not.mp a5'
  rw [decide_eq_true a5]
  simp only [Rs.bo, Bool.not_true, Bool.false_eq_true, if_false]
  rw [capped_ok w0 w1 (by omega) (by omega)]
  simp only [Rs.bo]
  rw [Rng_nat (by omega)]
  simp only [Rs.bo]
  have hle := nums_le hnn
  have hg : ∀ k : Int, 0 ≤ k → k < L.length → (min (capE w (L.getD k.toNat 0) e) (L.length : Int) < ns.getD k.toNat 0 ↔ capE w (L.getD k.toNat 0) e < ns.getD k.toNat 0) := fun k k0 k1 => by
    have := hle _ (getD_mem (L := ns) (k := k.toNat) (by omega))
    omega
  rw [if_pos (by rw [rng_len]; omega), show Rs.comp (fun x => Rs.ok true) (fun x => m_is_outcome_e1 (x, L.map (fun x => min (capE w x e) (L.length : Int)), ns, ())) (rng 0 (L.length : Int)) = .ok ((rng 0 (L.length : Int)).map fun k => decide (min (capE w (L.getD k.toNat 0) e) (L.length : Int) < ns.getD k.toNat 0)) from Wm.comp_map (fun _ _ => rfl) fun x hx => by
    have hx := mem_rng.mp hx
    show m_is_outcome_e1 (x, L.map (fun x => min (capE w x e) (L.length : Int)), ns, ()) = _
    unfold m_is_outcome_e1
    simp only [Rs.bo]
    rw [getD_at (L := ns) hx.1 (by omega), getD_at (L := L.map fun x => min (capE w x e) (L.length : Int)) hx.1 (by rw [List.length_map]; exact hx.2)]
    simp only [Rs.bo]
    rw [show (L.map fun x => min (capE w x e) (L.length : Int)).getD x.toNat 0 = min (capE w (L.getD x.toNat 0) e) (L.length : Int) by
      rw [List.getD_eq_getElem?_getD, List.getD_eq_getElem?_getD, List.getElem?_map, List.getElem?_eq_getElem (by omega)]
      rfl]]
  simp only [Rs.bo]
  cases a6 : ((rng 0 (L.length : Int)).map fun k => decide (min (capE w (L.getD k.toNat 0) e) (L.length : Int) < ns.getD k.toNat 0)).any id with
  | true =>
    rw [List.any_map] at a6
    obtain ⟨k, hk, hc⟩ := List.any_eq_true.mp a6
    refine ⟨false, rfl, ⟨(fun z => nomatch z), fun z => ?_⟩⟩
    have hk := mem_rng.mp hk
    have := z.cap k hk.1 hk.2
    have hc : decide (min (capE w (L.getD k.toNat 0) e) (L.length : Int) < ns.getD k.toNat 0) = true := hc
    rw [decide_eq_true_eq, hg k hk.1 hk.2] at hc
    omega
  | false =>
    rw [List.any_map] at a6
    have hcap : ∀ k : Int, 0 ≤ k → k < L.length → ns.getD k.toNat 0 ≤ capE w (L.getD k.toNat 0) e := fun k k0 k1 => by
      have := List.any_eq_false.mp a6 k (mem_rng.mpr ⟨k0, k1⟩)
      have this : ¬ decide (min (capE w (L.getD k.toNat 0) e) (L.length : Int) < ns.getD k.toNat 0) = true := this
      rw [decide_eq_true_eq, hg k k0 k1] at this
      omega
    simp only [Bool.false_eq_true, if_false]
    unfold m_is_outcome_b6
    simp only [Rs.bo]
    obtain ⟨l0, T, hlT⟩ : ∃ l T, L = l ++ [T] := ⟨L.dropLast, L.getLast h1', (List.dropLast_concat_getLast _).symm⟩
    have mT : T ∈ L := by rw [hlT]; simp
    have uT : ∀ x ∈ L, x ≤ T := fun x hx => by
      rw [hlT] at hx hup
      rcases List.mem_append.mp hx with z | z
      · exact (List.pairwise_append.mp hup).2.2 x z T (by simp)
      · rw [List.mem_singleton.mp z]; exact Int.le_refl _
    have bT := hb T mT
    rw [show getI L (-1) = .ok T by rw [hlT]; exact getI_last]
    simp only [Rs.bo]
    rw [Rng_ok (by omega) (by omega) (by omega) (by omega)]
    simp only [Rs.bo]
    rw [foldR_test (f := fun (γ : Ctx.T [.fz 5 Int, .ow 4 (List Int), .fz 1 Int, .bo 2 (List Int)]) x => m_is_outcome_l4 (x, γ)) (g := ((L.length : Int), L, e, ns, ())) (xs := rng e T) (fun h => decide (Zc L ns h < h + 1 - e)) (r := false) fun x hx => hts_l4 hl (by omega)]
    cases a7 : (rng e T).any fun h => decide (Zc L ns h < h + 1 - e) with
    | true =>
      rw [if_pos rfl, left_okr]
      obtain ⟨h, hh, hc⟩ := List.any_eq_true.mp a7
      refine ⟨false, rfl, ⟨(fun z => nomatch z), fun z => ?_⟩⟩
      have := z.hts h T mT (mem_rng.mp hh).1 (mem_rng.mp hh).2
      rw [decide_eq_true_eq] at hc
      omega
    | false =>
      simp only [Bool.false_eq_true, if_false]
      rw [left_okl]
      refine ⟨true, rfl, ⟨fun _ => ⟨hl, hnn, a5, hcap, fun h x hx h0 h1 => ?_⟩, fun _ => rfl⟩⟩
      have := List.any_eq_false.mp a7 h (mem_rng.mpr ⟨h0, by have := uT x hx; omega⟩)
      rw [decide_eq_true_eq] at this
      omega
theorem bind_exi {γ α : Type} {b : Bool} {x y : Rs γ} {K : γ → Rs α} {P : γ → Prop} {Q : α → Prop} (h1 : b = true → ∃ a, x = .ok a ∧ P a) (h2 : b = false → ∃ a, y = .ok a ∧ P a) (hk : ∀ a, P a → ∃ z, K a = .ok z ∧ Q z) : ∃ z, (if b = true then x else y).bind K = .ok z ∧ Q z := by
  cases b with
  | true =>
    obtain ⟨a, e, p⟩ := h1 rfl
    rw [if_pos rfl, e]
    exact hk a p
  | false =>
    obtain ⟨a, e, p⟩ := h2 rfl
    rw [if_neg (by decide), e]
    exact hk a p
theorem spread_ok {n : Nat} {ds S free : List Int} (hg : ∀ k : Int, 0 ≤ k → k < n → ∃ d, getI ds (5 + k) = .ok d ∧ 0 ≤ d ∧ d < n) : ∀ (xs : List Int), (∀ k ∈ xs, 0 ≤ k ∧ k < n) → ∀ T : List Int, T.length = n →
    ∃ T' : List Int, Rs.fold (fun (γ : Ctx.T [.ow 5 (List Int), .ow 4 (List Int), .ow 3 (List Int), .fz 2 Int, .fz 1 (List Int)]) x => m_law_lists_l1 (x, γ)) (T, free, ds, (n : Int), S, ()) xs = .ok (T', free, ds, (n : Int), S, ()) ∧ T'.length = n
  | [], _, T, h => ⟨T, rfl, h⟩
  | x :: xs, hx, T, h => by
    have hx0 := hx x List.mem_cons_self
    obtain ⟨d, gd, d0, d1⟩ := hg x hx0.1 hx0.2
    obtain ⟨t, gt, -, -⟩ := getI_mem (xs := T) (k := d) d0 (by omega)
    obtain ⟨T', e, l⟩ := spread_ok (S := S) (free := free) hg xs (fun k hk => hx k (List.mem_cons_of_mem _ hk)) (T.set d.toNat (t + 1)) (by rw [List.length_set]; exact h)
    refine ⟨T', ?_, l⟩
    show (m_law_lists_l1 (x, T, free, ds, (n : Int), S, ())).bind _ = _
    have el : m_law_lists_l1 (x, T, free, ds, (n : Int), S, ()) = .ok (T.set d.toNat (t + 1), free, ds, (n : Int), S, ()) := by
      unfold m_law_lists_l1
      simp only [Rs.bo]
      rw [gd]
      simp only [Rs.bo]
      rw [gt]
      simp only [Rs.bo]
      rw [setI_in d0 (by omega)]
      rfl
    rw [el]
    exact e
theorem law_lists_ok {cell : Int} {S : List Int} {n : Nat} (hs : S.length = n) (n1 : 1 ≤ n) (n2 : n ≤ 40) : ∃ ls, m_law_lists (cell, S, ()) = .ok ls ∧ ls.length = 6 ∧ ∀ l ∈ ls, l.length ≤ 100 := by
  unfold m_law_lists
  simp only [Rs.bo, Rs.okl]
  rw [hs, repI_one (by omega) (by omega), repI_one (by omega) (by omega)]
  simp only [Rs.bo]
  rw [catI_ok (by simp; omega)]
  simp only [Rs.bo]
  rw [catI_ok (by simp; omega)]
  simp only [Rs.bo]
  generalize hz : ([3, (n : Int), (n : Int), 2, 3] ++ List.replicate (n : Int).toNat (n : Int)) ++ List.replicate ((n : Int) + 2).toNat ((n : Int) + 5) = sizes
  obtain ⟨ds, hds, hD⟩ := draws_ok cell sizes (fun s h => by
    rw [← hz] at h
    simp only [List.mem_append, List.mem_cons, List.not_mem_nil, or_false, List.mem_replicate] at h
    omega) (by rw [← hz]; simp; omega)
  rw [hds]
  simp only [Rs.bo]
  have tn : (n : Int).toNat = n := Int.toNat_natCast n
  have t2 : ((n : Int) + 2).toNat = n + 2 := by omega
  rw [tn, t2] at hz
  have fl : ([3, (n : Int), (n : Int), 2, 3] ++ List.replicate n (n : Int)).length = 5 + n := by simp; omega
  have h5 : ∀ (i : Nat) (s : Int), ([3, (n : Int), (n : Int), 2, 3] : List Int)[i]? = some s → sizes[i]? = some s := fun i s h => by
    have := (List.getElem?_eq_some_iff.mp h).1
    rw [← hz, List.getElem?_append_left (by rw [fl]; simp at this; omega), List.getElem?_append_left this]
    exact h
  obtain ⟨d0, g0, -, -⟩ := hD.g 0 (by decide) (h5 0 3 rfl)
  obtain ⟨d1, g1, a1, b1⟩ := hD.g 1 (by decide) (h5 1 n rfl)
  obtain ⟨d2, g2, a2, b2⟩ := hD.g 2 (by decide) (h5 2 n rfl)
  obtain ⟨d3, g3, a3, b3⟩ := hD.g 3 (by decide) (h5 3 2 rfl)
  obtain ⟨d4, g4, a4, b4⟩ := hD.g 4 (by decide) (h5 4 3 rfl)
  have at5 : ∀ k : Int, 0 ≤ k → k < n → ∃ d, getI ds (5 + k) = .ok d ∧ 0 ≤ d ∧ d < n := fun k k0 k1 => by
    refine hD.g (5 + k) (by omega) (s := n) ?_
    rw [← hz, List.getElem?_append_left (by rw [fl]; omega), List.getElem?_append_right (by simp; omega), List.getElem?_replicate]
    simp
    omega
  have atf : ∀ k : Int, 0 ≤ k → k < n + 2 → ∃ d, getI ds (5 + (n : Int) + k) = .ok d ∧ 0 ≤ d ∧ d < n + 5 := fun k k0 k1 => by
    refine hD.g (5 + (n : Int) + k) (by omega) (s := n + 5) ?_
    rw [← hz, List.getElem?_append_right (by rw [fl]; omega), fl, List.getElem?_replicate]
    simp
    omega
  simp only [g0, g1, g2, g3, g4, Rs.bo]
  refine bind_exi (P := fun γ => ∃ M : List Int, γ = (M, ds, (n : Int), S, ()) ∧ M.length = n) (fun _ => ?_) (fun _ => ⟨_, rfl, S, rfl, hs⟩) ?_
  · obtain ⟨t, gt, -, -⟩ := getI_mem (xs := S) (k := d1) a1 (by omega)
    rw [gt]
    simp only [Rs.bo]
    rw [setI_in a1 (by omega)]
    exact ⟨_, rfl, _, rfl, by rw [List.length_set]; exact hs⟩
  rintro _ ⟨M, rfl, hM⟩
  simp only [g0, g1, g2, g3, g4, Rs.bo]
  refine bind_exi (P := fun γ => ∃ M : List Int, γ = (M, ds, (n : Int), S, ()) ∧ M.length = n) (fun _ => ?_) (fun _ => ⟨_, rfl, M, rfl, hM⟩) ?_
  · obtain ⟨t, gt, -, -⟩ := getI_mem (xs := M) (k := d2) a2 (by omega)
    rw [gt]
    simp only [Rs.bo]
    rw [setI_in a2 (by omega)]
    exact ⟨_, rfl, _, rfl, by rw [List.length_set]; exact hM⟩
  rintro _ ⟨N, rfl, hN⟩
  simp only [g0, g1, g2, g3, g4, Rs.bo, Rs.okl]
  rw [repI_one (by omega) (by omega)]
  simp only [Rs.bo]
  rw [Rng_nat (by omega)]
  simp only [Rs.bo]
  obtain ⟨T, eT, hT⟩ := spread_ok (S := S) (free := N) (n := n) (ds := ds) at5 (rng 0 (n : Int)) (fun k hk => mem_rng.mp hk) (List.replicate (n : Int).toNat 0) (by rw [List.length_replicate, tn])
  rw [eT]
  simp only [Rs.bo, g4]
  rw [Rng_ok (by omega) (by omega) (by omega) (by omega)]
  simp only [Rs.bo]
  obtain ⟨F, eF, lF, -⟩ := comp_ex (t := fun _ => Rs.ok true) (f := fun x => m_law_lists_e2 (x, ds, (n : Int), ())) (fun _ (_ : Int) => True) (xs := rng 0 ((n : Int) - 1 + d4)) (fun _ _ => rfl) (by
    intro i x hx
    have hx := mem_rng.mp (List.mem_of_getElem? hx)
    obtain ⟨d, gd, -, -⟩ := atf x hx.1 (by omega)
    show ∃ y, m_law_lists_e2 (x, ds, (n : Int), ()) = .ok y ∧ _
    unfold m_law_lists_e2
    simp only [Rs.bo]
    rw [gd]
    exact ⟨_, rfl, trivial⟩)
  have lF' : F.length ≤ 42 := by rw [lF, rng_len]; omega
  rw [if_pos (by rw [rng_len]; omega), eF]
  simp only [Rs.bo, g3, Rs.okl]
  rw [catI_ok (by simp; omega)]
  simp only [Rs.bo, g3]
  refine bind_exi (P := fun γ => ∃ X : List Int, γ = (X, F, T, N, ds, (n : Int), S, ()) ∧ X.length = n + 1) (fun _ => ?_) (fun _ => ⟨_, rfl, S ++ [d3], rfl, by simp; omega⟩) ?_
  · rw [catI_ok (by simp; omega)]
    exact ⟨_, rfl, [0] ++ S, rfl, by simp; omega⟩
  rintro _ ⟨X, rfl, hX⟩
  simp only [m_law_lists_b6, m_law_lists_b5, m_law_lists_b4, m_law_lists_b3, Rs.bo, g3, Rs.okl]
  refine ⟨_, rfl, rfl, fun l hl => ?_⟩
  simp only [List.mem_cons, List.not_mem_nil, or_false] at hl
  rcases hl with rfl | rfl | rfl | rfl | rfl | rfl
  · omega
  · omega
  · omega
  · omega
  · omega
  · exact Nat.le_trans (cutI_len _ _ _) (by omega)
/-! ### records that come twice -/
structure Rep1 (rs : List (Int × Str)) (nm : Str) : Prop where
  mem : nm ∈ rs.map (·.2)
  two : 1 < cnt rs nm
  least : ∀ x ∈ rs.map (·.2), 1 < cnt rs x → leS nm x = true
theorem cnt_pos {rs : List (Int × Str)} {nm : Str} : 0 < cnt rs nm ↔ nm ∈ rs.map (·.2) := by
  unfold cnt
  rw [List.mem_map]
  constructor
  · intro h
    have h : 0 < (rs.filter fun r => decide (r.2 = nm)).length := by omega
    obtain ⟨r, hr⟩ := List.exists_mem_of_length_pos h
    obtain ⟨a, b⟩ := List.mem_filter.mp hr
    exact ⟨r, a, of_decide_eq_true b⟩
  · rintro ⟨r, a, b⟩
    have := List.length_pos_of_mem (List.mem_filter.mpr ⟨a, decide_eq_true b⟩ : r ∈ rs.filter fun r => decide (r.2 = nm))
    omega
theorem law_repeated_ok {rs : List (Int × Str)} (hl : rs.length ≤ 60) : ∃ o, m_law_repeated (rs, ()) = .ok o ∧ ∀ nm, o = some nm → Rep1 rs nm := by
  unfold m_law_repeated
  simp only [Rs.bo, Rs.okl]
  rw [Rng_nat (by omega)]
  simp only [Rs.bo]
  obtain ⟨g, eg, F, rfl, hF, lF⟩ := fold_inv (f := fun (γ : Ctx.T [.ow 1 (List Str), .bo 0 (List (Int × Str))]) x => m_law_repeated_l3 (x, γ)) (xs := rng 0 (rs.length : Int)) (g := ([], rs, ()))
    (fun i γ => ∃ F : List Str, γ = (F, rs, ()) ∧ (∀ nm, nm ∈ F ↔ 1 < cnt (rs.take i) nm) ∧ F.length ≤ i) ⟨[], rfl, fun nm => by simp [cnt], Nat.le_refl 0⟩ (by
    rintro i k _ hk ⟨F, rfl, hF, lF⟩
    obtain ⟨hi, ek⟩ := rng_get hk
    have hik : i < rs.length := by omega
    rw [Int.zero_add] at ek
    subst ek
    obtain ⟨r, er, -, ei⟩ := getI_mem (xs := rs) (k := (i : Int)) (by omega) (by omega)
    rw [Int.toNat_natCast] at ei
    have et : rs.take (i + 1) = rs.take i ++ [r] := by rw [List.take_add_one, ei]; rfl
    show ∃ g', m_law_repeated_l3 ((i : Int), F, rs, ()) = .ok g' ∧ _
    unfold m_law_repeated_l3
    simp only [Rs.bo, Rs.okl]
    rw [er]
    simp only [Rs.bo]
    rw [cutI_take (by omega), Int.toNat_natCast, if_pos (by rw [List.length_take]; omega), show Rs.comp (fun x => Rs.ok true) (fun x => m_law_repeated_e2 (x, ())) (rs.take i) = .ok ((rs.take i).map (·.2)) from Wm.comp_map (fun _ _ => rfl) fun _ _ => rfl]
    simp only [Rs.bo]
    by_cases c : r.2 ∈ (rs.take i).map (·.2)
    · rw [decide_eq_true c]
      simp only [if_true]
      rw [appI_ok (by omega)]
      refine ⟨_, rfl, F ++ [r.2], rfl, fun nm => ?_, by rw [List.length_append]; simp; omega⟩
      rw [List.mem_append, List.mem_singleton, hF, et, cnt_snoc]
      have := cnt_pos.mpr c
      by_cases d : r.2 = nm
      · rw [if_pos d]; subst d; exact ⟨fun _ => by omega, fun _ => .inr rfl⟩
      · rw [if_neg d]
        exact ⟨fun z => z.elim (fun z => by omega) fun z => absurd z.symm d, fun z => .inl (by omega)⟩
    · rw [decide_eq_false c]
      refine ⟨_, rfl, F, rfl, fun nm => ?_, by omega⟩
      rw [hF, et, cnt_snoc]
      by_cases d : r.2 = nm
      · rw [if_pos d]
        subst d
        rw [cnt_zero c]
        exact ⟨fun z => by omega, fun z => by omega⟩
      · rw [if_neg d, Int.add_zero])
  rw [eg]
  simp only [Rs.bo]
  rw [rng_len] at hF lF
  have e0 : ((rs.length : Int) - 0).toNat = rs.length := by omega
  rw [e0] at hF lF
  rw [List.take_length] at hF
  by_cases c : (F.length : Int) = 0
  · rw [decide_eq_true c]
    exact ⟨none, rfl, fun nm h => nomatch h⟩
  · rw [decide_eq_false c]
    simp only [Bool.false_eq_true, if_false]
    rw [show sortS F = .ok (sortStr F) from if_pos (by omega)]
    simp only [Rs.bo]
    have up := sortStr_up F
    have pm := sortStr_perm F
    have ln := sortStr_len F
    cases hs : sortStr F with
    | nil => rw [hs] at ln; simp at ln; omega
    | cons a l =>
      rw [hs] at up pm
      rw [getI_0]
      refine ⟨some a, rfl, fun nm h => ?_⟩
      have h := Option.some.inj h
      subst h
      have ha := (hF a).mp (pm.mem_iff.mp List.mem_cons_self)
      refine ⟨cnt_pos.mp (by omega), ha, fun x _ h2 => ?_⟩
      have hx := pm.mem_iff.mpr ((hF x).mpr h2)
      rcases List.mem_cons.mp hx with e | e
      · rw [e]; exact leS_refl _
      · exact (List.pairwise_cons.mp up).1 x e
theorem told_rep {rs : List (Int × Str)} (h : rs.length < 64) (hv : ∀ r ∈ rs, r.2.length ≤ 1000) {nm : Str} (hr : Rep1 rs nm) (e w : Int) (ns : List Int) (lo : Bool) : m_law_told (⟨⟨rs⟩⟩, e, ns, w, lo, ()) = .ex (exStr "RepeatedRecord" "record" nm) := by
  have := order_rep h hv hr.mem hr.two hr.least
  have h2 : m_ordered_levels (⟨⟨rs⟩⟩, ()) = .ex (exStr "RepeatedRecord" "record" nm) := by
    unfold m_ordered_levels
    simp only [Rs.bo, Rs.okl, m_Sheaf_rows]
    rw [this]
    rfl
  have h3 : ∀ w, m_is_outcome (⟨⟨rs⟩⟩, e, ns, w, ()) = .ex (exStr "RepeatedRecord" "record" nm) := fun w => by
    unfold m_is_outcome
    simp only [Rs.bo, Rs.okl]
    rw [h2]
    rfl
  unfold m_law_told
  simp only [Rs.bo]
  cases lo with
  | true => exact h3 1
  | false => exact h3 w
theorem refused_ok {rs : List (Int × Str)} (h : rs.length < 64) (hv : ∀ r ∈ rs, r.2.length ≤ 1000) {nm : Str} (hs : SOk nm) (hr : Rep1 rs nm) (e w : Int) (ns : Option (List Int)) (lo : Bool) : m_law_refused (⟨⟨rs⟩⟩, e, ns, w, lo, nm, ()) = .ok true := by
  have ho := order_rep h hv hr.mem hr.two hr.least
  unfold m_law_refused
  simp only [Rs.bo, Rs.okl]
  have hy : ∀ x, m_law_refused_y1 (none, x, ⟨⟨rs⟩⟩, e, ns, w, lo, nm, ()) = .ex (exStr "RepeatedRecord" "record" nm) := fun x => by
    unfold m_law_refused_y1
    simp only [Rs.bo]
    cases ns with
    | none =>
      simp only [Option.isNone_none, if_true]
      rw [ho]
      rfl
    | some l =>
      simp only [Option.isNone_some, Bool.false_eq_true, if_false]
      rw [told_rep h hv hr]
      rfl
  rw [hy, try_exS]
  unfold m_law_refused_x2
  simp only [Rs.bo, Bool.not_true, Bool.false_eq_true, if_false]
  rw [at_str _ _ _ hs]
  simp only [Rs.bo]
  show Rs.left (.ok (.inl _)) _ = _
  rw [left_okl]
  unfold m_law_refused_b3
  simp only [Rs.bo, Option.isSome_some, if_true, theI]
  rw [decide_true]
theorem IsRec.sok {t : Str} (h : IsRec t) : SOk t := ⟨by have := h.hi; rw [Str.len_toList] at this; omega, fun c hc => by
  have := h.sg c hc
  have k : ∀ c ∈ LET.cps.toList, c < 1114112 := by decide +kernel
  exact k c this⟩
/-! ### the law -/
theorem same_integers_ok {xs : List Int} (hl : xs.length ≤ 16777216) : m_law_same_integers (xs, xs, ()) = .ok true := by
  unfold m_law_same_integers
  simp only [Rs.bo, Bool.not_true, Bool.false_eq_true, if_false]
  rw [if_pos hl]
  have e : ∀ ys : List Int, Rs.comp (fun x => m_law_same_integers_t1 (x, ())) (fun x => m_law_same_integers_e2 (x, ())) ys = .ok [] := by
    intro ys
    induction ys with
    | nil => rfl
    | cons y ys ih =>
      show Rs.bind (m_law_same_integers_t1 (y, ())) _ = _
      rw [show m_law_same_integers_t1 (y, ()) = .ok false from rfl]
      exact ih
  rw [e]
  simp only [Rs.bo, List.length_nil, if_true, decide_true]
  rfl
theorem levO_mem {rs : List (Int × Str)} {x : Int} (h : x ∈ levO rs) : ∃ r ∈ rs, x = r.1 := by
  unfold levO at h
  obtain ⟨i, hi, rfl⟩ := List.mem_map.mp h
  have hi := ordI_in rs i hi
  obtain ⟨r, -, m, e, -⟩ := row_at hi.1 hi.2
  exact ⟨r, m, e.symm⟩
theorem right_ok {rs : List (Int × Str)} {ns : List Int} {w e : Int} {lo : Bool} (w0 : 1 ≤ w) (w1 : w ≤ 6) (hlo : lo = true → w = 1) (h1 : 1 ≤ rs.length) (h2 : rs.length < 60) (hv : ∀ r ∈ rs, r.2.length ≤ 1000) (hn : (rs.map (·.2)).Nodup) (hb : ∀ r ∈ rs, -100000 ≤ r.1 ∧ r.1 ≤ 100000) (e0 : -100000 ≤ e) (e1 : e ≤ 100000) (hns : ns.length ≤ 1000) :
    m_law_right (⟨⟨rs⟩⟩, levO rs, e, ns, w, lo, ()) = .ok true := by
  have ll := levO_len rs
  have hb' : ∀ x ∈ levO rs, -100000 ≤ x ∧ x ≤ 100000 := fun x hx => by obtain ⟨r, m, rfl⟩ := levO_mem hx; exact hb r m
  have hne : levO rs ≠ [] := by intro z; rw [z] at ll; simp at ll; omega
  obtain ⟨t, ht, -, -⟩ := maxI_ok hne
  obtain ⟨k, k0, k1, k2, k3⟩ := law_high_is (L := levO rs) w0 (by omega) (by omega) ht
  obtain ⟨f, hf, -, -⟩ := maxI_ok (xs := (levO rs).map fun x => x - below (levO rs) x) (by intro z; exact hne (List.map_eq_nil_iff.mp z))
  obtain ⟨b1, eb1, hb1⟩ := law_is_outcome_ok (ns := ns) (e := e) w0 w1 hne (by omega) hns hb' e0 e1 (by rw [law_low_is (by omega), hf]) k1
  obtain ⟨b2, eb2, hb2⟩ := is_outcome_ok (ns := ns) (e := e) w0 w1 h1 h2 hv hn hb' e0 e1
  have eb : b1 = b2 := Bool.eq_iff_iff.mpr (hb1.trans ⟨fun z => hb2.mpr z.2, fun z => ⟨(hb2.mp z).ends (lowIs_iff.mp hf) (highIs_of ht k2 k3), hb2.mp z⟩⟩)
  subst eb
  have et : m_law_told (⟨⟨rs⟩⟩, e, ns, w, lo, ()) = .ok b1 := by
    unfold m_law_told
    simp only [Rs.bo]
    cases lo with
    | true =>
      have := hlo rfl
      subst this
      exact eb2
    | false => exact eb2
  unfold m_law_right
  simp only [Rs.bo]
  rw [et]
  simp only [Rs.bo, decide_true, Bool.not_true, Bool.false_eq_true, if_false]
  rw [eb1]
  cases b1 <;> rfl
theorem rows_zip {lv : List Int} {nm : List Str} {n : Nat} (hl : lv.length = n) (hn : nm.length = n) (h : n ≤ 1000) : Rs.comp (fun x => Rs.ok true) (fun x => m_law_e1 (x, lv, nm, ())) (rng 0 (n : Int)) = .ok (lv.zip nm) := by
  obtain ⟨ys, e, l, p⟩ := comp_ex (t := fun _ => Rs.ok true) (f := fun x => m_law_e1 (x, lv, nm, ())) (fun i y => (lv.zip nm)[i]? = some y) (xs := rng 0 (n : Int)) (fun _ _ => rfl) (by
    intro i x hx
    obtain ⟨hi, ex⟩ := rng_get hx
    have h0 := mem_rng.mp (List.mem_of_getElem? hx)
    obtain ⟨a, ea, -, ka⟩ := getI_mem (xs := lv) (k := x) h0.1 (by omega)
    obtain ⟨b, eb, -, kb⟩ := getI_mem (xs := nm) (k := x) h0.1 (by omega)
    show ∃ y, m_law_e1 (x, lv, nm, ()) = .ok y ∧ _
    unfold m_law_e1
    simp only [Rs.bo]
    rw [ea]
    simp only [Rs.bo]
    rw [eb]
    refine ⟨_, rfl, ?_⟩
    have hxi : x.toNat = i := by rw [ex]; omega
    rw [hxi] at ka kb
    exact List.getElem?_zip_eq_some.mpr ⟨ka, kb⟩)
  rw [e]
  congr 1
  have lz : (lv.zip nm).length = n := by rw [List.length_zip]; omega
  rw [rng_len] at l
  exact List.ext_getElem? fun i => by
    by_cases c : i < ys.length
    · have := p i ys[i] (List.getElem?_eq_getElem c)
      rw [this, List.getElem?_eq_getElem c]
    · rw [List.getElem?_eq_none (by omega), List.getElem?_eq_none (by omega)]
theorem law_tail {again : List (Int × Str)} {final : List (Int × Str)} {ls : List (List Int)} {shares ds lv : List Int} {w t : Int} {f0 : Int × Str} {fr : List (Int × Str)} (hf : final = f0 :: fr) (hls : ls.length = 6) (ht : maxI lv = .ok t)
    {d0 d2 : Int} (g0 : getI ds 0 = .ok d0) (g2 : getI ds 2 = .ok d2) (h1 : 1 ≤ again.length) (h2 : again.length ≤ 50) (hv : ∀ r ∈ again, IsRec r.2) :
    ∃ o, m_law_repeated (again, ()) = .ok o ∧ Rs.left (Rs.bind (Rs.bind (Rs.bind (Rs.bind (Rs.ok (none : (Option (List Int)))) (fun a => Rs.bind (Rs.bind (Rs.bind (Rs.ok shares) (fun a => Rs.ok (some a))) (fun a => Rs.bind (Rs.bind (Rs.bind (Rs.bind (Rs.ok ls) (fun x => Rs.bind (Rs.ok (3 : Int)) (fun y => getI x y))) (fun a => Rs.ok (some a))) (fun a => Rs.bind (Rs.ok ([] : List (Option (List Int)))) (fun g => Rs.ok (a :: g)))) (fun g => Rs.ok (a :: g)))) (fun g => Rs.ok (a :: g)))) Rs.ok) Rs.ok) (fun xs => Rs.foldR (fun (γ : Ctx.T [.fz 18 (Option Str), .ow 17 (List (Int × Str)), .fz 12 (List (List Int)), .fz 11 (List Int), .fz 9 (List (Int × Str)), .fz 8 Int, .ow 7 (List Int), .ow 5 (List Int)]) x => m_law_l13 (x, γ)) (o, again, ls, shares, final, w, ds, lv, ()) xs)) m_law_b14 = .ok true := by
  obtain ⟨o, eo, ho⟩ := law_repeated_ok (rs := again) (by omega)
  refine ⟨o, eo, ?_⟩
  simp only [Rs.bo, Rs.okl]
  obtain ⟨l3, e3, -, -⟩ := getI_mem (xs := ls) (k := 3) (by decide) (by omega)
  rw [e3]
  simp only [Rs.bo]
  have one : ∀ (x : Option (List Int)), m_law_l13 (x, o, again, ls, shares, final, w, ds, lv, ()) = .ok (.inl (o, again, ls, shares, final, w, ds, lv, ())) := fun x => by
    unfold m_law_l13
    simp only [Rs.bo, Rs.okl]
    rw [hf]
    simp only [getI_0, Rs.bo, ht, g2]
    have two : ∀ e : Int, m_law_l11 (e, x, o, again, ls, shares, f0 :: fr, w, ds, lv, ()) = .ok (.inl (x, o, again, ls, shares, f0 :: fr, w, ds, lv, ())) := fun e => by
      unfold m_law_l11
      simp only [Rs.bo, Rs.okl]
      cases o with
      | none => rfl
      | some nm =>
        simp only [Option.isSome_some, if_true]
        rw [init_good (fun r hr => IsRec.validB (hv r hr)) h1 (by omega)]
        simp only [Rs.bo, g0, theI]
        have hr := ho nm rfl
        rw [refused_ok (by omega) (fun r hr => by have := (hv r hr).hi; omega) (by
          obtain ⟨r, m, e⟩ := List.mem_map.mp hr.mem
          rw [← e]
          exact IsRec.sok (hv r m)) hr]
        rfl
    rw [foldR_all (f := fun (γ : Ctx.T [.fz 15 (Option (List Int)), .fz 18 (Option Str), .ow 17 (List (Int × Str)), .fz 12 (List (List Int)), .fz 11 (List Int), .fz 9 (List (Int × Str)), .fz 8 Int, .ow 7 (List Int), .ow 5 (List Int)]) x => m_law_l11 (x, γ)) (g := (x, o, again, ls, shares, f0 :: fr, w, ds, lv, ())) fun e _ => two e]
    rfl
  rw [foldR_all (f := fun (γ : Ctx.T [.fz 18 (Option Str), .ow 17 (List (Int × Str)), .fz 12 (List (List Int)), .fz 11 (List Int), .fz 9 (List (Int × Str)), .fz 8 Int, .ow 7 (List Int), .ow 5 (List Int)]) x => m_law_l13 (x, γ)) (g := (o, again, ls, shares, final, w, ds, lv, ())) fun x _ => one x]
  rfl
theorem law_true (ns : List Int) (h : ns.length ≤ 63) : m_law (⟨ns⟩, ()) = .ok true := by
  obtain ⟨c0, hc0⟩ := cell_ex ⟨ns⟩ 0 (by decide)
  obtain ⟨c1, hc1⟩ := cell_ex ⟨ns⟩ 1 (by decide)
  obtain ⟨c2, hc2⟩ := cell_ex ⟨ns⟩ 2 (by decide)
  unfold m_law
  simp only [Rs.bo, Rs.okl, hc0]
  obtain ⟨ds, hds, hdD⟩ := draws_ok c0 [24, 6, 5, 13, 16, 2, 6] (by intro s hs; simp only [List.mem_cons, List.not_mem_nil, or_false] at hs; omega) (by simp)
  obtain ⟨d0, gd0, ld0, ud0⟩ := Drawn.g hdD 0 (by decide) rfl
  obtain ⟨d1, gd1, ld1, ud1⟩ := Drawn.g hdD 1 (by decide) rfl
  obtain ⟨d2, gd2, ld2, ud2⟩ := Drawn.g hdD 2 (by decide) rfl
  obtain ⟨d3, gd3, ld3, ud3⟩ := Drawn.g hdD 3 (by decide) rfl
  obtain ⟨d4, gd4, ld4, ud4⟩ := Drawn.g hdD 4 (by decide) rfl
  obtain ⟨d5, gd5, ld5, ud5⟩ := Drawn.g hdD 5 (by decide) rfl
  obtain ⟨d6, gd6, ld6, ud6⟩ := Drawn.g hdD 6 (by decide) rfl
  simp only [hds]
  simp only [Rs.bo, gd1, gd3, gd4, gd5]
  obtain ⟨n, hn⟩ : ∃ n : Nat, (n : Int) = 1 + d1 := ⟨(1 + d1).toNat, by omega⟩
  have n1 : 1 ≤ n := by omega
  have n2 : n ≤ 6 := by omega
  rw [← hn]
  have key : ∀ {α : Type} {r : Rs α} {b : α}, (∃ a, r = .ok a ∧ a = b) → r = .ok b := fun ⟨a, e, h⟩ => h ▸ e
  refine key (bind_exi (P := fun γ => ∃ base : Int, γ = (base, (n : Int), ds, ⟨ns⟩, ()) ∧ -900 ≤ base ∧ base ≤ 900) (fun _ => ?_) (fun _ => ⟨_, rfl, _, rfl, by omega, by omega⟩) ?_)
  · rw [if_pos (CMul_l (by omega) (by omega))]
    exact ⟨_, rfl, _, rfl, by omega, by omega⟩
  rintro _ ⟨base, rfl, ba0, ba1⟩
  simp only [Rs.bo, hc2, hc1]
  obtain ⟨nm, enm, lnm, hnm, ndm⟩ := names_nd c2 n (by omega)
  rw [enm]
  simp only [Rs.bo, gd0, gd2, hc1]
  obtain ⟨lv, elv, llv, hlv⟩ := levels_ok (cell := c1) (hand := d0) (spread := 1 + d2) (base := base) n1 (by omega) (by omega) (by omega)
  rw [elv]
  simp only [Rs.bo]
  rw [Rng_nat (by omega)]
  simp only [Rs.bo]
  rw [if_pos (by rw [rng_len]; omega), rows_zip llv lnm (by omega)]
  simp only [Rs.bo]
  generalize hrs : lv.zip nm = rs
  have lrs : rs.length = n := by rw [← hrs, List.length_zip]; omega
  have elvs : lvs rs = lv := by rw [← hrs]; unfold lvs; exact List.map_fst_zip (by omega)
  have enms : rs.map (·.2) = nm := by rw [← hrs]; exact List.map_snd_zip (by omega)
  have hrec : ∀ r ∈ rs, IsRec r.2 := fun r hr => hnm _ (by rw [← enms]; exact List.mem_map_of_mem hr)
  have hlies : Lies n base (base + 200) rs := ⟨lrs, fun r hr => hlv _ (by rw [← elvs]; exact List.mem_map_of_mem hr)⟩
  obtain ⟨c3, hc3⟩ := deed_cell_ok ns (k := 3) (by decide) (by decide)
  obtain ⟨c4, hc4⟩ := deed_cell_ok ns (k := 4) (by decide) (by decide)
  simp only [hc3, Rs.bo]
  rw [repI_one (by omega) (by omega)]
  simp only [Rs.bo]
  rw [catI_ok (by simp; omega)]
  simp only [Rs.bo]
  generalize hz : [4, 6, (n : Int) + 5] ++ List.replicate (n : Int).toNat (n : Int) = sizes
  obtain ⟨es, hes, hE⟩ := draws_ok c3 sizes (fun s h => by
    rw [← hz] at h
    simp only [List.mem_append, List.mem_cons, List.not_mem_nil, or_false, List.mem_replicate] at h
    omega) (by rw [← hz]; simp; omega)
  rw [hes]
  simp only [Rs.bo]
  have tn : (n : Int).toNat = n := Int.toNat_natCast n
  rw [tn] at hz
  have h3 : ∀ (i : Nat) (s : Int), ([4, 6, (n : Int) + 5] : List Int)[i]? = some s → sizes[i]? = some s := fun i s h => by
    rw [← hz, List.getElem?_append_left (List.getElem?_eq_some_iff.mp h).1]
    exact h
  obtain ⟨x0, g0, a0, b0⟩ := hE.g 0 (by decide) (h3 0 4 rfl)
  obtain ⟨x1, g1, a1, b1⟩ := hE.g 1 (by decide) (h3 1 6 rfl)
  obtain ⟨x2, g2, a2, b2⟩ := hE.g 2 (by decide) (h3 2 (n + 5) rfl)
  have atk : ∀ k : Int, 0 ≤ k → k < n → ∃ d, getI es (3 + k) = .ok d ∧ 0 ≤ d ∧ d < n := fun k k0 k1 => by
    refine hE.g (3 + k) (by omega) (s := n) ?_
    rw [← hz, List.getElem?_append_right (by simp; omega), List.getElem?_replicate]
    simp
    omega
  simp only [g0, g1, Rs.bo]
  refine bind_exi (P := fun γ => ∃ w : Int, γ = (w, es, rs, lv, nm, (n : Int), ds, ⟨ns⟩, ()) ∧ 1 ≤ w ∧ w ≤ 6 ∧ (decide (x0 = 0) = true → w = 1)) (fun c => ?_) (fun c => ⟨_, rfl, 1, rfl, by decide, by decide, fun _ => rfl⟩) ?_
  · have c := of_decide_eq_true c
    exact ⟨_, rfl, 1 + x1, rfl, by omega, by omega, fun z => by have := of_decide_eq_true z; omega⟩
  rintro _ ⟨w, rfl, w0, w1, hw⟩
  show ∃ z, m_law_b18 (w, es, rs, lv, nm, (n : Int), ds, ⟨ns⟩, ()) = .ok z ∧ _
  obtain ⟨final, efin, hfin⟩ := run_ok (ns := ns) n1 (by omega) ⟨w0, w1⟩ hlies
  have eord : ordL lv = ordI rs := by rw [← elvs]; exact ordL_is rs
  have lord := ordI_len rs
  have hord := ordI_in rs
  rw [lrs] at hord lord
  unfold m_law_b18
  simp only [Rs.bo, Rs.okl]
  rw [efin]
  simp only [Rs.bo]
  rw [law_order_ok (by omega), eord]
  simp only [Rs.bo]
  rw [if_pos (by omega)]
  obtain ⟨shares, esh, lsh, -⟩ := comp_ex (t := fun _ => Rs.ok true) (f := fun x => m_law_e4 (x, final, nm, ())) (fun _ (_ : Int) => True) (xs := ordI rs) (fun _ _ => rfl) (by
    intro i x hx
    have hx := hord x (List.mem_of_getElem? hx)
    show ∃ y, m_law_e4 (x, final, nm, ()) = .ok y ∧ _
    unfold m_law_e4
    simp only [Rs.bo, Rs.okl]
    obtain ⟨t, et, -, -⟩ := getI_mem (xs := nm) (k := x) hx.1 (by omega)
    have lf := hfin.len
    rw [if_pos (by omega), show Rs.comp (fun y => m_law_t2 (y, x, nm, ())) (fun y => m_law_e3 (y, x, nm, ())) final = .ok ((final.filter fun r => decide (r.2 = t)).map fun y => y) from comp_on (fun r : Int × Str => decide (r.2 = t)) (fun y => y) fun y _ => ⟨by
      unfold m_law_t2
      simp only [Rs.bo]
      rw [et]
      rfl, fun _ => rfl⟩]
    exact ⟨_, rfl, trivial⟩)
  rw [esh]
  simp only [Rs.bo]
  unfold m_law_b17
  simp only [Rs.bo, Rs.okl, hc4]
  obtain ⟨ls, els, lls, hls⟩ := law_lists_ok (cell := c4) (S := shares) (n := n) (by omega) n1 (by omega)
  rw [els]
  simp only [Rs.bo]
  rw [init_good (fun r hr => IsRec.validB (hrec r hr)) (by omega) (by omega)]
  simp only [Rs.bo]
  rw [if_pos (by omega), show Rs.comp (fun x => Rs.ok true) (fun x => m_law_e5 (x, lv, ())) (ordI rs) = .ok (levO rs) from Wm.comp_map (fun _ _ => rfl) fun x hx => by
    have hx := hord x hx
    show m_law_e5 (x, lv, ()) = _
    unfold m_law_e5
    simp only [Rs.bo]
    rw [getD_at (L := lv) hx.1 (by omega), ← elvs, lvl_getD hx.1 (by omega)]]
  simp only [Rs.bo]
  have lfin := hfin.len
  obtain ⟨f0, fr, hf⟩ : ∃ f0 fr, final = f0 :: fr := by
    cases hh : final with
    | nil => rw [hh] at lfin; simp at lfin; omega
    | cons a l => exact ⟨a, l, rfl⟩
  have bf := hfin.bnd f0 (by rw [hf]; exact List.mem_cons_self)
  obtain ⟨t, ht, mt, -⟩ := maxI_ok (xs := lv) (by intro z; rw [z] at llv; simp at llv; omega)
  have bt := hlv t mt
  have hbr : ∀ r ∈ rs, -100000 ≤ r.1 ∧ r.1 ≤ 100000 := fun r hr => by have := hlies.bnd r hr; omega
  have hv : ∀ r ∈ rs, r.2.length ≤ 1000 := fun r hr => by have := (hrec r hr).hi; omega
  have hnd : (rs.map (·.2)).Nodup := by rw [enms]; exact ndm
  have right : ∀ {ns : List Int} {w' e : Int} {lo : Bool}, ns ∈ ls → 1 ≤ w' → w' ≤ 6 → (lo = true → w' = 1) → -100000 ≤ e → e ≤ 100000 → m_law_right (⟨⟨rs⟩⟩, levO rs, e, ns, w', lo, ()) = .ok true := fun hm p0 p1 p2 p3 p4 =>
    right_ok p0 p1 p2 (by omega) (by omega) hv hnd hbr p3 p4 (by have := hls _ hm; omega)
  have ends : ∀ e : Int, e ∈ [t + 2 - x2, f0.1, f0.1 - 1] → -100000 ≤ e ∧ e ≤ 100000 := fun e he => by
    simp only [List.mem_cons, List.not_mem_nil, or_false] at he
    omega
  unfold m_law_b16
  simp only [Rs.bo, Rs.okl]
  rw [foldR_all (f := fun (γ : Ctx.T [.ow 14 (List Int), .ow 13 Sheaf, .fz 12 (List (List Int)), .fz 11 (List Int), .ow 10 (List Int), .fz 9 (List (Int × Str)), .fz 8 Int, .ow 7 (List Int), .fz 6 (List (Int × Str)), .ow 5 (List Int), .ow 4 (List Str), .fz 2 Int, .ow 1 (List Int)]) x => m_law_l8 (x, γ)) (g := (levO rs, ⟨⟨rs⟩⟩, ls, shares, ordI rs, final, w, es, rs, lv, nm, (n : Int), ds, ())) (xs := ls) (fun x hx => by
    show m_law_l8 (x, levO rs, ⟨⟨rs⟩⟩, ls, shares, ordI rs, final, w, es, rs, lv, nm, (n : Int), ds, ()) = _
    unfold m_law_l8
    simp only [Rs.bo, Rs.okl]
    rw [ht, hf]
    simp only [Rs.bo, g2, getI_0]
    rw [foldR_all (f := fun (γ : Ctx.T [.fz 15 (List Int), .ow 14 (List Int), .ow 13 Sheaf, .fz 12 (List (List Int)), .fz 11 (List Int), .ow 10 (List Int), .fz 9 (List (Int × Str)), .fz 8 Int, .ow 7 (List Int), .fz 6 (List (Int × Str)), .ow 5 (List Int), .ow 4 (List Str), .fz 2 Int, .ow 1 (List Int)]) x => m_law_l6 (x, γ)) (g := (x, levO rs, ⟨⟨rs⟩⟩, ls, shares, ordI rs, f0 :: fr, w, es, rs, lv, nm, (n : Int), ds, ())) (fun e he => by
      have be := ends e he
      show m_law_l6 (e, x, levO rs, ⟨⟨rs⟩⟩, ls, shares, ordI rs, f0 :: fr, w, es, rs, lv, nm, (n : Int), ds, ()) = _
      unfold m_law_l6
      simp only [Rs.bo, g0]
      rw [right hx w0 w1 hw be.1 be.2]
      rfl)]
    show m_law_b7 (x, levO rs, ⟨⟨rs⟩⟩, ls, shares, ordI rs, f0 :: fr, w, es, rs, lv, nm, (n : Int), ds, ()) = _
    unfold m_law_b7
    simp only [Rs.bo, getI_0]
    rw [if_pos (by decide)]
    simp only [Rs.bo]
    rw [right (lo := false) hx (by omega) (by omega) (fun z => nomatch z) (by omega) (by omega)]
    rfl), left_okl]
  unfold m_law_b15
  simp only [Rs.bo, Rs.okl]
  have eo := order_ok (rs := rs) (by omega) hv hnd
  have same := same_integers_ok (xs := ordI rs) (by omega)
  obtain ⟨o0, eo0, -, -⟩ := getI_mem (xs := ordI rs) (k := 0) (by decide) (by omega)
  rw [eo]
  simp only [Rs.bo]
  rw [same]
  simp only [Rs.bo, Bool.not_true, Bool.false_eq_true, if_false]
  rw [eo0]
  simp only [Rs.bo]
  rw [appI_ok (by omega)]
  simp only [Rs.bo]
  rw [setI_in (by decide) (by rw [List.length_append, List.length_singleton]; omega)]
  simp only [Rs.bo]
  rw [eo]
  simp only [Rs.bo]
  rw [same]
  simp only [Rs.bo, Bool.not_true, Bool.false_eq_true, if_false, m_Sheaf_rows, decide_true, gd6]
  refine Rs.exi (fun _ => ⟨_, rfl, rfl⟩) fun _ => ?_
  rw [Rng_nat (by omega)]
  simp only [Rs.bo]
  obtain ⟨again, eag, lag, hag⟩ := comp_ex (t := fun _ => Rs.ok true) (f := fun x => m_law_e9 (x, es, lv, nm, ())) (fun _ (r : Int × Str) => IsRec r.2) (xs := rng 0 (n : Int)) (fun _ _ => rfl) (by
    intro i x hx
    have hx := mem_rng.mp (List.mem_of_getElem? hx)
    obtain ⟨a, ea, -, -⟩ := getI_mem (xs := lv) (k := x) hx.1 (by omega)
    obtain ⟨d, ed, d0, d1⟩ := atk x hx.1 hx.2
    obtain ⟨b, eb, mb, -⟩ := getI_mem (xs := nm) (k := d) d0 (by omega)
    show ∃ y, m_law_e9 (x, es, lv, nm, ()) = .ok y ∧ _
    unfold m_law_e9
    simp only [Rs.bo]
    rw [ea]
    simp only [Rs.bo]
    rw [ed]
    simp only [Rs.bo]
    rw [eb]
    exact ⟨_, rfl, hnm b mb⟩)
  rw [if_pos (by rw [rng_len]; omega), eag]
  simp only [Rs.bo]
  rw [rng_len] at lag
  obtain ⟨o, eo', htl⟩ := law_tail (again := again) (shares := shares) (w := w) hf lls ht g0 g2 (by omega) (by omega) (fun r hr => by obtain ⟨i, hi⟩ := List.mem_iff_getElem?.mp hr; exact hag i r hi)
  rw [eo']
  simp only [Rs.bo, Rs.okl] at htl ⊢
  exact ⟨true, htl, rfl⟩
end Wk
set_option Elab.async false
set_option linter.all false
set_option maxRecDepth 100000
set_option maxHeartbeats 4000000
namespace Wk
open PySem PySem.Spec PyProof.Rows L2 Wm
/-! ### the end -/
def spLaw (K : PySem.W.Frag) : Sp := fun vs H Q _ => ∃ (a : Addr) (ns : List Int), vs = [.ref a] ∧ SqL K H a (ns.map V.int) ∧ ns.length ≤ 63 ∧ ∀ H', Q (.bl true) H'
theorem law_sp {K : PySem.W.Frag} {mg : Str → Option Value} (T : Txt K mg) (vs : List V) (H : Hp) (Q : VK) (E : XK) (h : spLaw K vs H Q E) : spF (wdOf T) (kF : Kd (wdOf T) Bool) [.fz 0 Script] m_law vs H Q E := by
  obtain ⟨a, ns, e, hS, hl, q⟩ := h
  subst e
  refine ⟨rfl, H, (⟨ns⟩, ()), Same.refl H, ⟨_, [], rfl, rfl, ⟨a, rfl, hS⟩, rfl⟩, ?_⟩
  rw [law_true ns hl]
  exact fun H' G' v f r => by rw [show v = V.bl true from r]; exact q H'
theorem all_mk {l : PySem.W.OpenLaw} {w : World} {K : PySem.W.Frag} {h : Heap} {mg : Str → Option Value} {fa : Addr} (X : K.In h) (G : h.Ns mainGlobals mg) (hfa : mg "law" = some (.ref fa))
    {od0 an0 : Option Addr} {sl0 : Array (Option Value)} {oc0 kV0 dc0 pm0 cd0 ct0 : Value} {f0 : Addr}
    {od1 an1 : Option Addr} {sl1 : Array (Option Value)} {oc1 kV1 dc1 pm1 cd1 ct1 : Value} {f1 : Addr}
    {od2 an2 : Option Addr} {sl2 : Array (Option Value)} {oc2 kV2 dc2 pm2 cd2 ct2 : Value} {f2 : Addr}
    {od3 an3 : Option Addr} {sl3 : Array (Option Value)} {oc3 kV3 dc3 pm3 cd3 ct3 : Value} {f3 : Addr}
    {od4 an4 : Option Addr} {sl4 : Array (Option Value)} {oc4 kV4 dc4 pm4 cd4 ct4 : Value} {f4 : Addr}
    {od5 an5 : Option Addr} {sl5 : Array (Option Value)} {oc5 kV5 dc5 pm5 cd5 ct5 : Value} {f5 : Addr}
    {od6 an6 : Option Addr} {sl6 : Array (Option Value)} {oc6 kV6 dc6 pm6 cd6 ct6 : Value} {f6 : Addr}
    {od7 an7 : Option Addr} {sl7 : Array (Option Value)} {oc7 kV7 dc7 pm7 cd7 ct7 : Value} {f7 : Addr}
    {od8 an8 : Option Addr} {sl8 : Array (Option Value)} {oc8 kV8 dc8 pm8 cd8 ct8 : Value} {f8 : Addr}
    {od9 an9 : Option Addr} {sl9 : Array (Option Value)} {oc9 kV9 dc9 pm9 cd9 ct9 : Value} {f9 : Addr}
    {od10 an10 : Option Addr} {sl10 : Array (Option Value)} {oc10 kV10 dc10 pm10 cd10 ct10 : Value} {f10 : Addr}
    {od11 an11 : Option Addr} {sl11 : Array (Option Value)} {oc11 kV11 dc11 pm11 cd11 ct11 : Value} {f11 : Addr}
    {od12 an12 : Option Addr} {sl12 : Array (Option Value)} {oc12 kV12 dc12 pm12 cd12 ct12 : Value} {f12 : Addr}
    {od13 an13 : Option Addr} {sl13 : Array (Option Value)} {oc13 kV13 dc13 pm13 cd13 ct13 : Value} {f13 : Addr}
    {od14 an14 : Option Addr} {sl14 : Array (Option Value)} {oc14 kV14 dc14 pm14 cd14 ct14 : Value} {f14 : Addr}
    {od15 an15 : Option Addr} {sl15 : Array (Option Value)} {oc15 kV15 dc15 pm15 cd15 ct15 : Value} {f15 : Addr}
    {od16 an16 : Option Addr} {sl16 : Array (Option Value)} {oc16 kV16 dc16 pm16 cd16 ct16 : Value} {f16 : Addr}
    {od17 an17 : Option Addr} {sl17 : Array (Option Value)} {oc17 kV17 dc17 pm17 cd17 ct17 : Value} {f17 : Addr}
    {od18 an18 : Option Addr} {sl18 : Array (Option Value)} {oc18 kV18 dc18 pm18 cd18 ct18 : Value} {f18 : Addr}
    {od19 an19 : Option Addr} {sl19 : Array (Option Value)} {oc19 kV19 dc19 pm19 cd19 ct19 : Value} {f19 : Addr}
    {od20 an20 : Option Addr} {sl20 : Array (Option Value)} {oc20 kV20 dc20 pm20 cd20 ct20 : Value} {f20 : Addr}
    {od21 an21 : Option Addr} {sl21 : Array (Option Value)} {oc21 kV21 dc21 pm21 cd21 ct21 : Value} {f21 : Addr}
    {od22 an22 : Option Addr} {sl22 : Array (Option Value)} {oc22 kV22 dc22 pm22 cd22 ct22 : Value} {f22 : Addr}
    {od23 an23 : Option Addr} {sl23 : Array (Option Value)} {oc23 kV23 dc23 pm23 cd23 ct23 : Value} {f23 : Addr}
    {od24 an24 : Option Addr} {sl24 : Array (Option Value)} {oc24  dc24 pm24 cd24 ct24 : Value} {f24 : Addr}
    {od25 an25 : Option Addr} {sl25 : Array (Option Value)} {oc25 kV25 dc25 pm25 cd25 ct25 : Value} {f25 : Addr}
    {od26 an26 : Option Addr} {sl26 : Array (Option Value)} {oc26 kV26 dc26 pm26 cd26 ct26 : Value} {f26 : Addr}
    {od27 an27 : Option Addr} {sl27 : Array (Option Value)} {oc27 kV27 dc27 pm27 cd27 ct27 : Value} {f27 : Addr}
    {od28 an28 : Option Addr} {sl28 : Array (Option Value)} {oc28 kV28 dc28 pm28 cd28 ct28 : Value} {f28 : Addr}
    {od29 an29 : Option Addr} {sl29 : Array (Option Value)} {oc29 kV29 dc29 pm29 cd29 ct29 : Value} {f29 : Addr}
    {od30 an30 : Option Addr} {sl30 : Array (Option Value)} {oc30 kV30 dc30 pm30 cd30 ct30 : Value} {f30 : Addr}
    {od31 an31 : Option Addr} {sl31 : Array (Option Value)} {oc31 kV31 dc31 pm31 cd31 ct31 : Value} {f31 : Addr}
    {od32 an32 : Option Addr} {sl32 : Array (Option Value)} {oc32 kV32 dc32 pm32 cd32 ct32 : Value} {f32 : Addr}
    {od33 an33 : Option Addr} {sl33 : Array (Option Value)} {oc33 kV33 dc33 pm33 cd33 ct33 : Value} {f33 : Addr}
    {od34 an34 : Option Addr} {sl34 : Array (Option Value)} {oc34 kV34 dc34 pm34 cd34 ct34 : Value} {f34 : Addr}
    {od35 an35 : Option Addr} {sl35 : Array (Option Value)} {oc35 kV35 dc35 pm35 cd35 ct35 : Value} {f35 : Addr}
    {od36 an36 : Option Addr} {sl36 : Array (Option Value)} {oc36 kV36 dc36 pm36 cd36 ct36 : Value} {f36 : Addr}
    {c_Sheaf : Addr}
    {c_WornError : Addr}
    {c_InvalidSheaf : Addr}
    {nm_InvalidSheaf q_InvalidSheaf : Str} {N_InvalidSheaf : Addr} {bs_InvalidSheaf : List Value} {sn_InvalidSheaf : List Str} {sub_InvalidSheaf : List Value} {ab_InvalidSheaf : Bool} {col_InvalidSheaf : Option Bool} {dd_InvalidSheaf : Option Addr} {k0_InvalidSheaf k1_InvalidSheaf k2_InvalidSheaf k3_InvalidSheaf k5_InvalidSheaf : Option Value} {o_InvalidSheaf : Obj}
    {c_RepeatedRecord : Addr}
    {nm_RepeatedRecord q_RepeatedRecord : Str} {N_RepeatedRecord : Addr} {bs_RepeatedRecord : List Value} {sn_RepeatedRecord : List Str} {sub_RepeatedRecord : List Value} {ab_RepeatedRecord : Bool} {col_RepeatedRecord : Option Bool} {dd_RepeatedRecord : Option Addr} {k0_RepeatedRecord k1_RepeatedRecord k2_RepeatedRecord k3_RepeatedRecord k5_RepeatedRecord : Option Value} {o_RepeatedRecord : Obj}
    {c_UnknownRecord : Addr}
    {c_NoOutcome : Addr}
    {c_Impossible : Addr}
    {D24 : Addr} {tk24 : Tok}
    {t_LONGEST : Tok}
    {t_SIGNS : Tok}
    (aC_Sheaf : PySem.W.nsIn K mainGlobals "Sheaf" = some (some (.ref c_Sheaf))) (pg_Sheaf : PySem.W.plainGet K c_Sheaf Str.empty = true) (hd_Sheaf : PySem.W.hasDictIn K c_Sheaf = true) (po_Sheaf : PySem.W.plainOver K c_Sheaf = true) (sa_Sheaf : PySem.W.findIn K (.ref c_Sheaf) "__setattr__" = some (some (.builtin "object.__setattr__"))) (mk_Sheaf : PySem.W.makesIn K c_Sheaf = true) (kc_Sheaf : PySem.W.keepIn K (.ref c_Sheaf) = true)
    (na_Sheaf__rows : PySem.W.findIn K (.ref c_Sheaf) "_rows" = some none)
    (aC_WornError : PySem.W.nsIn K mainGlobals "WornError" = some (some (.ref c_WornError)))
    (xr_WornError : PySem.W.readsIn K c_WornError (.type "type") = true)
    (xg_WornError : PySem.W.specialIn K (.ref c_WornError) "__getattribute__" = some (some (.builtin "type.__getattribute__")))
    (xv_WornError : PySem.W.findCls K (.ref c_WornError) (.type "type") "__init__" = some (.val (.builtin "ValueError.__init__")))
    (xe_WornError : PySem.W.subIn K (.ref c_WornError) (.type "BaseException") = some true)
    (xt_WornError : PySem.W.typeIn K (.ref c_WornError) = some (.type "type"))
    (yh_WornError : PySem.W.hasDictIn K c_WornError = true)
    (ys_WornError : PySem.W.subIn K (.ref c_WornError) (.ref c_WornError) = some true)
    (aC_InvalidSheaf : PySem.W.nsIn K mainGlobals "InvalidSheaf" = some (some (.ref c_InvalidSheaf)))
    (xl_InvalidSheaf : K.lookup c_InvalidSheaf = some o_InvalidSheaf)
    (xo_InvalidSheaf : o_InvalidSheaf = excClassObj nm_InvalidSheaf q_InvalidSheaf c_InvalidSheaf N_InvalidSheaf bs_InvalidSheaf [.ref c_WornError, .type "ValueError", .type "Exception", .type "BaseException", .type "object"] true sn_InvalidSheaf sub_InvalidSheaf ab_InvalidSheaf col_InvalidSheaf dd_InvalidSheaf k0_InvalidSheaf k1_InvalidSheaf k2_InvalidSheaf k3_InvalidSheaf k5_InvalidSheaf "ValueError.__new__")
    (xs_InvalidSheaf : PySem.W.findIn K (.ref c_InvalidSheaf) "__setattr__" = some (some (.builtin "object.__setattr__")))
    (xk_InvalidSheaf : PySem.W.keepIn K (.ref c_InvalidSheaf) = true)
    (xe_InvalidSheaf : PySem.W.subIn K (.ref c_InvalidSheaf) (.type "BaseException") = some true)
    (xt_InvalidSheaf : PySem.W.typeIn K (.ref c_InvalidSheaf) = some (.type "type"))
    (nf_InvalidSheaf : PySem.W.findIn K (.ref c_InvalidSheaf) "index" = some none)
    (yh_InvalidSheaf : PySem.W.hasDictIn K c_InvalidSheaf = true)
    (ys_InvalidSheaf : PySem.W.subIn K (.ref c_InvalidSheaf) (.ref c_InvalidSheaf) = some true)
    (aC_RepeatedRecord : PySem.W.nsIn K mainGlobals "RepeatedRecord" = some (some (.ref c_RepeatedRecord)))
    (xl_RepeatedRecord : K.lookup c_RepeatedRecord = some o_RepeatedRecord)
    (xo_RepeatedRecord : o_RepeatedRecord = excClassObj nm_RepeatedRecord q_RepeatedRecord c_RepeatedRecord N_RepeatedRecord bs_RepeatedRecord [.ref c_WornError, .type "ValueError", .type "Exception", .type "BaseException", .type "object"] true sn_RepeatedRecord sub_RepeatedRecord ab_RepeatedRecord col_RepeatedRecord dd_RepeatedRecord k0_RepeatedRecord k1_RepeatedRecord k2_RepeatedRecord k3_RepeatedRecord k5_RepeatedRecord "ValueError.__new__")
    (xs_RepeatedRecord : PySem.W.findIn K (.ref c_RepeatedRecord) "__setattr__" = some (some (.builtin "object.__setattr__")))
    (xk_RepeatedRecord : PySem.W.keepIn K (.ref c_RepeatedRecord) = true)
    (xe_RepeatedRecord : PySem.W.subIn K (.ref c_RepeatedRecord) (.type "BaseException") = some true)
    (xt_RepeatedRecord : PySem.W.typeIn K (.ref c_RepeatedRecord) = some (.type "type"))
    (nf_RepeatedRecord : PySem.W.findIn K (.ref c_RepeatedRecord) "record" = some none)
    (ya_RepeatedRecord : PySem.W.findIn K (.ref c_RepeatedRecord) "__getattribute__" = some (some (.builtin "BaseException.__getattribute__")))
    (yb_RepeatedRecord : PySem.W.findIn K (.ref c_RepeatedRecord) "__getattr__" = some none)
    (yc_RepeatedRecord : PySem.W.findIn K (.ref c_RepeatedRecord) "__class__" = some (some (.builtin "object.__class__")))
    (yd_RepeatedRecord : PySem.W.specialIn K (.builtin "object.__class__") "__get__" = some (some (.builtin "getset_descriptor.__get__")))
    (ye_RepeatedRecord : PySem.W.takesIn K (.builtin "object.__class__") = some true)
    (yf_RepeatedRecord : PySem.W.mroIn K c_RepeatedRecord (.type "object") = some true)
    (yh_RepeatedRecord : PySem.W.hasDictIn K c_RepeatedRecord = true)
    (ys_RepeatedRecord : PySem.W.subIn K (.ref c_RepeatedRecord) (.ref c_RepeatedRecord) = some true)
    (aC_UnknownRecord : PySem.W.nsIn K mainGlobals "UnknownRecord" = some (some (.ref c_UnknownRecord)))
    (xe_UnknownRecord : PySem.W.subIn K (.ref c_UnknownRecord) (.type "BaseException") = some true)
    (xt_UnknownRecord : PySem.W.typeIn K (.ref c_UnknownRecord) = some (.type "type"))
    (yh_UnknownRecord : PySem.W.hasDictIn K c_UnknownRecord = true)
    (ys_UnknownRecord : PySem.W.subIn K (.ref c_UnknownRecord) (.ref c_UnknownRecord) = some true)
    (aC_NoOutcome : PySem.W.nsIn K mainGlobals "NoOutcome" = some (some (.ref c_NoOutcome)))
    (xe_NoOutcome : PySem.W.subIn K (.ref c_NoOutcome) (.type "BaseException") = some true)
    (xt_NoOutcome : PySem.W.typeIn K (.ref c_NoOutcome) = some (.type "type"))
    (yh_NoOutcome : PySem.W.hasDictIn K c_NoOutcome = true)
    (ys_NoOutcome : PySem.W.subIn K (.ref c_NoOutcome) (.ref c_NoOutcome) = some true)
    (aC_Impossible : PySem.W.nsIn K mainGlobals "Impossible" = some (some (.ref c_Impossible)))
    (xe_Impossible : PySem.W.subIn K (.ref c_Impossible) (.type "BaseException") = some true)
    (xt_Impossible : PySem.W.typeIn K (.ref c_Impossible) = some (.type "type"))
    (yh_Impossible : PySem.W.hasDictIn K c_Impossible = true)
    (ys_Impossible : PySem.W.subIn K (.ref c_Impossible) (.ref c_Impossible) = some true)
    (su_RepeatedRecord_WornError : PySem.W.subIn K (.ref c_RepeatedRecord) (.ref c_WornError) = some true)
    (kv_RepeatedRecord : PySem.W.subIn K (.ref c_RepeatedRecord) (.type "ValueError") = some true)
    (su_RepeatedRecord_UnknownRecord : PySem.W.subIn K (.ref c_RepeatedRecord) (.ref c_UnknownRecord) = some false)
    (su_RepeatedRecord_NoOutcome : PySem.W.subIn K (.ref c_RepeatedRecord) (.ref c_NoOutcome) = some false)
    (su_RepeatedRecord_InvalidSheaf : PySem.W.subIn K (.ref c_RepeatedRecord) (.ref c_InvalidSheaf) = some false)
    (su_RepeatedRecord_Impossible : PySem.W.subIn K (.ref c_RepeatedRecord) (.ref c_Impossible) = some false)
    (a0 : PySem.W.nsIn K mainGlobals "_law_cell" = some (some (.ref f0)))
    (l0 : K.lookup f0 = some ⟨oc0, od0, .func (PySem.W.fnOf "_law_cell" "_law_cell" (defArgs s_law_cell) (defBody s_law_cell) (defScope s_law_cell) .none kV0 dc0 pm0 an0 cd0 ct0), sl0⟩) (c0 : PySem.W.codeIn K cd0 "_law_cell" = true) (k0 : PySem.W.keepIn K (.ref f0) = true)
    (a1 : PySem.W.nsIn K mainGlobals "_law_draws" = some (some (.ref f1)))
    (l1 : K.lookup f1 = some ⟨oc1, od1, .func (PySem.W.fnOf "_law_draws" "_law_draws" (defArgs s_law_draws) (defBody s_law_draws) (defScope s_law_draws) .none kV1 dc1 pm1 an1 cd1 ct1), sl1⟩) (c1 : PySem.W.codeIn K cd1 "_law_draws" = true) (k1 : PySem.W.keepIn K (.ref f1) = true)
    (a2 : PySem.W.nsIn K mainGlobals "_law_names" = some (some (.ref f2)))
    (l2 : K.lookup f2 = some ⟨oc2, od2, .func (PySem.W.fnOf "_law_names" "_law_names" (defArgs s_law_names) (defBody s_law_names) (defScope s_law_names) .none kV2 dc2 pm2 an2 cd2 ct2), sl2⟩) (c2 : PySem.W.codeIn K cd2 "_law_names" = true) (k2 : PySem.W.keepIn K (.ref f2) = true)
    (a3 : PySem.W.nsIn K mainGlobals "_law_levels" = some (some (.ref f3)))
    (l3 : K.lookup f3 = some ⟨oc3, od3, .func (PySem.W.fnOf "_law_levels" "_law_levels" (defArgs s_law_levels) (defBody s_law_levels) (defScope s_law_levels) .none kV3 dc3 pm3 an3 cd3 ct3), sl3⟩) (c3 : PySem.W.codeIn K cd3 "_law_levels" = true) (k3 : PySem.W.keepIn K (.ref f3) = true)
    (a4 : PySem.W.nsIn K mainGlobals "_law_deed_cell" = some (some (.ref f4)))
    (l4 : K.lookup f4 = some ⟨oc4, od4, .func (PySem.W.fnOf "_law_deed_cell" "_law_deed_cell" (defArgs s_law_deed_cell) (defBody s_law_deed_cell) (defScope s_law_deed_cell) .none kV4 dc4 pm4 an4 cd4 ct4), sl4⟩) (c4 : PySem.W.codeIn K cd4 "_law_deed_cell" = true) (k4 : PySem.W.keepIn K (.ref f4) = true)
    (a5 : PySem.W.nsIn K mainGlobals "_law_moved" = some (some (.ref f5)))
    (l5 : K.lookup f5 = some ⟨oc5, od5, .func (PySem.W.fnOf "_law_moved" "_law_moved" (defArgs s_law_moved) (defBody s_law_moved) (defScope s_law_moved) .none kV5 dc5 pm5 an5 cd5 ct5), sl5⟩) (c5 : PySem.W.codeIn K cd5 "_law_moved" = true) (k5 : PySem.W.keepIn K (.ref f5) = true)
    (a6 : PySem.W.nsIn K mainGlobals "_law_wild_log" = some (some (.ref f6)))
    (l6 : K.lookup f6 = some ⟨oc6, od6, .func (PySem.W.fnOf "_law_wild_log" "_law_wild_log" (defArgs s_law_wild_log) (defBody s_law_wild_log) (defScope s_law_wild_log) .none kV6 dc6 pm6 an6 cd6 ct6), sl6⟩) (c6 : PySem.W.codeIn K cd6 "_law_wild_log" = true) (k6 : PySem.W.keepIn K (.ref f6) = true)
    (a7 : PySem.W.nsIn K mainGlobals "_law_played" = some (some (.ref f7)))
    (l7 : K.lookup f7 = some ⟨oc7, od7, .func (PySem.W.fnOf "_law_played" "_law_played" (defArgs s_law_played) (defBody s_law_played) (defScope s_law_played) .none kV7 dc7 pm7 an7 cd7 ct7), sl7⟩) (c7 : PySem.W.codeIn K cd7 "_law_played" = true) (k7 : PySem.W.keepIn K (.ref f7) = true)
    (a8 : PySem.W.nsIn K mainGlobals "_law_finished" = some (some (.ref f8)))
    (l8 : K.lookup f8 = some ⟨oc8, od8, .func (PySem.W.fnOf "_law_finished" "_law_finished" (defArgs s_law_finished) (defBody s_law_finished) (defScope s_law_finished) .none kV8 dc8 pm8 an8 cd8 ct8), sl8⟩) (c8 : PySem.W.codeIn K cd8 "_law_finished" = true) (k8 : PySem.W.keepIn K (.ref f8) = true)
    (a9 : PySem.W.nsIn K mainGlobals "_law_run" = some (some (.ref f9)))
    (l9 : K.lookup f9 = some ⟨oc9, od9, .func (PySem.W.fnOf "_law_run" "_law_run" (defArgs s_law_run) (defBody s_law_run) (defScope s_law_run) .none kV9 dc9 pm9 an9 cd9 ct9), sl9⟩) (c9 : PySem.W.codeIn K cd9 "_law_run" = true) (k9 : PySem.W.keepIn K (.ref f9) = true)
    (a10 : PySem.W.nsIn K mainGlobals "_law_order" = some (some (.ref f10)))
    (l10 : K.lookup f10 = some ⟨oc10, od10, .func (PySem.W.fnOf "_law_order" "_law_order" (defArgs s_law_order) (defBody s_law_order) (defScope s_law_order) .none kV10 dc10 pm10 an10 cd10 ct10), sl10⟩) (c10 : PySem.W.codeIn K cd10 "_law_order" = true) (k10 : PySem.W.keepIn K (.ref f10) = true)
    (a11 : PySem.W.nsIn K mainGlobals "_law_lists" = some (some (.ref f11)))
    (l11 : K.lookup f11 = some ⟨oc11, od11, .func (PySem.W.fnOf "_law_lists" "_law_lists" (defArgs s_law_lists) (defBody s_law_lists) (defScope s_law_lists) .none kV11 dc11 pm11 an11 cd11 ct11), sl11⟩) (c11 : PySem.W.codeIn K cd11 "_law_lists" = true) (k11 : PySem.W.keepIn K (.ref f11) = true)
    (a12 : PySem.W.findIn K (.ref c_InvalidSheaf) "__init__" = some (some (.ref f12))) (i12 : PySem.W.typeIn K (.ref f12) = some (.type "function"))
    (l12 : K.lookup f12 = some ⟨oc12, od12, .func (PySem.W.fnOf "__init__" "InvalidSheaf.__init__" (defArgs s_InvalidSheaf_init) (defBody s_InvalidSheaf_init) (defScope s_InvalidSheaf_init) .none kV12 dc12 pm12 an12 cd12 ct12), sl12⟩) (c12 : PySem.W.codeIn K cd12 "InvalidSheaf.__init__" = true) (k12 : PySem.W.keepIn K (.ref f12) = true)
    (a13 : PySem.W.nsIn K mainGlobals "valid_record" = some (some (.ref f13)))
    (l13 : K.lookup f13 = some ⟨oc13, od13, .func (PySem.W.fnOf "valid_record" "valid_record" (defArgs s_valid_record) (defBody s_valid_record) (defScope s_valid_record) .none kV13 dc13 pm13 an13 cd13 ct13), sl13⟩) (c13 : PySem.W.codeIn K cd13 "valid_record" = true) (k13 : PySem.W.keepIn K (.ref f13) = true)
    (a14 : PySem.W.findIn K (.ref c_Sheaf) "__init__" = some (some (.ref f14))) (i14 : PySem.W.isFn K (.ref f14) = true)
    (l14 : K.lookup f14 = some ⟨oc14, od14, .func (PySem.W.fnOf "__init__" "Sheaf.__init__" (defArgs s_Sheaf_init) (defBody s_Sheaf_init) (defScope s_Sheaf_init) .none kV14 dc14 pm14 an14 cd14 ct14), sl14⟩) (c14 : PySem.W.codeIn K cd14 "Sheaf.__init__" = true) (k14 : PySem.W.keepIn K (.ref f14) = true)
    (a15 : PySem.W.findIn K (.ref c_Sheaf) "rows" = some (some (.ref f15))) (i15 : PySem.W.isFn K (.ref f15) = true)
    (l15 : K.lookup f15 = some ⟨oc15, od15, .func (PySem.W.fnOf "rows" "Sheaf.rows" (defArgs s_Sheaf_rows) (defBody s_Sheaf_rows) (defScope s_Sheaf_rows) .none kV15 dc15 pm15 an15 cd15 ct15), sl15⟩) (c15 : PySem.W.codeIn K cd15 "Sheaf.rows" = true) (k15 : PySem.W.keepIn K (.ref f15) = true)
    (a16 : PySem.W.findIn K (.ref c_Sheaf) "shares" = some (some (.ref f16))) (i16 : PySem.W.isFn K (.ref f16) = true)
    (l16 : K.lookup f16 = some ⟨oc16, od16, .func (PySem.W.fnOf "shares" "Sheaf.shares" (defArgs s_Sheaf_shares) (defBody s_Sheaf_shares) (defScope s_Sheaf_shares) .none kV16 dc16 pm16 an16 cd16 ct16), sl16⟩) (c16 : PySem.W.codeIn K cd16 "Sheaf.shares" = true) (k16 : PySem.W.keepIn K (.ref f16) = true)
    (a17 : PySem.W.nsIn K mainGlobals "ascending" = some (some (.ref f17)))
    (l17 : K.lookup f17 = some ⟨oc17, od17, .func (PySem.W.fnOf "ascending" "ascending" (defArgs s_ascending) (defBody s_ascending) (defScope s_ascending) .none kV17 dc17 pm17 an17 cd17 ct17), sl17⟩) (c17 : PySem.W.codeIn K cd17 "ascending" = true) (k17 : PySem.W.keepIn K (.ref f17) = true)
    (a18 : PySem.W.findIn K (.ref c_Sheaf) "records" = some (some (.ref f18))) (i18 : PySem.W.isFn K (.ref f18) = true)
    (l18 : K.lookup f18 = some ⟨oc18, od18, .func (PySem.W.fnOf "records" "Sheaf.records" (defArgs s_Sheaf_records) (defBody s_Sheaf_records) (defScope s_Sheaf_records) .none kV18 dc18 pm18 an18 cd18 ct18), sl18⟩) (c18 : PySem.W.codeIn K cd18 "Sheaf.records" = true) (k18 : PySem.W.keepIn K (.ref f18) = true)
    (a19 : PySem.W.findIn K (.ref c_RepeatedRecord) "__init__" = some (some (.ref f19))) (i19 : PySem.W.typeIn K (.ref f19) = some (.type "function"))
    (l19 : K.lookup f19 = some ⟨oc19, od19, .func (PySem.W.fnOf "__init__" "RepeatedRecord.__init__" (defArgs s_RepeatedRecord_init) (defBody s_RepeatedRecord_init) (defScope s_RepeatedRecord_init) .none kV19 dc19 pm19 an19 cd19 ct19), sl19⟩) (c19 : PySem.W.codeIn K cd19 "RepeatedRecord.__init__" = true) (k19 : PySem.W.keepIn K (.ref f19) = true)
    (a20 : PySem.W.nsIn K mainGlobals "outcome_order" = some (some (.ref f20)))
    (l20 : K.lookup f20 = some ⟨oc20, od20, .func (PySem.W.fnOf "outcome_order" "outcome_order" (defArgs s_outcome_order) (defBody s_outcome_order) (defScope s_outcome_order) .none kV20 dc20 pm20 an20 cd20 ct20), sl20⟩) (c20 : PySem.W.codeIn K cd20 "outcome_order" = true) (k20 : PySem.W.keepIn K (.ref f20) = true)
    (a21 : PySem.W.nsIn K mainGlobals "ordered_levels" = some (some (.ref f21)))
    (l21 : K.lookup f21 = some ⟨oc21, od21, .func (PySem.W.fnOf "ordered_levels" "ordered_levels" (defArgs s_ordered_levels) (defBody s_ordered_levels) (defScope s_ordered_levels) .none kV21 dc21 pm21 an21 cd21 ct21), sl21⟩) (c21 : PySem.W.codeIn K cd21 "ordered_levels" = true) (k21 : PySem.W.keepIn K (.ref f21) = true)
    (a22 : PySem.W.nsIn K mainGlobals "capped_power" = some (some (.ref f22)))
    (l22 : K.lookup f22 = some ⟨oc22, od22, .func (PySem.W.fnOf "capped_power" "capped_power" (defArgs s_capped_power) (defBody s_capped_power) (defScope s_capped_power) .none kV22 dc22 pm22 an22 cd22 ct22), sl22⟩) (c22 : PySem.W.codeIn K cd22 "capped_power" = true) (k22 : PySem.W.keepIn K (.ref f22) = true)
    (a23 : PySem.W.nsIn K mainGlobals "capped_caps" = some (some (.ref f23)))
    (l23 : K.lookup f23 = some ⟨oc23, od23, .func (PySem.W.fnOf "capped_caps" "capped_caps" (defArgs s_capped_caps) (defBody s_capped_caps) (defScope s_capped_caps) .none kV23 dc23 pm23 an23 cd23 ct23), sl23⟩) (c23 : PySem.W.codeIn K cd23 "capped_caps" = true) (k23 : PySem.W.keepIn K (.ref f23) = true)
    (a24 : PySem.W.nsIn K mainGlobals "is_outcome" = some (some (.ref f24)))
    (l24 : K.lookup f24 = some ⟨oc24, od24, .func (PySem.W.fnOf "is_outcome" "is_outcome" (defArgs s_is_outcome) (defBody s_is_outcome) (defScope s_is_outcome) .none (.ref D24) dc24 pm24 an24 cd24 ct24), sl24⟩) (c24 : PySem.W.codeIn K cd24 "is_outcome" = true) (k24 : PySem.W.keepIn K (.ref f24) = true)
    (kd24 : PySem.W.nsIn K D24 "breadth" = some (some (.int 1 tk24)))
    (a25 : PySem.W.nsIn K mainGlobals "_law_told" = some (some (.ref f25)))
    (l25 : K.lookup f25 = some ⟨oc25, od25, .func (PySem.W.fnOf "_law_told" "_law_told" (defArgs s_law_told) (defBody s_law_told) (defScope s_law_told) .none kV25 dc25 pm25 an25 cd25 ct25), sl25⟩) (c25 : PySem.W.codeIn K cd25 "_law_told" = true) (k25 : PySem.W.keepIn K (.ref f25) = true)
    (a26 : PySem.W.nsIn K mainGlobals "_law_low" = some (some (.ref f26)))
    (l26 : K.lookup f26 = some ⟨oc26, od26, .func (PySem.W.fnOf "_law_low" "_law_low" (defArgs s_law_low) (defBody s_law_low) (defScope s_law_low) .none kV26 dc26 pm26 an26 cd26 ct26), sl26⟩) (c26 : PySem.W.codeIn K cd26 "_law_low" = true) (k26 : PySem.W.keepIn K (.ref f26) = true)
    (a27 : PySem.W.nsIn K mainGlobals "_law_power" = some (some (.ref f27)))
    (l27 : K.lookup f27 = some ⟨oc27, od27, .func (PySem.W.fnOf "_law_power" "_law_power" (defArgs s_law_power) (defBody s_law_power) (defScope s_law_power) .none kV27 dc27 pm27 an27 cd27 ct27), sl27⟩) (c27 : PySem.W.codeIn K cd27 "_law_power" = true) (k27 : PySem.W.keepIn K (.ref f27) = true)
    (a28 : PySem.W.nsIn K mainGlobals "_law_cap" = some (some (.ref f28)))
    (l28 : K.lookup f28 = some ⟨oc28, od28, .func (PySem.W.fnOf "_law_cap" "_law_cap" (defArgs s_law_cap) (defBody s_law_cap) (defScope s_law_cap) .none kV28 dc28 pm28 an28 cd28 ct28), sl28⟩) (c28 : PySem.W.codeIn K cd28 "_law_cap" = true) (k28 : PySem.W.keepIn K (.ref f28) = true)
    (a29 : PySem.W.nsIn K mainGlobals "_law_high" = some (some (.ref f29)))
    (l29 : K.lookup f29 = some ⟨oc29, od29, .func (PySem.W.fnOf "_law_high" "_law_high" (defArgs s_law_high) (defBody s_law_high) (defScope s_law_high) .none kV29 dc29 pm29 an29 cd29 ct29), sl29⟩) (c29 : PySem.W.codeIn K cd29 "_law_high" = true) (k29 : PySem.W.keepIn K (.ref f29) = true)
    (a30 : PySem.W.nsIn K mainGlobals "_law_is_outcome" = some (some (.ref f30)))
    (l30 : K.lookup f30 = some ⟨oc30, od30, .func (PySem.W.fnOf "_law_is_outcome" "_law_is_outcome" (defArgs s_law_is_outcome) (defBody s_law_is_outcome) (defScope s_law_is_outcome) .none kV30 dc30 pm30 an30 cd30 ct30), sl30⟩) (c30 : PySem.W.codeIn K cd30 "_law_is_outcome" = true) (k30 : PySem.W.keepIn K (.ref f30) = true)
    (a31 : PySem.W.nsIn K mainGlobals "_law_right" = some (some (.ref f31)))
    (l31 : K.lookup f31 = some ⟨oc31, od31, .func (PySem.W.fnOf "_law_right" "_law_right" (defArgs s_law_right) (defBody s_law_right) (defScope s_law_right) .none kV31 dc31 pm31 an31 cd31 ct31), sl31⟩) (c31 : PySem.W.codeIn K cd31 "_law_right" = true) (k31 : PySem.W.keepIn K (.ref f31) = true)
    (a32 : PySem.W.nsIn K mainGlobals "_law_is_integer" = some (some (.ref f32)))
    (l32 : K.lookup f32 = some ⟨oc32, od32, .func (PySem.W.fnOf "_law_is_integer" "_law_is_integer" (defArgs s_law_is_integer) (defBody s_law_is_integer) (defScope s_law_is_integer) .none kV32 dc32 pm32 an32 cd32 ct32), sl32⟩) (c32 : PySem.W.codeIn K cd32 "_law_is_integer" = true) (k32 : PySem.W.keepIn K (.ref f32) = true)
    (a33 : PySem.W.nsIn K mainGlobals "_law_same_integers" = some (some (.ref f33)))
    (l33 : K.lookup f33 = some ⟨oc33, od33, .func (PySem.W.fnOf "_law_same_integers" "_law_same_integers" (defArgs s_law_same_integers) (defBody s_law_same_integers) (defScope s_law_same_integers) .none kV33 dc33 pm33 an33 cd33 ct33), sl33⟩) (c33 : PySem.W.codeIn K cd33 "_law_same_integers" = true) (k33 : PySem.W.keepIn K (.ref f33) = true)
    (a34 : PySem.W.nsIn K mainGlobals "_law_repeated" = some (some (.ref f34)))
    (l34 : K.lookup f34 = some ⟨oc34, od34, .func (PySem.W.fnOf "_law_repeated" "_law_repeated" (defArgs s_law_repeated) (defBody s_law_repeated) (defScope s_law_repeated) .none kV34 dc34 pm34 an34 cd34 ct34), sl34⟩) (c34 : PySem.W.codeIn K cd34 "_law_repeated" = true) (k34 : PySem.W.keepIn K (.ref f34) = true)
    (a35 : PySem.W.nsIn K mainGlobals "_law_refused" = some (some (.ref f35)))
    (l35 : K.lookup f35 = some ⟨oc35, od35, .func (PySem.W.fnOf "_law_refused" "_law_refused" (defArgs s_law_refused) (defBody s_law_refused) (defScope s_law_refused) .none kV35 dc35 pm35 an35 cd35 ct35), sl35⟩) (c35 : PySem.W.codeIn K cd35 "_law_refused" = true) (k35 : PySem.W.keepIn K (.ref f35) = true)
    (a36 : PySem.W.nsIn K mainGlobals "law" = some (some (.ref f36)))
    (l36 : K.lookup f36 = some ⟨oc36, od36, .func (PySem.W.fnOf "law" "law" (defArgs s_law) (defBody s_law) (defScope s_law) .none kV36 dc36 pm36 an36 cd36 ct36), sl36⟩) (c36 : PySem.W.codeIn K cd36 "law" = true) (k36 : PySem.W.keepIn K (.ref f36) = true)
    (z_ValueError : PySem.W.nsIn K mainGlobals "ValueError" = some none)
    (z_any : PySem.W.nsIn K mainGlobals "any" = some none)
    (z_bool : PySem.W.nsIn K mainGlobals "bool" = some none)
    (z_enumerate : PySem.W.nsIn K mainGlobals "enumerate" = some none)
    (z_int : PySem.W.nsIn K mainGlobals "int" = some none)
    (z_isinstance : PySem.W.nsIn K mainGlobals "isinstance" = some none)
    (z_len : PySem.W.nsIn K mainGlobals "len" = some none)
    (z_list : PySem.W.nsIn K mainGlobals "list" = some none)
    (z_max : PySem.W.nsIn K mainGlobals "max" = some none)
    (z_min : PySem.W.nsIn K mainGlobals "min" = some none)
    (z_range : PySem.W.nsIn K mainGlobals "range" = some none)
    (z_sorted : PySem.W.nsIn K mainGlobals "sorted" = some none)
    (z_str : PySem.W.nsIn K mainGlobals "str" = some none)
    (z_sum : PySem.W.nsIn K mainGlobals "sum" = some none)
    (z_tuple : PySem.W.nsIn K mainGlobals "tuple" = some none)
    (v_LONGEST : PySem.W.nsIn K mainGlobals "LONGEST" = some (some (.int 8 t_LONGEST)))
    (v_SIGNS : PySem.W.nsIn K mainGlobals "SIGNS" = some (some (.str "abcdefghijklmnopqrstuvwxyz0123456789" t_SIGNS))) :
    ∃ fd : FuncData, (∀ (s : Shared) (v : Value), BindsTo s fd ⟨[v], []⟩ [("script", v)]) ∧ ∀ base : Heap, K.In base → base.Ns mainGlobals mg → FnOk l.prog w K mg base (L2N.CX l.prog w) 9 fa fd ["script"] (spLaw K) := by
  have e := hfa.symm.trans (PySem.W.mg_of X G a36)
  cases e
  let T : Txt K mg := {
    g_law_cell := PySem.W.mg_of X G a0,
    a_law_cell := _, d_law_cell := _, F_law_cell := fun_mk (st := s_law_cell) l0 c0 k0, b_law_cell := (fun_mk (st := s_law_cell) l0 c0 k0).binds (ps := ["script", "k"]) (fun _ _ _ _ _ _ us hl => match us, hl with | [_, _], _ => rfl),
    g_law_draws := PySem.W.mg_of X G a1,
    a_law_draws := _, d_law_draws := _, F_law_draws := fun_mk (st := s_law_draws) l1 c1 k1, b_law_draws := (fun_mk (st := s_law_draws) l1 c1 k1).binds (ps := ["cell", "sizes"]) (fun _ _ _ _ _ _ us hl => match us, hl with | [_, _], _ => rfl),
    g_law_names := PySem.W.mg_of X G a2,
    a_law_names := _, d_law_names := _, F_law_names := fun_mk (st := s_law_names) l2 c2 k2, b_law_names := (fun_mk (st := s_law_names) l2 c2 k2).binds (ps := ["cell", "count"]) (fun _ _ _ _ _ _ us hl => match us, hl with | [_, _], _ => rfl),
    g_law_levels := PySem.W.mg_of X G a3,
    a_law_levels := _, d_law_levels := _, F_law_levels := fun_mk (st := s_law_levels) l3 c3 k3, b_law_levels := (fun_mk (st := s_law_levels) l3 c3 k3).binds (ps := ["cell", "hand", "count", "spread", "base"]) (fun _ _ _ _ _ _ us hl => match us, hl with | [_, _, _, _, _], _ => rfl),
    g_law_deed_cell := PySem.W.mg_of X G a4,
    a_law_deed_cell := _, d_law_deed_cell := _, F_law_deed_cell := fun_mk (st := s_law_deed_cell) l4 c4 k4, b_law_deed_cell := (fun_mk (st := s_law_deed_cell) l4 c4 k4).binds (ps := ["script", "k"]) (fun _ _ _ _ _ _ us hl => match us, hl with | [_, _], _ => rfl),
    g_law_moved := PySem.W.mg_of X G a5,
    a_law_moved := _, d_law_moved := _, F_law_moved := fun_mk (st := s_law_moved) l5 c5 k5, b_law_moved := (fun_mk (st := s_law_moved) l5 c5 k5).binds (ps := ["rows", "source", "targets"]) (fun _ _ _ _ _ _ us hl => match us, hl with | [_, _, _], _ => rfl),
    g_law_wild_log := PySem.W.mg_of X G a6,
    a_law_wild_log := _, d_law_wild_log := _, F_law_wild_log := fun_mk (st := s_law_wild_log) l6 c6 k6, b_law_wild_log := (fun_mk (st := s_law_wild_log) l6 c6 k6).binds (ps := ["rows", "cells", "width", "most"]) (fun _ _ _ _ _ _ us hl => match us, hl with | [_, _, _, _], _ => rfl),
    g_law_played := PySem.W.mg_of X G a7,
    a_law_played := _, d_law_played := _, F_law_played := fun_mk (st := s_law_played) l7 c7 k7, b_law_played := (fun_mk (st := s_law_played) l7 c7 k7).binds (ps := ["rows", "log"]) (fun _ _ _ _ _ _ us hl => match us, hl with | [_, _], _ => rfl),
    g_law_finished := PySem.W.mg_of X G a8,
    a_law_finished := _, d_law_finished := _, F_law_finished := fun_mk (st := s_law_finished) l8 c8 k8, b_law_finished := (fun_mk (st := s_law_finished) l8 c8 k8).binds (ps := ["rows", "log", "pick"]) (fun _ _ _ _ _ _ us hl => match us, hl with | [_, _, _], _ => rfl),
    g_law_run := PySem.W.mg_of X G a9,
    a_law_run := _, d_law_run := _, F_law_run := fun_mk (st := s_law_run) l9 c9 k9, b_law_run := (fun_mk (st := s_law_run) l9 c9 k9).binds (ps := ["script", "rows", "width"]) (fun _ _ _ _ _ _ us hl => match us, hl with | [_, _, _], _ => rfl),
    g_law_order := PySem.W.mg_of X G a10,
    a_law_order := _, d_law_order := _, F_law_order := fun_mk (st := s_law_order) l10 c10 k10, b_law_order := (fun_mk (st := s_law_order) l10 c10 k10).binds (ps := ["levels"]) (fun _ _ _ _ _ _ us hl => match us, hl with | [_], _ => rfl),
    g_law_lists := PySem.W.mg_of X G a11,
    a_law_lists := _, d_law_lists := _, F_law_lists := fun_mk (st := s_law_lists) l11 c11 k11, b_law_lists := (fun_mk (st := s_law_lists) l11 c11 k11).binds (ps := ["cell", "shares"]) (fun _ _ _ _ _ _ us hl => match us, hl with | [_, _], _ => rfl),
    ox_InvalidSheaf := ⟨⟨⟨_, _, _, _, _, _, _, _, _, _, _, _, _, _, _, xl_InvalidSheaf.trans (congrArg some xo_InvalidSheaf), by rfl⟩, xs_InvalidSheaf, xe_InvalidSheaf, xt_InvalidSheaf, xk_InvalidSheaf⟩, a12, i12⟩,
    a_InvalidSheaf_init := _, d_InvalidSheaf_init := _, F_InvalidSheaf_init := fun_mk (st := s_InvalidSheaf_init) l12 c12 k12, b_InvalidSheaf_init := (fun_mk (st := s_InvalidSheaf_init) l12 c12 k12).binds (ps := ["self", "index"]) (fun _ _ _ _ _ _ us hl => match us, hl with | [_, _], _ => rfl),
    g_valid_record := PySem.W.mg_of X G a13,
    a_valid_record := _, d_valid_record := _, F_valid_record := fun_mk (st := s_valid_record) l13 c13 k13, b_valid_record := (fun_mk (st := s_valid_record) l13 c13 k13).binds (ps := ["text"]) (fun _ _ _ _ _ _ us hl => match us, hl with | [_], _ => rfl),
    mk_Sheaf := ⟨mk_Sheaf, a14, i14, kc_Sheaf⟩,
    a_Sheaf_init := _, d_Sheaf_init := _, F_Sheaf_init := fun_mk (st := s_Sheaf_init) l14 c14 k14, b_Sheaf_init := (fun_mk (st := s_Sheaf_init) l14 c14 k14).binds (ps := ["self", "rows"]) (fun _ _ _ _ _ _ us hl => match us, hl with | [_, _], _ => rfl),
    me_Sheaf_rows := ⟨a15, i15, k15⟩,
    a_Sheaf_rows := _, d_Sheaf_rows := _, F_Sheaf_rows := fun_mk (st := s_Sheaf_rows) l15 c15 k15, b_Sheaf_rows := (fun_mk (st := s_Sheaf_rows) l15 c15 k15).binds (ps := ["self"]) (fun _ _ _ _ _ _ us hl => match us, hl with | [_], _ => rfl),
    me_Sheaf_shares := ⟨a16, i16, k16⟩,
    a_Sheaf_shares := _, d_Sheaf_shares := _, F_Sheaf_shares := fun_mk (st := s_Sheaf_shares) l16 c16 k16, b_Sheaf_shares := (fun_mk (st := s_Sheaf_shares) l16 c16 k16).binds (ps := ["self"]) (fun _ _ _ _ _ _ us hl => match us, hl with | [_], _ => rfl),
    g_ascending := PySem.W.mg_of X G a17,
    a_ascending := _, d_ascending := _, F_ascending := fun_mk (st := s_ascending) l17 c17 k17, b_ascending := (fun_mk (st := s_ascending) l17 c17 k17).binds (ps := ["items"]) (fun _ _ _ _ _ _ us hl => match us, hl with | [_], _ => rfl),
    me_Sheaf_records := ⟨a18, i18, k18⟩,
    a_Sheaf_records := _, d_Sheaf_records := _, F_Sheaf_records := fun_mk (st := s_Sheaf_records) l18 c18 k18, b_Sheaf_records := (fun_mk (st := s_Sheaf_records) l18 c18 k18).binds (ps := ["self"]) (fun _ _ _ _ _ _ us hl => match us, hl with | [_], _ => rfl),
    ox_RepeatedRecord := ⟨⟨⟨_, _, _, _, _, _, _, _, _, _, _, _, _, _, _, xl_RepeatedRecord.trans (congrArg some xo_RepeatedRecord), by rfl⟩, xs_RepeatedRecord, xe_RepeatedRecord, xt_RepeatedRecord, xk_RepeatedRecord⟩, a19, i19⟩,
    a_RepeatedRecord_init := _, d_RepeatedRecord_init := _, F_RepeatedRecord_init := fun_mk (st := s_RepeatedRecord_init) l19 c19 k19, b_RepeatedRecord_init := (fun_mk (st := s_RepeatedRecord_init) l19 c19 k19).binds (ps := ["self", "record"]) (fun _ _ _ _ _ _ us hl => match us, hl with | [_, _], _ => rfl),
    g_outcome_order := PySem.W.mg_of X G a20,
    a_outcome_order := _, d_outcome_order := _, F_outcome_order := fun_mk (st := s_outcome_order) l20 c20 k20, b_outcome_order := (fun_mk (st := s_outcome_order) l20 c20 k20).binds (ps := ["sheaf"]) (fun _ _ _ _ _ _ us hl => match us, hl with | [_], _ => rfl),
    g_ordered_levels := PySem.W.mg_of X G a21,
    a_ordered_levels := _, d_ordered_levels := _, F_ordered_levels := fun_mk (st := s_ordered_levels) l21 c21 k21, b_ordered_levels := (fun_mk (st := s_ordered_levels) l21 c21 k21).binds (ps := ["sheaf"]) (fun _ _ _ _ _ _ us hl => match us, hl with | [_], _ => rfl),
    g_capped_power := PySem.W.mg_of X G a22,
    a_capped_power := _, d_capped_power := _, F_capped_power := fun_mk (st := s_capped_power) l22 c22 k22, b_capped_power := (fun_mk (st := s_capped_power) l22 c22 k22).binds (ps := ["base", "exponent", "limit"]) (fun _ _ _ _ _ _ us hl => match us, hl with | [_, _, _], _ => rfl),
    g_capped_caps := PySem.W.mg_of X G a23,
    a_capped_caps := _, d_capped_caps := _, F_capped_caps := fun_mk (st := s_capped_caps) l23 c23 k23, b_capped_caps := (fun_mk (st := s_capped_caps) l23 c23 k23).binds (ps := ["levels", "end", "breadth"]) (fun _ _ _ _ _ _ us hl => match us, hl with | [_, _, _], _ => rfl),
    g_is_outcome := PySem.W.mg_of X G a24,
    a_is_outcome := _, d_is_outcome := _, F_is_outcome := fun_mk (st := s_is_outcome) l24 c24 k24, dk_is_outcome := kw_dflt (st := s_is_outcome) 3 kd24 ⟨_, rfl⟩ rfl (fun us u hl => match us, hl with | [_, _, _], _ => ⟨_, _, _, _, _, _, rfl, rfl, rfl⟩), kb_is_outcome := kw_given (st := s_is_outcome) 3 (fun us w hl => match us, hl with | [_, _, _], _ => rfl),
    g_law_told := PySem.W.mg_of X G a25,
    a_law_told := _, d_law_told := _, F_law_told := fun_mk (st := s_law_told) l25 c25 k25, b_law_told := (fun_mk (st := s_law_told) l25 c25 k25).binds (ps := ["sheaf", "end", "numbers", "width", "left_out"]) (fun _ _ _ _ _ _ us hl => match us, hl with | [_, _, _, _, _], _ => rfl),
    g_law_low := PySem.W.mg_of X G a26,
    a_law_low := _, d_law_low := _, F_law_low := fun_mk (st := s_law_low) l26 c26 k26, b_law_low := (fun_mk (st := s_law_low) l26 c26 k26).binds (ps := ["levels"]) (fun _ _ _ _ _ _ us hl => match us, hl with | [_], _ => rfl),
    g_law_power := PySem.W.mg_of X G a27,
    a_law_power := _, d_law_power := _, F_law_power := fun_mk (st := s_law_power) l27 c27 k27, b_law_power := (fun_mk (st := s_law_power) l27 c27 k27).binds (ps := ["base", "exponent"]) (fun _ _ _ _ _ _ us hl => match us, hl with | [_, _], _ => rfl),
    g_law_cap := PySem.W.mg_of X G a28,
    a_law_cap := _, d_law_cap := _, F_law_cap := fun_mk (st := s_law_cap) l28 c28 k28, b_law_cap := (fun_mk (st := s_law_cap) l28 c28 k28).binds (ps := ["level", "end", "width"]) (fun _ _ _ _ _ _ us hl => match us, hl with | [_, _, _], _ => rfl),
    g_law_high := PySem.W.mg_of X G a29,
    a_law_high := _, d_law_high := _, F_law_high := fun_mk (st := s_law_high) l29 c29 k29, b_law_high := (fun_mk (st := s_law_high) l29 c29 k29).binds (ps := ["levels", "width"]) (fun _ _ _ _ _ _ us hl => match us, hl with | [_, _], _ => rfl),
    g_law_is_outcome := PySem.W.mg_of X G a30,
    a_law_is_outcome := _, d_law_is_outcome := _, F_law_is_outcome := fun_mk (st := s_law_is_outcome) l30 c30 k30, b_law_is_outcome := (fun_mk (st := s_law_is_outcome) l30 c30 k30).binds (ps := ["levels", "end", "numbers", "width"]) (fun _ _ _ _ _ _ us hl => match us, hl with | [_, _, _, _], _ => rfl),
    g_law_right := PySem.W.mg_of X G a31,
    a_law_right := _, d_law_right := _, F_law_right := fun_mk (st := s_law_right) l31 c31 k31, b_law_right := (fun_mk (st := s_law_right) l31 c31 k31).binds (ps := ["sheaf", "levels", "end", "numbers", "width", "left_out"]) (fun _ _ _ _ _ _ us hl => match us, hl with | [_, _, _, _, _, _], _ => rfl),
    g_law_is_integer := PySem.W.mg_of X G a32,
    a_law_is_integer := _, d_law_is_integer := _, F_law_is_integer := fun_mk (st := s_law_is_integer) l32 c32 k32, b_law_is_integer := (fun_mk (st := s_law_is_integer) l32 c32 k32).binds (ps := ["value"]) (fun _ _ _ _ _ _ us hl => match us, hl with | [_], _ => rfl),
    g_law_same_integers := PySem.W.mg_of X G a33,
    a_law_same_integers := _, d_law_same_integers := _, F_law_same_integers := fun_mk (st := s_law_same_integers) l33 c33 k33, b_law_same_integers := (fun_mk (st := s_law_same_integers) l33 c33 k33).binds (ps := ["told", "due"]) (fun _ _ _ _ _ _ us hl => match us, hl with | [_, _], _ => rfl),
    g_law_repeated := PySem.W.mg_of X G a34,
    a_law_repeated := _, d_law_repeated := _, F_law_repeated := fun_mk (st := s_law_repeated) l34 c34 k34, b_law_repeated := (fun_mk (st := s_law_repeated) l34 c34 k34).binds (ps := ["rows"]) (fun _ _ _ _ _ _ us hl => match us, hl with | [_], _ => rfl),
    g_law_refused := PySem.W.mg_of X G a35,
    a_law_refused := _, d_law_refused := _, F_law_refused := fun_mk (st := s_law_refused) l35 c35 k35, b_law_refused := (fun_mk (st := s_law_refused) l35 c35 k35).binds (ps := ["sheaf", "end", "numbers", "width", "left_out", "record"]) (fun _ _ _ _ _ _ us hl => match us, hl with | [_, _, _, _, _, _], _ => rfl),
    g_law := PySem.W.mg_of X G a36,
    a_law := _, d_law := _, F_law := fun_mk (st := s_law) l36 c36 k36, b_law := (fun_mk (st := s_law) l36 c36 k36).binds (ps := ["script"]) (fun _ _ _ _ _ _ us hl => match us, hl with | [_], _ => rfl),
    c_WornError := _, g_WornError := PySem.W.mg_of X G aC_WornError,
    bx_WornError := ⟨xr_WornError, xg_WornError, xv_WornError⟩,
    xc_WornError := ⟨yh_WornError, xe_WornError, xt_WornError, ys_WornError⟩,
    c_InvalidSheaf := _, g_InvalidSheaf := PySem.W.mg_of X G aC_InvalidSheaf,
    nf_InvalidSheaf := nf_InvalidSheaf,
    xc_InvalidSheaf := ⟨yh_InvalidSheaf, xe_InvalidSheaf, xt_InvalidSheaf, ys_InvalidSheaf⟩,
    c_RepeatedRecord := _, g_RepeatedRecord := PySem.W.mg_of X G aC_RepeatedRecord,
    nf_RepeatedRecord := nf_RepeatedRecord,
    cx_RepeatedRecord := ⟨⟨ya_RepeatedRecord, yb_RepeatedRecord, xe_RepeatedRecord, yh_RepeatedRecord⟩, yc_RepeatedRecord, yd_RepeatedRecord, ye_RepeatedRecord, yf_RepeatedRecord⟩,
    xc_RepeatedRecord := ⟨yh_RepeatedRecord, xe_RepeatedRecord, xt_RepeatedRecord, ys_RepeatedRecord⟩,
    c_UnknownRecord := _, g_UnknownRecord := PySem.W.mg_of X G aC_UnknownRecord,
    xc_UnknownRecord := ⟨yh_UnknownRecord, xe_UnknownRecord, xt_UnknownRecord, ys_UnknownRecord⟩,
    c_NoOutcome := _, g_NoOutcome := PySem.W.mg_of X G aC_NoOutcome,
    xc_NoOutcome := ⟨yh_NoOutcome, xe_NoOutcome, xt_NoOutcome, ys_NoOutcome⟩,
    c_Impossible := _, g_Impossible := PySem.W.mg_of X G aC_Impossible,
    xc_Impossible := ⟨yh_Impossible, xe_Impossible, xt_Impossible, ys_Impossible⟩,
    su_RepeatedRecord_WornError := su_RepeatedRecord_WornError,
    kv_RepeatedRecord := kit_VE kv_RepeatedRecord,
    su_RepeatedRecord_UnknownRecord := su_RepeatedRecord_UnknownRecord,
    su_RepeatedRecord_NoOutcome := su_RepeatedRecord_NoOutcome,
    su_RepeatedRecord_InvalidSheaf := su_RepeatedRecord_InvalidSheaf,
    su_RepeatedRecord_Impossible := su_RepeatedRecord_Impossible,
    c_Sheaf := _, g_Sheaf := PySem.W.mg_of X G aC_Sheaf, cls_Sheaf := ⟨pg_Sheaf, hd_Sheaf, po_Sheaf, sa_Sheaf⟩,
    na_Sheaf__rows := na_Sheaf__rows,
    n_ValueError := PySem.W.mg_none_of X G z_ValueError,
    n_any := PySem.W.mg_none_of X G z_any,
    n_bool := PySem.W.mg_none_of X G z_bool,
    n_enumerate := PySem.W.mg_none_of X G z_enumerate,
    n_int := PySem.W.mg_none_of X G z_int,
    n_isinstance := PySem.W.mg_none_of X G z_isinstance,
    n_len := PySem.W.mg_none_of X G z_len,
    n_list := PySem.W.mg_none_of X G z_list,
    n_max := PySem.W.mg_none_of X G z_max,
    n_min := PySem.W.mg_none_of X G z_min,
    n_range := PySem.W.mg_none_of X G z_range,
    n_sorted := PySem.W.mg_none_of X G z_sorted,
    n_str := PySem.W.mg_none_of X G z_str,
    n_sum := PySem.W.mg_none_of X G z_sum,
    n_tuple := PySem.W.mg_none_of X G z_tuple,
    t_LONGEST := _, g_LONGEST := PySem.W.mg_of X G v_LONGEST,
    t_SIGNS := _, g_SIGNS := PySem.W.mg_of X G v_SIGNS }
  exact ⟨PySem.W.fnOf "law" "law" (defArgs s_law) (defBody s_law) (defScope s_law) .none kV36 dc36 pm36 an36 cd36 ct36, fun s v => .of_eq rfl, fun base _ _ => (ok_law T).imp fun vs H Q E h => law_sp T vs H Q E h⟩
theorem cx_none {P : Program} {w : World} {H : Hp} {s : Shared} {e : Value} {s' : Shared} (h : L2N.CX P w [] H s (fun _ _ _ => False) e s') : False := by
  obtain ⟨_, _, _, _, _, _, _, _, _, _, _, _, z⟩ := h
  exact z
end Wk
open PySem PySem.W PyProof.Rows
set_option maxHeartbeats 0 in
theorem PySem.Challenge.cw_wornsheaf_k24_outcomes_known_holds : PySem.Challenge.rw_wornsheaf_k24_outcomes_known.Holds := by
  w_on; o_law; k_head; (case hw => w_witness2)
  k_fill
  refine L2.walk_of (l := PySem.Challenge.rw_wornsheaf_k24_outcomes_known) (n := 63) (k := 9) (x := "script") (CX := fun w => L2N.CX (PySem.Challenge.rw_wornsheaf_k24_outcomes_known).prog w) (sp := fun w => Wk.spLaw _) rfl (by decide) rfl ⟨rfl, by decide, by decide⟩ (fun w h Y => PySem.W.kIn_of Y) ?F (fun _ _ a ns hl _ hS => ⟨a, ns, rfl, hS, hl, fun _ => rfl⟩) (fun _ _ _ _ _ h => Wk.cx_none h)
  case F =>
    intro w mg fa h KX G hmg
    refine' Wk.all_mk KX G hmg ?aC_Sheaf ?pg_Sheaf ?hd_Sheaf ?po_Sheaf ?sa_Sheaf ?mk_Sheaf ?kc_Sheaf ?na_Sheaf__rows ?aC_WornError ?xr_WornError ?xg_WornError ?xv_WornError ?xe_WornError ?xt_WornError ?yh_WornError ?ys_WornError ?aC_InvalidSheaf ?xl_InvalidSheaf ?xo_InvalidSheaf ?xs_InvalidSheaf ?xk_InvalidSheaf ?xe_InvalidSheaf ?xt_InvalidSheaf ?nf_InvalidSheaf ?yh_InvalidSheaf ?ys_InvalidSheaf ?aC_RepeatedRecord ?xl_RepeatedRecord ?xo_RepeatedRecord ?xs_RepeatedRecord ?xk_RepeatedRecord ?xe_RepeatedRecord ?xt_RepeatedRecord ?nf_RepeatedRecord ?ya_RepeatedRecord ?yb_RepeatedRecord ?yc_RepeatedRecord ?yd_RepeatedRecord ?ye_RepeatedRecord ?yf_RepeatedRecord ?yh_RepeatedRecord ?ys_RepeatedRecord ?aC_UnknownRecord ?xe_UnknownRecord ?xt_UnknownRecord ?yh_UnknownRecord ?ys_UnknownRecord ?aC_NoOutcome ?xe_NoOutcome ?xt_NoOutcome ?yh_NoOutcome ?ys_NoOutcome ?aC_Impossible ?xe_Impossible ?xt_Impossible ?yh_Impossible ?ys_Impossible ?su_RepeatedRecord_WornError ?kv_RepeatedRecord ?su_RepeatedRecord_UnknownRecord ?su_RepeatedRecord_NoOutcome ?su_RepeatedRecord_InvalidSheaf ?su_RepeatedRecord_Impossible ?a0 ?l0 ?c0 ?k0 ?a1 ?l1 ?c1 ?k1 ?a2 ?l2 ?c2 ?k2 ?a3 ?l3 ?c3 ?k3 ?a4 ?l4 ?c4 ?k4 ?a5 ?l5 ?c5 ?k5 ?a6 ?l6 ?c6 ?k6 ?a7 ?l7 ?c7 ?k7 ?a8 ?l8 ?c8 ?k8 ?a9 ?l9 ?c9 ?k9 ?a10 ?l10 ?c10 ?k10 ?a11 ?l11 ?c11 ?k11 ?a12 ?i12 ?l12 ?c12 ?k12 ?a13 ?l13 ?c13 ?k13 ?a14 ?i14 ?l14 ?c14 ?k14 ?a15 ?i15 ?l15 ?c15 ?k15 ?a16 ?i16 ?l16 ?c16 ?k16 ?a17 ?l17 ?c17 ?k17 ?a18 ?i18 ?l18 ?c18 ?k18 ?a19 ?i19 ?l19 ?c19 ?k19 ?a20 ?l20 ?c20 ?k20 ?a21 ?l21 ?c21 ?k21 ?a22 ?l22 ?c22 ?k22 ?a23 ?l23 ?c23 ?k23 ?a24 ?l24 ?c24 ?k24 ?kd24 ?a25 ?l25 ?c25 ?k25 ?a26 ?l26 ?c26 ?k26 ?a27 ?l27 ?c27 ?k27 ?a28 ?l28 ?c28 ?k28 ?a29 ?l29 ?c29 ?k29 ?a30 ?l30 ?c30 ?k30 ?a31 ?l31 ?c31 ?k31 ?a32 ?l32 ?c32 ?k32 ?a33 ?l33 ?c33 ?k33 ?a34 ?l34 ?c34 ?k34 ?a35 ?l35 ?c35 ?k35 ?a36 ?l36 ?c36 ?k36 ?z_ValueError ?z_any ?z_bool ?z_enumerate ?z_int ?z_isinstance ?z_len ?z_list ?z_max ?z_min ?z_range ?z_sorted ?z_str ?z_sum ?z_tuple ?v_LONGEST ?v_SIGNS
    (case aC_Sheaf => k_is)
    (case pg_Sheaf => k_is)
    (case hd_Sheaf => k_is)
    (case po_Sheaf => k_is)
    (case sa_Sheaf => k_is)
    (case mk_Sheaf => k_is)
    (case kc_Sheaf => k_is)
    (case na_Sheaf__rows => k_is)
    (case aC_WornError => k_is)
    (case xr_WornError => k_is)
    (case xg_WornError => k_is)
    (case xv_WornError => k_is)
    (case xe_WornError => k_is)
    (case xt_WornError => k_is)
    (case yh_WornError => k_is)
    (case ys_WornError => k_is)
    (case aC_InvalidSheaf => k_is)
    (case xl_InvalidSheaf => k_is)
    (case xo_InvalidSheaf => rfl)
    (case xs_InvalidSheaf => k_is)
    (case xk_InvalidSheaf => k_is)
    (case xe_InvalidSheaf => k_is)
    (case xt_InvalidSheaf => k_is)
    (case nf_InvalidSheaf => k_is)
    (case yh_InvalidSheaf => k_is)
    (case ys_InvalidSheaf => k_is)
    (case aC_RepeatedRecord => k_is)
    (case xl_RepeatedRecord => k_is)
    (case xo_RepeatedRecord => rfl)
    (case xs_RepeatedRecord => k_is)
    (case xk_RepeatedRecord => k_is)
    (case xe_RepeatedRecord => k_is)
    (case xt_RepeatedRecord => k_is)
    (case nf_RepeatedRecord => k_is)
    (case ya_RepeatedRecord => k_is)
    (case yb_RepeatedRecord => k_is)
    (case yc_RepeatedRecord => k_is)
    (case yd_RepeatedRecord => k_is)
    (case ye_RepeatedRecord => k_is)
    (case yf_RepeatedRecord => k_is)
    (case yh_RepeatedRecord => k_is)
    (case ys_RepeatedRecord => k_is)
    (case aC_UnknownRecord => k_is)
    (case xe_UnknownRecord => k_is)
    (case xt_UnknownRecord => k_is)
    (case yh_UnknownRecord => k_is)
    (case ys_UnknownRecord => k_is)
    (case aC_NoOutcome => k_is)
    (case xe_NoOutcome => k_is)
    (case xt_NoOutcome => k_is)
    (case yh_NoOutcome => k_is)
    (case ys_NoOutcome => k_is)
    (case aC_Impossible => k_is)
    (case xe_Impossible => k_is)
    (case xt_Impossible => k_is)
    (case yh_Impossible => k_is)
    (case ys_Impossible => k_is)
    (case su_RepeatedRecord_WornError => k_is)
    (case kv_RepeatedRecord => k_is)
    (case su_RepeatedRecord_UnknownRecord => k_is)
    (case su_RepeatedRecord_NoOutcome => k_is)
    (case su_RepeatedRecord_InvalidSheaf => k_is)
    (case su_RepeatedRecord_Impossible => k_is)
    (case a0 => k_is)
    (case l0 => k_is)
    (case c0 => k_is)
    (case k0 => k_is)
    (case a1 => k_is)
    (case l1 => k_is)
    (case c1 => k_is)
    (case k1 => k_is)
    (case a2 => k_is)
    (case l2 => k_is)
    (case c2 => k_is)
    (case k2 => k_is)
    (case a3 => k_is)
    (case l3 => k_is)
    (case c3 => k_is)
    (case k3 => k_is)
    (case a4 => k_is)
    (case l4 => k_is)
    (case c4 => k_is)
    (case k4 => k_is)
    (case a5 => k_is)
    (case l5 => k_is)
    (case c5 => k_is)
    (case k5 => k_is)
    (case a6 => k_is)
    (case l6 => k_is)
    (case c6 => k_is)
    (case k6 => k_is)
    (case a7 => k_is)
    (case l7 => k_is)
    (case c7 => k_is)
    (case k7 => k_is)
    (case a8 => k_is)
    (case l8 => k_is)
    (case c8 => k_is)
    (case k8 => k_is)
    (case a9 => k_is)
    (case l9 => k_is)
    (case c9 => k_is)
    (case k9 => k_is)
    (case a10 => k_is)
    (case l10 => k_is)
    (case c10 => k_is)
    (case k10 => k_is)
    (case a11 => k_is)
    (case l11 => k_is)
    (case c11 => k_is)
    (case k11 => k_is)
    (case a12 => k_is)
    (case i12 => k_is)
    (case l12 => k_is)
    (case c12 => k_is)
    (case k12 => k_is)
    (case a13 => k_is)
    (case l13 => k_is)
    (case c13 => k_is)
    (case k13 => k_is)
    (case a14 => k_is)
    (case i14 => k_is)
    (case l14 => k_is)
    (case c14 => k_is)
    (case k14 => k_is)
    (case a15 => k_is)
    (case i15 => k_is)
    (case l15 => k_is)
    (case c15 => k_is)
    (case k15 => k_is)
    (case a16 => k_is)
    (case i16 => k_is)
    (case l16 => k_is)
    (case c16 => k_is)
    (case k16 => k_is)
    (case a17 => k_is)
    (case l17 => k_is)
    (case c17 => k_is)
    (case k17 => k_is)
    (case a18 => k_is)
    (case i18 => k_is)
    (case l18 => k_is)
    (case c18 => k_is)
    (case k18 => k_is)
    (case a19 => k_is)
    (case i19 => k_is)
    (case l19 => k_is)
    (case c19 => k_is)
    (case k19 => k_is)
    (case a20 => k_is)
    (case l20 => k_is)
    (case c20 => k_is)
    (case k20 => k_is)
    (case a21 => k_is)
    (case l21 => k_is)
    (case c21 => k_is)
    (case k21 => k_is)
    (case a22 => k_is)
    (case l22 => k_is)
    (case c22 => k_is)
    (case k22 => k_is)
    (case a23 => k_is)
    (case l23 => k_is)
    (case c23 => k_is)
    (case k23 => k_is)
    (case a24 => k_is)
    (case l24 => k_is)
    (case c24 => k_is)
    (case k24 => k_is)
    (case kd24 => k_is)
    (case a25 => k_is)
    (case l25 => k_is)
    (case c25 => k_is)
    (case k25 => k_is)
    (case a26 => k_is)
    (case l26 => k_is)
    (case c26 => k_is)
    (case k26 => k_is)
    (case a27 => k_is)
    (case l27 => k_is)
    (case c27 => k_is)
    (case k27 => k_is)
    (case a28 => k_is)
    (case l28 => k_is)
    (case c28 => k_is)
    (case k28 => k_is)
    (case a29 => k_is)
    (case l29 => k_is)
    (case c29 => k_is)
    (case k29 => k_is)
    (case a30 => k_is)
    (case l30 => k_is)
    (case c30 => k_is)
    (case k30 => k_is)
    (case a31 => k_is)
    (case l31 => k_is)
    (case c31 => k_is)
    (case k31 => k_is)
    (case a32 => k_is)
    (case l32 => k_is)
    (case c32 => k_is)
    (case k32 => k_is)
    (case a33 => k_is)
    (case l33 => k_is)
    (case c33 => k_is)
    (case k33 => k_is)
    (case a34 => k_is)
    (case l34 => k_is)
    (case c34 => k_is)
    (case k34 => k_is)
    (case a35 => k_is)
    (case l35 => k_is)
    (case c35 => k_is)
    (case k35 => k_is)
    (case a36 => k_is)
    (case l36 => k_is)
    (case c36 => k_is)
    (case k36 => k_is)
    (case z_ValueError => k_is)
    (case z_any => k_is)
    (case z_bool => k_is)
    (case z_enumerate => k_is)
    (case z_int => k_is)
    (case z_isinstance => k_is)
    (case z_len => k_is)
    (case z_list => k_is)
    (case z_max => k_is)
    (case z_min => k_is)
    (case z_range => k_is)
    (case z_sorted => k_is)
    (case z_str => k_is)
    (case z_sum => k_is)
    (case z_tuple => k_is)
    (case v_LONGEST => k_is)
    (case v_SIGNS => k_is)
