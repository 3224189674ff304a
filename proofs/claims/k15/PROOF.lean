import PyProof.Rows.All
import Wide.All
import OpenK.AllK
import Wide.FinOn
import HandS.ForMost
import HandS.ForExc
import HandS.Wide
import HandS.IsInst
import HandS.Zip
import HandS.Rev
import HandS.Conv
import PySem.Challenge.RW_wornsheaf_k15_drops_of_kinds
set_option Elab.async false
set_option linter.all false
set_option maxRecDepth 100000
set_option maxHeartbeats 4000000
namespace Wm
open PySem PySem.Spec PyProof.Rows L2

/-! ### results -/
inductive PD where
  | non | bl (b : Bool) | int (i : Int) | str (s : Str) | tup (xs : List PD)
structure Exc where
  cls : String
  fld : List (Str × PD)
inductive Rs (α : Type) where
  | no | ok (a : α) | ex (x : Exc)
namespace Rs
variable {α β γ ρ : Type}
def bind : Rs α → (α → Rs β) → Rs β
  | .no, _ => .no
  | .ok a, f => f a
  | .ex x, _ => .ex x
theorem bind_ok (a : α) (f : α → Rs β) : (Rs.ok a).bind f = f a := rfl
def nox : Rs α → Rs α
  | .ok a => .ok a
  | _ => .no
/-- a loop over a list -/
def fold (f : γ → α → Rs γ) : γ → List α → Rs γ
  | g, [] => .ok g
  | g, x :: xs => (f g x).bind fun g' => fold f g' xs
/-- .. that may be left by a return -/
def foldR (f : γ → α → Rs (γ ⊕ ρ)) : γ → List α → Rs (γ ⊕ ρ)
  | g, [] => .ok (.inl g)
  | g, x :: xs => (f g x).bind fun r => match r with
    | .inl g' => foldR f g' xs
    | .inr z => .ok (.inr z)
/-- a comprehension -/
def comp (t : α → Rs Bool) (f : α → Rs β) : List α → Rs (List β)
  | [] => .ok []
  | x :: xs => (t x).nox.bind fun b => if b = true then (f x).nox.bind fun y => (comp t f xs).bind fun ys => .ok (y :: ys) else comp t f xs
/-- a while, n turns at most -/
def iter (t : γ → Rs Bool) (b : γ → Rs γ) : Nat → γ → Rs γ
  | 0, _ => .no
  | n + 1, g => (t g).bind fun c => if c = true then (b g).bind (iter t b n) else .ok g
open Classical in
noncomputable def whl (t : γ → Rs Bool) (b : γ → Rs γ) (g : γ) : Rs γ :=
  if h : ∃ n, iter t b n g ≠ .no then iter t b (Classical.choose h) g else .no
theorem whl_is {t : γ → Rs Bool} {b : γ → Rs γ} {g : γ} : whl t b g = .no ∨ ∃ n, whl t b g = iter t b n g := by
  unfold whl
  split
  · exact .inr ⟨_, rfl⟩
  · exact .inl rfl
theorem iter_more {t : γ → Rs Bool} {b : γ → Rs γ} : ∀ (n : Nat) (g : γ), iter t b n g ≠ .no → iter t b (n + 1) g = iter t b n g
  | 0, g, h => absurd rfl h
  | n + 1, g, h => by
    show (t g).bind _ = (t g).bind _
    have h' : (t g).bind (fun c => if c = true then (b g).bind (iter t b n) else .ok g) ≠ .no := h
    cases e : t g with
    | no => rfl
    | ex x => rfl
    | ok c =>
      rw [e] at h'
      cases c with
      | false => rfl
      | true =>
        show (b g).bind (iter t b (n + 1)) = (b g).bind (iter t b n)
        have h2 : (b g).bind (iter t b n) ≠ .no := h'
        cases e2 : b g with
        | no => rfl
        | ex x => rfl
        | ok g' =>
          rw [e2] at h2
          exact iter_more n g' h2
theorem iter_plus {t : γ → Rs Bool} {b : γ → Rs γ} {n : Nat} {g : γ} (h : iter t b n g ≠ .no) : ∀ k, iter t b (n + k) g = iter t b n g
  | 0 => rfl
  | k + 1 => by
    have e := iter_plus h k
    exact (iter_more (n + k) g (by rw [e]; exact h)).trans e
theorem whl_of {t : γ → Rs Bool} {b : γ → Rs γ} {n : Nat} {g : γ} (h : iter t b n g ≠ .no) : whl t b g = iter t b n g := by
  have hx : ∃ n, iter t b n g ≠ .no := ⟨n, h⟩
  unfold whl
  rw [dif_pos hx]
  have h1 := iter_plus (Classical.choose_spec hx) n
  have h2 := iter_plus h (Classical.choose hx)
  rw [Nat.add_comm] at h2
  exact h1.symm.trans h2
theorem whl_eq (t : γ → Rs Bool) (b : γ → Rs γ) (g : γ) : whl t b g = (t g).bind fun c => if c = true then (b g).bind (whl t b) else .ok g := by
  by_cases hx : ∃ n, iter t b n g ≠ .no
  · obtain ⟨n, h⟩ := hx
    rw [whl_of h]
    cases n with
    | zero => exact absurd rfl h
    | succ n =>
      have h' : (t g).bind (fun c => if c = true then (b g).bind (iter t b n) else .ok g) ≠ .no := h
      show (t g).bind (fun c => if c = true then (b g).bind (iter t b n) else .ok g) = _
      cases e : t g with
      | no => rfl
      | ex x => rfl
      | ok c =>
        cases c with
        | false => rfl
        | true =>
          rw [e] at h'
          show (b g).bind (iter t b n) = (b g).bind (whl t b)
          have h2 : (b g).bind (iter t b n) ≠ .no := h'
          cases e2 : b g with
          | no => rfl
          | ex x => rfl
          | ok g' =>
            rw [e2] at h2
            exact (whl_of (n := n) h2).symm
  · have e0 : whl t b g = .no := by
      unfold whl
      rw [dif_neg hx]
    rw [e0]
    have no1 : iter t b 1 g = .no := Classical.byContradiction fun h => hx ⟨1, h⟩
    have noN : ∀ n, iter t b (n + 1) g = .no := fun n => Classical.byContradiction fun h => hx ⟨n + 1, h⟩
    cases e : t g with
    | no => rfl
    | ex x =>
      have h1 : (t g).bind (fun c => if c = true then (b g).bind (iter t b 0) else .ok g) = .no := no1
      rw [e] at h1
      cases h1
    | ok c =>
      cases c with
      | false =>
        have h1 : (t g).bind (fun c => if c = true then (b g).bind (iter t b 0) else .ok g) = .no := no1
        rw [e] at h1
        cases h1
      | true =>
        show Rs.no = (b g).bind (whl t b)
        cases e2 : b g with
        | no => rfl
        | ex x =>
          have h1 : (t g).bind (fun c => if c = true then (b g).bind (iter t b 0) else .ok g) = .no := no1
          rw [e] at h1
          have h2 : (b g).bind (iter t b 0) = .no := h1
          rw [e2] at h2
          cases h2
        | ok g' =>
          show Rs.no = whl t b g'
          have all : ∀ n, iter t b n g' = .no := fun n => by
            have h1 : (t g).bind (fun c => if c = true then (b g).bind (iter t b n) else .ok g) = .no := noN n
            rw [e] at h1
            have h2 : (b g).bind (iter t b n) = .no := h1
            rw [e2] at h2
            exact h2
          unfold whl
          rw [dif_neg fun ⟨n, h⟩ => h (all n)]
end Rs

/-! ### representation -/
structure Wd where
  K : PySem.W.Frag
  cm : String → Addr
class Own (β : Type) where
  own : Wd → Hp → HO → β → Prop
  mono : ∀ {wd G G' o b}, Same G G' → own wd G o b → own wd G' o b
class Rep (α : Type) where
  rep : Wd → Hp → V → α → Prop
  mono : ∀ {wd G G' v a}, Same G G' → rep wd G v a → rep wd G' v a
open Rep (rep)
open Own (own)
instance (priority := 100) repOwn {β : Type} [Own β] : Rep β where
  rep := fun wd G v b => ∃ p o, v = .ref p ∧ G p = some o ∧ own wd G o b
  mono := fun s ⟨p, o, e, g, w⟩ => ⟨p, o, e, s _ _ g, Own.mono s w⟩
instance : Rep Int := ⟨fun _ _ v a => v = .int a, fun _ h => h⟩
instance : Rep Bool := ⟨fun _ _ v a => v = .bl a, fun _ h => h⟩
/-- a text within the line, of signs below 1114112 -/
def SOk (a : Str) : Prop := a.cps.toList.length ≤ 16777216 ∧ ∀ c ∈ a.cps.toList, c < 1114112
instance (a : Str) : Decidable (SOk a) := inferInstanceAs (Decidable (_ ∧ _))
instance : Rep Str := ⟨fun _ _ v a => v = .str a ∧ SOk a, fun _ h => h⟩
instance : Rep Unit := ⟨fun _ _ v _ => v = .non, fun _ h => h⟩
instance {α : Type} [Rep α] : Rep (Option α) where
  rep := fun wd G v a => match a with
    | none => v = .non
    | some a => rep wd G v a
  mono := fun {wd G G' v a} s h => by
    cases a with
    | none => exact h
    | some a => exact Rep.mono (α := α) s h
def reps {α : Type} [Rep α] (wd : Wd) (G : Hp) : List V → List α → Prop
  | [], [] => True
  | v :: vs, a :: as => rep wd G v a ∧ reps wd G vs as
  | _, _ => False
section
variable {α : Type} [Rep α] {wd : Wd} {G G' : Hp}
theorem reps.mono (s : Same G G') : ∀ {vs : List V} {as : List α}, reps wd G vs as → reps wd G' vs as
  | [], [], _ => trivial
  | _ :: _, _ :: _, ⟨h, t⟩ => ⟨Rep.mono s h, reps.mono s t⟩
  | [], _ :: _, h => h.elim
  | _ :: _, [], h => h.elim
theorem reps.len : ∀ {vs : List V} {as : List α}, reps wd G vs as → vs.length = as.length
  | [], [], _ => rfl
  | _ :: _, _ :: _, ⟨_, t⟩ => congrArg (· + 1) (reps.len t)
  | [], _ :: _, h => h.elim
  | _ :: _, [], h => h.elim
theorem reps.get : ∀ {vs : List V} {as : List α} {i : Nat} {a : α}, reps wd G vs as → as[i]? = some a → ∃ v, vs[i]? = some v ∧ rep wd G v a
  | [], [], i, a, _, h => by simp at h
  | v :: vs, b :: as, 0, a, ⟨h, t⟩, e => ⟨v, rfl, by
      have : b = a := Option.some.inj e
      exact this ▸ h⟩
  | v :: vs, b :: as, i + 1, a, ⟨h, t⟩, e => reps.get (i := i) t e
  | [], _ :: _, _, _, h, _ => h.elim
  | _ :: _, [], _, _, h, _ => h.elim
theorem reps.get' : ∀ {vs : List V} {as : List α} {i : Nat} {v : V}, reps wd G vs as → vs[i]? = some v → ∃ a, as[i]? = some a ∧ rep wd G v a
  | [], [], i, a, _, h => by simp at h
  | w :: vs, b :: as, 0, v, ⟨h, t⟩, e => ⟨b, rfl, by
      have : w = v := Option.some.inj e
      exact this ▸ h⟩
  | w :: vs, b :: as, i + 1, v, ⟨h, t⟩, e => reps.get' (i := i) t e
  | [], _ :: _, _, _, h, _ => h.elim
  | _ :: _, [], _, _, h, _ => h.elim
theorem reps.snoc : ∀ {vs : List V} {as : List α} {v : V} {a : α}, reps wd G vs as → rep wd G v a → reps wd G (vs ++ [v]) (as ++ [a])
  | [], [], _, _, _, h => ⟨h, trivial⟩
  | _ :: _, _ :: _, _, _, ⟨h, t⟩, q => ⟨h, reps.snoc t q⟩
  | [], _ :: _, _, _, h, _ => h.elim
  | _ :: _, [], _, _, h, _ => h.elim
theorem reps.app : ∀ {vs ws : List V} {as bs : List α}, reps wd G vs as → reps wd G ws bs → reps wd G (vs ++ ws) (as ++ bs)
  | [], _, [], _, _, h => h
  | _ :: _, _, _ :: _, _, ⟨h, t⟩, q => ⟨h, reps.app t q⟩
  | [], _, _ :: _, _, h, _ => h.elim
  | _ :: _, _, [], _, h, _ => h.elim
theorem reps.set : ∀ {vs : List V} {as : List α} {v : V} {a : α} (i : Nat), reps wd G vs as → rep wd G v a → reps wd G (vs.set i v) (as.set i a)
  | [], [], _, _, _, _, _ => trivial
  | _ :: _, _ :: _, _, _, 0, ⟨h, t⟩, q => ⟨q, t⟩
  | _ :: _, _ :: _, _, _, i + 1, ⟨h, t⟩, q => ⟨h, reps.set i t q⟩
  | [], _ :: _, _, _, _, h, _ => h.elim
  | _ :: _, [], _, _, _, h, _ => h.elim
theorem reps.take : ∀ {vs : List V} {as : List α} (n : Nat), reps wd G vs as → reps wd G (vs.take n) (as.take n)
  | _, _, 0, _ => trivial
  | [], [], _ + 1, _ => trivial
  | _ :: _, _ :: _, n + 1, ⟨h, t⟩ => ⟨h, reps.take n t⟩
  | [], _ :: _, _ + 1, h => h.elim
  | _ :: _, [], _ + 1, h => h.elim
theorem reps.drop : ∀ {vs : List V} {as : List α} (n : Nat), reps wd G vs as → reps wd G (vs.drop n) (as.drop n)
  | _, _, 0, h => h
  | [], [], _ + 1, _ => trivial
  | _ :: _, _ :: _, n + 1, ⟨h, t⟩ => reps.drop n t
  | [], _ :: _, _ + 1, h => h.elim
  | _ :: _, [], _ + 1, h => h.elim
theorem reps.ints : ∀ {vs : List V} {as : List Int}, reps wd G vs as → vs = as.map V.int
  | [], [], _ => rfl
  | _ :: _, _ :: _, ⟨h, t⟩ => by rw [show _ = V.int _ from h, reps.ints t]; rfl
  | [], _ :: _, h => h.elim
  | _ :: _, [], h => h.elim
theorem reps.bls : ∀ {vs : List V} {as : List Bool}, reps wd G vs as → vs = as.map V.bl
  | [], [], _ => rfl
  | _ :: _, _ :: _, ⟨h, t⟩ => by rw [show _ = V.bl _ from h, reps.bls t]; rfl
  | [], _ :: _, h => h.elim
  | _ :: _, [], h => h.elim
theorem reps.strs : ∀ {vs : List V} {as : List Str}, reps wd G vs as → vs = as.map V.str
  | [], [], _ => rfl
  | _ :: _, _ :: _, ⟨h, t⟩ => by rw [show _ = V.str _ from h.1, reps.strs t]; rfl
  | [], _ :: _, h => h.elim
  | _ :: _, [], h => h.elim
theorem reps.of_ints : ∀ {as : List Int}, reps wd G (as.map V.int) as
  | [] => trivial
  | _ :: _ => ⟨rfl, reps.of_ints⟩
end
instance {α : Type} [Rep α] : Own (List α) where
  own := fun wd G o xs => ∃ vs, o = .lst vs ∧ vs.length ≤ sizeLine ∧ reps wd G vs xs
  mono := fun s ⟨vs, e, l, h⟩ => ⟨vs, e, l, h.mono s⟩
/-- a tuple of any length, of one kind -/
structure Tup (α : Type) where
  items : List α
instance {α : Type} [Rep α] : Own (Tup α) where
  own := fun wd G o xs => ∃ vs, o = .tup vs ∧ vs.length ≤ sizeLine ∧ reps wd G vs xs.items
  mono := fun s ⟨vs, e, l, h⟩ => ⟨vs, e, l, h.mono s⟩
instance {α β : Type} [Rep α] [Rep β] : Own (α × β) where
  own := fun wd G o x => ∃ v w, o = .tup [v, w] ∧ rep wd G v x.1 ∧ rep wd G w x.2
  mono := fun s ⟨v, w, e, h, h2⟩ => ⟨v, w, e, Rep.mono s h, Rep.mono s h2⟩
structure T3 (α β γ : Type) where
  a : α
  b : β
  c : γ
instance {α β γ : Type} [Rep α] [Rep β] [Rep γ] : Own (T3 α β γ) where
  own := fun wd G o x => ∃ v w u, o = .tup [v, w, u] ∧ rep wd G v x.a ∧ rep wd G w x.b ∧ rep wd G u x.c
  mono := fun s ⟨v, w, u, e, h, h2, h3⟩ => ⟨v, w, u, e, Rep.mono s h, Rep.mono s h2, Rep.mono s h3⟩
structure Sheaf where
  rows : Tup (Int × Str)
instance : Own Sheaf where
  own := fun wd G o x => ∃ dx v, o = .ins (wd.cm "Sheaf") dx [(("_rows" : Str), v)] ∧ rep wd G v x.rows
  mono := fun s ⟨dx, v, e, h⟩ => ⟨dx, v, e, Rep.mono s h⟩
/-- the law's script -/
structure Script where
  ns : List Int
instance : Rep Script where
  rep := fun wd G v x => ∃ p, v = .ref p ∧ SqL wd.K G p (x.ns.map V.int)
  mono := fun s ⟨p, e, h⟩ => ⟨p, e, s.seq h⟩

/-- an exception's fields -/
def RepPD (H : Hp) : V → PD → Prop
  | v, .non => v = .non
  | v, .bl b => v = .bl b
  | v, .int i => v = .int i
  | v, .str s => v = .str s
  | v, .tup xs => ∃ p vs, v = .ref p ∧ H p = some (.tup vs) ∧ go H vs xs
where go (H : Hp) : List V → List PD → Prop
  | [], [] => True
  | v :: vs, x :: xs => RepPD H v x ∧ go H vs xs
  | _, _ => False
def RepX (H : Hp) (d : Option Addr) (x : Exc) : Prop :=
  if x.fld = [] then True else ∃ a fs, d = some a ∧ H a = some (.xd fs) ∧ fs.length = x.fld.length ∧ ∀ f v, x.fld.lookup f = some v → ∃ u, fs.lookup f = some u ∧ RepPD H u v

/-! ### contexts -/
inductive Ent : Type 1 where
  | fz (i : Nat) (α : Type) [r : Rep α]
  | ow (i : Nat) (β : Type) [r : Own β]
  | bo (i : Nat) (β : Type) [r : Own β]
  | oo (i : Nat) (β : Type) [r : Own β]
@[reducible] def Ent.T : Ent → Type
  | @Ent.fz _ α _ => α
  | @Ent.ow _ β _ => β
  | @Ent.bo _ β _ => β
  | @Ent.oo _ β _ => Option β
@[reducible] def Ent.slot : Ent → Nat
  | @Ent.fz i _ _ => i
  | @Ent.ow i _ _ => i
  | @Ent.bo i _ _ => i
  | @Ent.oo i _ _ => i
abbrev Ctx := List Ent
@[reducible] def Ctx.T : Ctx → Type
  | [] => Unit
  | e :: c => e.T × Ctx.T c
def Ctx.not (j : Nat) : Ctx → Bool
  | [] => true
  | e :: c => (e.slot != j) && Ctx.not j c
/-- the names and what they hold; os: the owned objects, from the left -/
def R (wd : Wd) (H0 : Hp) (σ : L2.St) (H G : Hp) : (c : Ctx) → Ctx.T c → List Addr → Prop
  | [], _, os => os = []
  | @Ent.fz i α r :: c, γ, os => (∃ v, σ[i]? = some (some v) ∧ r.rep wd G v γ.1) ∧ R wd H0 σ H G c γ.2 os
  | @Ent.ow i β r :: c, γ, os => ∃ p o os', os = p :: os' ∧ σ[i]? = some (some (.ref p)) ∧ H p = some o ∧ r.own wd G o γ.1 ∧ R wd H0 σ H G c γ.2 os'
  | @Ent.bo i β r :: c, γ, os => (∃ p o, σ[i]? = some (some (.ref p)) ∧ H0 p = some o ∧ r.own wd G o γ.1) ∧ R wd H0 σ H G c γ.2 os
  | @Ent.oo i β r :: c, γ, os => (γ.1 = none ∧ σ[i]? = some (some .non) ∧ R wd H0 σ H G c γ.2 os) ∨ ∃ b p o os', γ.1 = some b ∧ os = p :: os' ∧ σ[i]? = some (some (.ref p)) ∧ H p = some o ∧ r.own wd G o b ∧ R wd H0 σ H G c γ.2 os'
structure Fr (H G H' G' : Hp) : Prop where
  h : Same H H'
  g : Same G G'
  gh : Same G' H'
  new : ∀ a o, G' a = some o → G a = some o ∨ H a = none
theorem Fr.refl {H G : Hp} (h : Same G H) : Fr H G H G := ⟨Same.refl H, Same.refl G, h, fun _ _ e => .inl e⟩
theorem Fr.trans {H G H1 G1 H2 G2 : Hp} (a : Fr H G H1 G1) (b : Fr H1 G1 H2 G2) : Fr H G H2 G2 :=
  ⟨a.h.trans b.h, a.g.trans b.g, b.gh, fun x o e => by
    rcases b.new x o e with q | q
    · exact a.new x o q
    · exact .inr (a.h.free q)⟩
theorem Fr.out {H G H' G' : Hp} (f : Fr H G H' G') {p : Addr} {o : HO} (h : H p = some o) (g : G p = none) : G' p = none := by
  cases e : G' p with
  | none => rfl
  | some u =>
    rcases f.new p u e with q | q
    · rw [g] at q; cases q
    · rw [h] at q; cases q
/-- a new object on the heap, not frozen -/
theorem Fr.alloc {H G : Hp} {p : Addr} {o : HO} (gh : Same G H) (n : H p = none) : Fr H G (upd H p o) G :=
  ⟨fun a u e => by rw [upd_ne (ne_of_none e n)]; exact e, Same.refl G, fun a u e => by rw [upd_ne (ne_of_none (gh a u e) n)]; exact gh a u e, fun _ _ e => .inl e⟩
theorem Same.upd' {H H' : Hp} {p : Addr} {o : HO} (e : Same H H') (h : H p = none) : Same H (upd H' p o) := fun a u ha => by
  rw [upd_ne (ne_of_none ha h)]
  exact e a u ha
/-- a fresh object is frozen -/
theorem Fr.freeze {H G H' G' : Hp} {p : Addr} {o : HO} (f : Fr H G H' G') (n : H p = none) (g : G' p = none) (e : H' p = some o) : Fr H G H' (upd G' p o) :=
  ⟨f.h, Same.upd' f.g (f.g.free g), fun a u q => by
    by_cases ha : a = p
    · subst ha
      rw [upd_same] at q
      cases q
      exact e
    · rw [upd_ne ha] at q
      exact f.gh a u q, fun a u q => by
    by_cases ha : a = p
    · subst ha
      exact .inr n
    · rw [upd_ne ha] at q
      exact f.new a u q⟩
structure Stt (wd : Wd) (n : Nat) (H0 G0 : Hp) (σ : L2.St) (H G : Hp) (os : List Addr) (c : Ctx) (γ : Ctx.T c) : Prop where
  len : σ.length = n
  f : Fr H0 G0 H G
  nd : os.Nodup
  fr : ∀ p ∈ os, G p = none ∧ H0 p = none
  r : R wd H0 σ H G c γ os
section
variable {wd : Wd} {H0 G0 : Hp} {σ : L2.St} {H G H' G' : Hp}
theorem R.there : ∀ {c : Ctx} {γ : Ctx.T c} {os : List Addr}, R wd H0 σ H G c γ os → ∀ p ∈ os, ∃ o, H p = some o
  | [], _, os, h, p, hp => by
    have e : os = [] := h
    rw [e] at hp
    cases hp
  | @Ent.fz i α _ :: c, γ, os, h, p, hp => R.there h.2 p hp
  | @Ent.bo i α _ :: c, γ, os, h, p, hp => R.there h.2 p hp
  | @Ent.ow i α _ :: c, γ, os, h, p, hp => by
    obtain ⟨q, o, os', rfl, h1, h2, h3, h4⟩ := h
    rcases List.mem_cons.mp hp with e | e
    · exact ⟨o, by rw [e]; exact h2⟩
    · exact R.there h4 p e
  | @Ent.oo i α _ :: c, γ, os, h, p, hp => by
    rcases h with ⟨_, _, h⟩ | ⟨b, q, o, os', _, rfl, h1, h2, h3, h4⟩
    · exact R.there h p hp
    · rcases List.mem_cons.mp hp with e | e
      · exact ⟨o, by rw [e]; exact h2⟩
      · exact R.there h4 p e
theorem R.mono (g : Same G G') : ∀ {c : Ctx} {γ : Ctx.T c} {os : List Addr}, (∀ p ∈ os, H' p = H p) → R wd H0 σ H G c γ os → R wd H0 σ H' G' c γ os
  | [], _, os, _, h => h
  | @Ent.fz i α _ :: c, γ, os, k, ⟨⟨v, h1, h2⟩, h⟩ => ⟨⟨v, h1, Rep.mono g h2⟩, R.mono g k h⟩
  | @Ent.bo i α _ :: c, γ, os, k, ⟨⟨p, o, h1, h2, h3⟩, h⟩ => ⟨⟨p, o, h1, h2, Own.mono g h3⟩, R.mono g k h⟩
  | @Ent.ow i α _ :: c, γ, os, k, h => by
    obtain ⟨q, o, os', rfl, h1, h2, h3, h4⟩ := h
    exact ⟨q, o, os', rfl, h1, (k q List.mem_cons_self).trans h2, Own.mono g h3, R.mono g (fun p hp => k p (List.mem_cons_of_mem _ hp)) h4⟩
  | @Ent.oo i α _ :: c, γ, os, k, h => by
    rcases h with ⟨e, h1, h⟩ | ⟨b, q, o, os', e, rfl, h1, h2, h3, h4⟩
    · exact .inl ⟨e, h1, R.mono g k h⟩
    · exact .inr ⟨b, q, o, os', e, rfl, h1, (k q List.mem_cons_self).trans h2, Own.mono g h3, R.mono g (fun p hp => k p (List.mem_cons_of_mem _ hp)) h4⟩
theorem Stt.ext {n : Nat} {os : List Addr} {c : Ctx} {γ : Ctx.T c} (s : Stt wd n H0 G0 σ H G os c γ) (f : Fr H G H' G') : Stt wd n H0 G0 σ H' G' os c γ :=
  ⟨s.len, s.f.trans f, s.nd, fun p hp => by
    obtain ⟨o, ho⟩ := s.r.there p hp
    exact ⟨f.out ho (s.fr p hp).1, (s.fr p hp).2⟩, s.r.mono f.g fun p hp => by
    obtain ⟨o, ho⟩ := s.r.there p hp
    rw [ho]
    exact f.h p o ho⟩
/-- slots -/
theorem R.slots : ∀ {c : Ctx} {γ : Ctx.T c} {os : List Addr} {σ' : L2.St}, (∀ e ∈ c, σ'[e.slot]? = σ[e.slot]?) → R wd H0 σ H G c γ os → R wd H0 σ' H G c γ os
  | [], _, os, _, _, h => h
  | @Ent.fz i α _ :: c, γ, os, σ', k, ⟨⟨v, h1, h2⟩, h⟩ => ⟨⟨v, (k _ List.mem_cons_self).trans h1, h2⟩, R.slots (fun e he => k e (List.mem_cons_of_mem _ he)) h⟩
  | @Ent.bo i α _ :: c, γ, os, σ', k, ⟨⟨p, o, h1, h2⟩, h⟩ => ⟨⟨p, o, (k _ List.mem_cons_self).trans h1, h2⟩, R.slots (fun e he => k e (List.mem_cons_of_mem _ he)) h⟩
  | @Ent.ow i α _ :: c, γ, os, σ', k, h => by
    obtain ⟨q, o, os', rfl, h1, h2, h3, h4⟩ := h
    exact ⟨q, o, os', rfl, (k _ List.mem_cons_self).trans h1, h2, h3, R.slots (fun e he => k e (List.mem_cons_of_mem _ he)) h4⟩
  | @Ent.oo i α _ :: c, γ, os, σ', k, h => by
    rcases h with ⟨e, h1, h⟩ | ⟨b, q, o, os', e, rfl, h1, h2, h3, h4⟩
    · exact .inl ⟨e, (k _ List.mem_cons_self).trans h1, R.slots (fun e he => k e (List.mem_cons_of_mem _ he)) h⟩
    · exact .inr ⟨b, q, o, os', e, rfl, (k _ List.mem_cons_self).trans h1, h2, h3, R.slots (fun e he => k e (List.mem_cons_of_mem _ he)) h4⟩
theorem Ctx.not_mem {j : Nat} : ∀ {c : Ctx}, Ctx.not j c = true → ∀ e ∈ c, e.slot ≠ j
  | [], _, e, he => by cases he
  | a :: c, h, e, he => by
    have h' : ((a.slot != j) && Ctx.not j c) = true := h
    rw [Bool.and_eq_true] at h'
    rcases List.mem_cons.mp he with q | q
    · rw [q]
      simpa using h'.1
    · exact Ctx.not_mem h'.2 e q
theorem R.set {c : Ctx} {γ : Ctx.T c} {os : List Addr} {j : Nat} {x : Option V} (n : Ctx.not j c = true) (h : R wd H0 σ H G c γ os) : R wd H0 (σ.set j x) H G c γ os :=
  h.slots fun e he => List.getElem?_set_ne (Ne.symm (Ctx.not_mem n e he))
end

/-! ### names -/
inductive Var : Ctx → Ent → Type 1 where
  | z {e : Ent} {c : Ctx} : Var (e :: c) e
  | s {e e' : Ent} {c : Ctx} (v : Var c e) : Var (e' :: c) e
@[reducible] def Var.get : {c : Ctx} → {e : Ent} → Var c e → Ctx.T c → e.T
  | _, _, .z, γ => γ.1
  | _, _, .s v, γ => v.get γ.2
@[reducible] def Var.put : {c : Ctx} → {e : Ent} → Var c e → Ctx.T c → e.T → Ctx.T c
  | _, _, .z, γ, a => (a, γ.2)
  | _, _, .s v, γ, a => (γ.1, v.put γ.2 a)
/-- a part of the context -/
inductive Sub : Ctx → Ctx → Type 1 where
  | nil : Sub [] []
  | keep {e : Ent} {c c' : Ctx} (s : Sub c c') : Sub (e :: c) (e :: c')
  | skip {e : Ent} {c c' : Ctx} (s : Sub c c') : Sub (e :: c) c'
@[reducible] def Sub.proj : {c c' : Ctx} → Sub c c' → Ctx.T c → Ctx.T c'
  | _, _, .nil, _ => ()
  | _, _, .keep s, γ => (γ.1, s.proj γ.2)
  | _, _, .skip s, γ => s.proj γ.2
/-- owned objects are frozen -/
inductive Frz : Ctx → Ctx → Type 1 where
  | nil : Frz [] []
  | keep {e : Ent} {c c' : Ctx} (s : Frz c c') : Frz (e :: c) (e :: c')
  | frz {i : Nat} {β : Type} {r : Own β} {c c' : Ctx} (s : Frz c c') : Frz (@Ent.ow i β r :: c) (@Ent.fz i β (@repOwn β r) :: c')
@[reducible] def Frz.proj : {c c' : Ctx} → Frz c c' → Ctx.T c → Ctx.T c'
  | _, _, .nil, _ => ()
  | _, _, .keep s, γ => (γ.1, s.proj γ.2)
  | _, _, .frz s, γ => (γ.1, s.proj γ.2)
section
variable {wd : Wd} {H0 G0 : Hp} {σ : L2.St} {H G H' G' : Hp}
theorem Var.fz {i : Nat} {α : Type} [Rep α] : ∀ {c : Ctx} (v : Var c (.fz i α)) {γ : Ctx.T c} {os : List Addr}, R wd H0 σ H G c γ os → ∃ x, σ[i]? = some (some x) ∧ rep wd G x (v.get γ)
  | _, .z, γ, os, h => h.1
  | _, .s (e' := @Ent.fz j δ _) v, γ, os, h => Var.fz v h.2
  | _, .s (e' := @Ent.bo j δ _) v, γ, os, h => Var.fz v h.2
  | _, .s (e' := @Ent.ow j δ _) v, γ, os, h => by
    obtain ⟨q, o, os', rfl, h1, h2, h3, h4⟩ := h
    exact Var.fz v h4
  | _, .s (e' := @Ent.oo j δ _) v, γ, os, h => by
    rcases h with ⟨e, h1, h⟩ | ⟨b, q, o, os', e, rfl, h1, h2, h3, h4⟩
    · exact Var.fz v h
    · exact Var.fz v h4
theorem Var.bo {i : Nat} {α : Type} [Own α] : ∀ {c : Ctx} (v : Var c (.bo i α)) {γ : Ctx.T c} {os : List Addr}, R wd H0 σ H G c γ os → ∃ p o, σ[i]? = some (some (.ref p)) ∧ H0 p = some o ∧ own wd G o (v.get γ)
  | _, .z, γ, os, h => h.1
  | _, .s (e' := @Ent.fz j δ _) v, γ, os, h => Var.bo v h.2
  | _, .s (e' := @Ent.bo j δ _) v, γ, os, h => Var.bo v h.2
  | _, .s (e' := @Ent.ow j δ _) v, γ, os, h => by
    obtain ⟨q, o, os', rfl, h1, h2, h3, h4⟩ := h
    exact Var.bo v h4
  | _, .s (e' := @Ent.oo j δ _) v, γ, os, h => by
    rcases h with ⟨e, h1, h⟩ | ⟨b, q, o, os', e, rfl, h1, h2, h3, h4⟩
    · exact Var.bo v h
    · exact Var.bo v h4
theorem Var.ow {i : Nat} {α : Type} [Own α] : ∀ {c : Ctx} (v : Var c (.ow i α)) {γ : Ctx.T c} {os : List Addr}, R wd H0 σ H G c γ os → ∃ p o, p ∈ os ∧ σ[i]? = some (some (.ref p)) ∧ H p = some o ∧ own wd G o (v.get γ)
  | _, .z, γ, os, h => by
    obtain ⟨q, o, os', rfl, h1, h2, h3, h4⟩ := h
    exact ⟨q, o, List.mem_cons_self, h1, h2, h3⟩
  | _, .s (e' := @Ent.fz j δ _) v, γ, os, h => Var.ow v h.2
  | _, .s (e' := @Ent.bo j δ _) v, γ, os, h => Var.ow v h.2
  | _, .s (e' := @Ent.ow j δ _) v, γ, os, h => by
    obtain ⟨q, o, os', rfl, h1, h2, h3, h4⟩ := h
    obtain ⟨p, o2, k1, k2⟩ := Var.ow v h4
    exact ⟨p, o2, List.mem_cons_of_mem _ k1, k2⟩
  | _, .s (e' := @Ent.oo j δ _) v, γ, os, h => by
    rcases h with ⟨e, h1, h⟩ | ⟨b, q, o, os', e, rfl, h1, h2, h3, h4⟩
    · exact Var.ow v h
    · obtain ⟨p, o2, k1, k2⟩ := Var.ow v h4
      exact ⟨p, o2, List.mem_cons_of_mem _ k1, k2⟩
/-- a name that holds none or an owned object -/
theorem Var.oo {i : Nat} {α : Type} [Own α] : ∀ {c : Ctx} (v : Var c (.oo i α)) {γ : Ctx.T c} {os : List Addr}, R wd H0 σ H G c γ os → (v.get γ = none ∧ σ[i]? = some (some .non)) ∨ ∃ b p o, v.get γ = some b ∧ p ∈ os ∧ σ[i]? = some (some (.ref p)) ∧ H p = some o ∧ own wd G o b
  | _, .z, γ, os, h => by
    rcases h with ⟨e, h1, h⟩ | ⟨b, q, o, os', e, rfl, h1, h2, h3, h4⟩
    · exact .inl ⟨e, h1⟩
    · exact .inr ⟨b, q, o, e, List.mem_cons_self, h1, h2, h3⟩
  | _, .s (e' := @Ent.fz j δ _) v, γ, os, h => Var.oo v h.2
  | _, .s (e' := @Ent.bo j δ _) v, γ, os, h => Var.oo v h.2
  | _, .s (e' := @Ent.ow j δ _) v, γ, os, h => by
    obtain ⟨q, o, os', rfl, h1, h2, h3, h4⟩ := h
    rcases Var.oo v h4 with k | ⟨b, p, o2, k0, k1, k2⟩
    · exact .inl k
    · exact .inr ⟨b, p, o2, k0, List.mem_cons_of_mem _ k1, k2⟩
  | _, .s (e' := @Ent.oo j δ _) v, γ, os, h => by
    rcases h with ⟨e, h1, h⟩ | ⟨b, q, o, os', e, rfl, h1, h2, h3, h4⟩
    · exact Var.oo v h
    · rcases Var.oo v h4 with k | ⟨b, p, o2, k0, k1, k2⟩
      · exact .inl k
      · exact .inr ⟨b, p, o2, k0, List.mem_cons_of_mem _ k1, k2⟩
/-- the object of an owned name is changed -/
theorem Var.write {i : Nat} {α : Type} [Own α] : ∀ {c : Ctx} (v : Var c (.ow i α)) {γ : Ctx.T c} {os : List Addr}, os.Nodup → R wd H0 σ H G c γ os → ∃ p o, p ∈ os ∧ σ[i]? = some (some (.ref p)) ∧ H p = some o ∧ own wd G o (v.get γ) ∧
    ∀ o' b, own wd G o' b → R wd H0 σ (upd H p o') G c (v.put γ b) os
  | _, .z, γ, os, nd, h => by
    obtain ⟨q, o, os', rfl, h1, h2, h3, h4⟩ := h
    refine ⟨q, o, List.mem_cons_self, h1, h2, h3, fun o' b w => ⟨q, o', os', rfl, h1, upd_same, w, h4.mono (Same.refl G) fun p hp => ?_⟩⟩
    exact upd_ne fun e => (List.nodup_cons.mp nd).1 (e ▸ hp)
  | _, .s (e' := @Ent.fz j δ _) v, γ, os, nd, h => by
    obtain ⟨p, o, k1, k2, k3, k4, k5⟩ := Var.write v nd h.2
    exact ⟨p, o, k1, k2, k3, k4, fun o' b w => ⟨h.1, k5 o' b w⟩⟩
  | _, .s (e' := @Ent.bo j δ _) v, γ, os, nd, h => by
    obtain ⟨p, o, k1, k2, k3, k4, k5⟩ := Var.write v nd h.2
    exact ⟨p, o, k1, k2, k3, k4, fun o' b w => ⟨h.1, k5 o' b w⟩⟩
  | _, .s (e' := @Ent.ow j δ _) v, γ, os, nd, h => by
    obtain ⟨q, o, os', rfl, h1, h2, h3, h4⟩ := h
    obtain ⟨p, o2, k1, k2, k3, k4, k5⟩ := Var.write v (List.nodup_cons.mp nd).2 h4
    refine ⟨p, o2, List.mem_cons_of_mem _ k1, k2, k3, k4, fun o' b w => ⟨q, o, os', rfl, h1, ?_, h3, k5 o' b w⟩⟩
    rw [upd_ne fun e => (List.nodup_cons.mp nd).1 (by rw [e]; exact k1)]
    exact h2
  | _, .s (e' := @Ent.oo j δ _) v, γ, os, nd, h => by
    rcases h with ⟨e, h1, h⟩ | ⟨b, q, o, os', e, rfl, h1, h2, h3, h4⟩
    · obtain ⟨p, o2, k1, k2, k3, k4, k5⟩ := Var.write v nd h
      exact ⟨p, o2, k1, k2, k3, k4, fun o' b' w => .inl ⟨e, h1, k5 o' b' w⟩⟩
    · obtain ⟨p, o2, k1, k2, k3, k4, k5⟩ := Var.write v (List.nodup_cons.mp nd).2 h4
      refine ⟨p, o2, List.mem_cons_of_mem _ k1, k2, k3, k4, fun o' b' w => .inr ⟨b, q, o, os', e, rfl, h1, ?_, h3, k5 o' b' w⟩⟩
      rw [upd_ne fun e => (List.nodup_cons.mp nd).1 (by rw [e]; exact k1)]
      exact h2
theorem Var.inSlots : ∀ {c : Ctx} {e : Ent} (v : Var c e), e.slot ∈ c.map Ent.slot
  | _, _, .z => List.mem_cons_self
  | _, _, .s v => List.mem_cons_of_mem _ (Var.inSlots v)
/-- a name is stored anew -/
theorem Var.restore {i : Nat} {α : Type} [Rep α] {x : V} {a : α} : ∀ {c : Ctx} (v : Var c (Ent.fz i α)) {γ : Ctx.T c} {os : List Addr}, (c.map Ent.slot).Nodup → rep wd G x a → i < σ.length → R wd H0 σ H G c γ os → R wd H0 (σ.set i (some x)) H G c (v.put γ a) os
  | @Ent.fz _ _ _ :: c, .z, γ, os, nd, w, l, h => ⟨⟨x, by rw [List.getElem?_set_self l], w⟩, h.2.slots fun e he => List.getElem?_set_ne fun q => (List.nodup_cons.mp nd).1 (by rw [show Ent.slot _ = i from rfl, q]; exact List.mem_map_of_mem he)⟩
  | @Ent.fz j δ _ :: c, .s v, γ, os, nd, w, l, h => by
    refine ⟨?_, Var.restore v (List.nodup_cons.mp nd).2 w l h.2⟩
    obtain ⟨y, e1, e2⟩ := h.1
    refine ⟨y, ?_, e2⟩
    rw [List.getElem?_set_ne fun q => ?_]
    · exact e1
    · exact (List.nodup_cons.mp nd).1 (q ▸ v.inSlots)
  | @Ent.bo j δ _ :: c, .s v, γ, os, nd, w, l, h => by
    refine ⟨?_, Var.restore v (List.nodup_cons.mp nd).2 w l h.2⟩
    obtain ⟨p, o, e1, e2⟩ := h.1
    refine ⟨p, o, ?_, e2⟩
    rw [List.getElem?_set_ne fun q => ?_]
    · exact e1
    · exact (List.nodup_cons.mp nd).1 (q ▸ v.inSlots)
  | @Ent.ow j δ _ :: c, .s v, γ, os, nd, w, l, h => by
    obtain ⟨q, o, os', rfl, h1, h2, h3, h4⟩ := h
    refine ⟨q, o, os', rfl, ?_, h2, h3, Var.restore v (List.nodup_cons.mp nd).2 w l h4⟩
    rw [List.getElem?_set_ne fun q => ?_]
    · exact h1
    · exact (List.nodup_cons.mp nd).1 (q ▸ v.inSlots)
  | @Ent.oo j δ _ :: c, .s v, γ, os, nd, w, l, h => by
    have ne : i ≠ j := fun q => (List.nodup_cons.mp nd).1 (by show j ∈ c.map Ent.slot; rw [← q]; exact v.inSlots)
    rcases h with ⟨e, h1, h⟩ | ⟨b, q, o, os', e, rfl, h1, h2, h3, h4⟩
    · exact .inl ⟨e, by rw [List.getElem?_set_ne ne]; exact h1, Var.restore v (List.nodup_cons.mp nd).2 w l h⟩
    · exact .inr ⟨b, q, o, os', e, rfl, by rw [List.getElem?_set_ne ne]; exact h1, h2, h3, Var.restore v (List.nodup_cons.mp nd).2 w l h4⟩
theorem Sub.r : ∀ {c c' : Ctx} (s : Sub c c') {γ : Ctx.T c} {os : List Addr}, R wd H0 σ H G c γ os → ∃ os', R wd H0 σ H G c' (s.proj γ) os' ∧ os'.Sublist os
  | _, _, .nil, γ, os, h => ⟨[], rfl, List.nil_sublist _⟩
  | _, _, .keep (e := @Ent.fz i α _) s, γ, os, h => by
    obtain ⟨os', h1, h2⟩ := s.r h.2
    exact ⟨os', ⟨h.1, h1⟩, h2⟩
  | _, _, .keep (e := @Ent.bo i α _) s, γ, os, h => by
    obtain ⟨os', h1, h2⟩ := s.r h.2
    exact ⟨os', ⟨h.1, h1⟩, h2⟩
  | _, _, .keep (e := @Ent.ow i α _) s, γ, os, h => by
    obtain ⟨q, o, os1, rfl, k1, k2, k3, k4⟩ := h
    obtain ⟨os', h1, h2⟩ := s.r k4
    exact ⟨q :: os', ⟨q, o, os', rfl, k1, k2, k3, h1⟩, h2.cons₂ q⟩
  | _, _, .keep (e := @Ent.oo i α _) s, γ, os, h => by
    rcases h with ⟨e, k1, h⟩ | ⟨b, q, o, os1, e, rfl, k1, k2, k3, k4⟩
    · obtain ⟨os', h1, h2⟩ := s.r h
      exact ⟨os', .inl ⟨e, k1, h1⟩, h2⟩
    · obtain ⟨os', h1, h2⟩ := s.r k4
      exact ⟨q :: os', .inr ⟨b, q, o, os', e, rfl, k1, k2, k3, h1⟩, h2.cons₂ q⟩
  | _, _, .skip (e := @Ent.fz i α _) s, γ, os, h => s.r h.2
  | _, _, .skip (e := @Ent.bo i α _) s, γ, os, h => s.r h.2
  | _, _, .skip (e := @Ent.ow i α _) s, γ, os, h => by
    obtain ⟨q, o, os1, rfl, k1, k2, k3, k4⟩ := h
    obtain ⟨os', h1, h2⟩ := s.r k4
    exact ⟨os', h1, h2.cons q⟩
  | _, _, .skip (e := @Ent.oo i α _) s, γ, os, h => by
    rcases h with ⟨e, k1, h⟩ | ⟨b, q, o, os1, e, rfl, k1, k2, k3, k4⟩
    · exact s.r h
    · obtain ⟨os', h1, h2⟩ := s.r k4
      exact ⟨os', h1, h2.cons q⟩
theorem Stt.sub {n : Nat} {c c' : Ctx} (s : Sub c c') {γ : Ctx.T c} {os : List Addr} (h : Stt wd n H0 G0 σ H G os c γ) : ∃ os', os'.Sublist os ∧ Stt wd n H0 G0 σ H G os' c' (s.proj γ) := by
  obtain ⟨os', h1, h2⟩ := s.r h.r
  exact ⟨os', h2, h.len, h.f, h.nd.sublist h2, fun p hp => h.fr p (h2.subset hp), h1⟩
/-- one object is frozen -/
theorem Fr.frz1 {p : Addr} {o : HO} (f : Fr H0 G0 H G) (g : G p = none) (h0 : H0 p = none) (e : H p = some o) : Fr H0 G0 H (upd G p o) :=
  ⟨f.h, Same.upd' f.g (f.g.free g), fun a u q => by
    by_cases ha : a = p
    · subst ha
      rw [upd_same] at q
      cases q
      exact e
    · rw [upd_ne ha] at q
      exact f.gh a u q, fun a u q => by
    by_cases ha : a = p
    · subst ha
      exact .inr h0
    · rw [upd_ne ha] at q
      exact f.new a u q⟩
theorem Frz.r : ∀ {c c' : Ctx} (s : Frz c c') {γ : Ctx.T c} {os : List Addr} {G : Hp}, R wd H0 σ H G c γ os → os.Nodup → (∀ p ∈ os, G p = none ∧ H0 p = none) → Fr H0 G0 H G →
    ∃ os' G', R wd H0 σ H G' c' (s.proj γ) os' ∧ os'.Sublist os ∧ Fr H0 G0 H G' ∧ Same G G' ∧ (∀ p, p ∉ os → G p = none → G' p = none) ∧ ∀ p ∈ os', G' p = none
  | _, _, .nil, γ, os, G, h, nd, fr, f => ⟨[], G, rfl, List.nil_sublist _, f, Same.refl G, fun _ _ h => h, fun _ h => by cases h⟩
  | _, _, .keep (e := @Ent.fz i α _) s, γ, os, G, h, nd, fr, f => by
    obtain ⟨os', G', h1, h2, h3, h4, h5, h6⟩ := s.r h.2 nd fr f
    obtain ⟨v, k1, k2⟩ := h.1
    exact ⟨os', G', ⟨⟨v, k1, Rep.mono h4 k2⟩, h1⟩, h2, h3, h4, h5, h6⟩
  | _, _, .keep (e := @Ent.bo i α _) s, γ, os, G, h, nd, fr, f => by
    obtain ⟨os', G', h1, h2, h3, h4, h5, h6⟩ := s.r h.2 nd fr f
    obtain ⟨v, o, k1, k2, k3⟩ := h.1
    exact ⟨os', G', ⟨⟨v, o, k1, k2, Own.mono h4 k3⟩, h1⟩, h2, h3, h4, h5, h6⟩
  | _, _, .keep (e := @Ent.ow i α _) s, γ, os, G, h, nd, fr, f => by
    obtain ⟨q, o, os1, rfl, k1, k2, k3, k4⟩ := h
    have nd' := List.nodup_cons.mp nd
    obtain ⟨os', G', h1, h2, h3, h4, h5, h6⟩ := s.r k4 nd'.2 (fun p hp => fr p (List.mem_cons_of_mem _ hp)) f
    have gq := h5 q nd'.1 (fr q List.mem_cons_self).1
    refine ⟨q :: os', G', ⟨q, o, os', rfl, k1, k2, Own.mono h4 k3, h1⟩, h2.cons₂ q, h3, h4, fun p hp => h5 p fun z => hp (List.mem_cons_of_mem _ z), fun p hp => ?_⟩
    rcases List.mem_cons.mp hp with e | e
    · rw [e]; exact gq
    · exact h6 p e
  | _, _, .keep (e := @Ent.oo i α _) s, γ, os, G, h, nd, fr, f => by
    rcases h with ⟨e, k1, h⟩ | ⟨b, q, o, os1, e, rfl, k1, k2, k3, k4⟩
    · obtain ⟨os', G', h1, h2, h3, h4, h5, h6⟩ := s.r h nd fr f
      exact ⟨os', G', .inl ⟨e, k1, h1⟩, h2, h3, h4, h5, h6⟩
    · have nd' := List.nodup_cons.mp nd
      obtain ⟨os', G', h1, h2, h3, h4, h5, h6⟩ := s.r k4 nd'.2 (fun p hp => fr p (List.mem_cons_of_mem _ hp)) f
      have gq := h5 q nd'.1 (fr q List.mem_cons_self).1
      refine ⟨q :: os', G', .inr ⟨b, q, o, os', e, rfl, k1, k2, Own.mono h4 k3, h1⟩, h2.cons₂ q, h3, h4, fun p hp => h5 p fun z => hp (List.mem_cons_of_mem _ z), fun p hp => ?_⟩
      rcases List.mem_cons.mp hp with e | e
      · rw [e]; exact gq
      · exact h6 p e
  | _, _, @Frz.frz i α r c c' s, γ, os, G, h, nd, fr, f => by
    obtain ⟨q, o, os1, rfl, k1, k2, k3, k4⟩ := h
    have nd' := List.nodup_cons.mp nd
    obtain ⟨os', G', h1, h2, h3, h4, h5, h6⟩ := s.r k4 nd'.2 (fun p hp => fr p (List.mem_cons_of_mem _ hp)) f
    have gq := h5 q nd'.1 (fr q List.mem_cons_self).1
    have sg : Same G' (upd G' q o) := Same.upd' (Same.refl G') gq
    refine ⟨os', upd G' q o, ⟨⟨.ref q, k1, q, o, rfl, upd_same, Own.mono (h4.trans sg) k3⟩, h1.mono sg fun _ _ => rfl⟩, h2.cons q, h3.frz1 gq (fr q List.mem_cons_self).2 k2, h4.trans sg, fun p hp g => ?_, fun p hp => ?_⟩
    · rw [upd_ne fun e => hp (by rw [e]; exact List.mem_cons_self)]
      exact h5 p (fun z => hp (List.mem_cons_of_mem _ z)) g
    · rw [upd_ne fun e => nd'.1 (by rw [← e]; exact h2.subset hp)]
      exact h6 p hp
theorem Stt.frz {n : Nat} {c c' : Ctx} (s : Frz c c') {γ : Ctx.T c} {os : List Addr} (h : Stt wd n H0 G0 σ H G os c γ) : ∃ os' G', Stt wd n H0 G0 σ H G' os' c' (s.proj γ) := by
  obtain ⟨os', G', h1, h2, h3, h4, h5, h6⟩ := s.r h.r h.nd h.fr h.f
  exact ⟨os', G', h.len, h3, h.nd.sublist h2, fun p hp => ⟨h6 p hp, (h.fr p (h2.subset hp)).2⟩, h1⟩
/-- an owned object that may be none is told to be there -/
inductive Nar : Ctx → Ctx → Type 1 where
  | z {i : Nat} {β : Type} {r : Own β} {c : Ctx} : Nar (@Ent.oo i β r :: c) (@Ent.ow i β r :: c)
  | s {e : Ent} {c c' : Ctx} (n : Nar c c') : Nar (e :: c) (e :: c')
@[reducible] def Nar.go : {c c' : Ctx} → Nar c c' → Ctx.T c → Rs (Ctx.T c')
  | _, _, .z, γ => match γ.1 with
    | some b => .ok (b, γ.2)
    | none => .no
  | _, _, .s n, γ => (n.go γ.2).bind fun g => .ok (γ.1, g)
theorem Nar.r : ∀ {c c' : Ctx} (s : Nar c c') {γ : Ctx.T c} {γ' : Ctx.T c'} {os : List Addr}, s.go γ = .ok γ' → R wd H0 σ H G c γ os → R wd H0 σ H G c' γ' os
  | _, _, .z, (none, γ), γ', os, e, h => by cases e
  | _, _, .z, (some b, γ), γ', os, e, h => by
    cases e
    rcases h with ⟨e, _⟩ | ⟨b', q, o, os1, e, rfl, k1, k2, k3, k4⟩
    · cases e
    · cases e
      exact ⟨q, o, os1, rfl, k1, k2, k3, k4⟩
  | _, _, .s (e := x) n, γ, γ', os, e, h => by
    have e' : (n.go γ.2).bind (fun g => .ok (γ.1, g)) = .ok γ' := e
    cases e2 : n.go γ.2 with
    | no => rw [e2] at e'; cases e'
    | ex _ => rw [e2] at e'; cases e'
    | ok g =>
      rw [e2] at e'
      cases e'
      cases x with
      | fz i β => exact ⟨h.1, n.r e2 h.2⟩
      | bo i β => exact ⟨h.1, n.r e2 h.2⟩
      | ow i β =>
        obtain ⟨q, o, os1, rfl, k1, k2, k3, k4⟩ := h
        exact ⟨q, o, os1, rfl, k1, k2, k3, n.r e2 k4⟩
      | oo i β =>
        rcases h with ⟨e, k1, h⟩ | ⟨b, q, o, os1, e, rfl, k1, k2, k3, k4⟩
        · exact .inl ⟨e, k1, n.r e2 h⟩
        · exact .inr ⟨b, q, o, os1, e, rfl, k1, k2, k3, n.r e2 k4⟩
theorem Stt.nar {n : Nat} {c c' : Ctx} (s : Nar c c') {γ : Ctx.T c} {γ' : Ctx.T c'} {os : List Addr} (e : s.go γ = .ok γ') (h : Stt wd n H0 G0 σ H G os c γ) : Stt wd n H0 G0 σ H G os c' γ' :=
  ⟨h.len, h.f, h.nd, h.fr, s.r e h.r⟩
end
end Wm
set_option Elab.async false
set_option linter.all false
set_option maxRecDepth 100000
set_option maxHeartbeats 4000000
namespace Wm
open PySem PySem.Spec PyProof.Rows L2
open Rep (rep)
open Own (own)
/-! ### kinds of results -/
structure Kd (wd : Wd) (α : Type) where
  rel : Hp → Hp → Hp → V → α → Prop
  stay : ∀ {B H G H' G' : Hp} {v : V} {a : α}, rel B H G v a → Fr H G H' G' → rel B H' G' v a
  back : ∀ {B B' H G : Hp} {v : V} {a : α}, Same B B' → rel B' H G v a → rel B H G v a
def kF {wd : Wd} {α : Type} [Rep α] : Kd wd α := ⟨fun _ _ G v a => rep wd G v a, fun h f => Rep.mono f.g h, fun _ h => h⟩
def kO {wd : Wd} {β : Type} [Own β] : Kd wd β :=
  ⟨fun B H G v b => ∃ p o, v = .ref p ∧ B p = none ∧ G p = none ∧ H p = some o ∧ own wd G o b,
   fun ⟨p, o, e, n, g, h, w⟩ f => ⟨p, o, e, n, f.out h g, f.h _ _ h, Own.mono f.g w⟩,
   fun s ⟨p, o, e, n, g, h, w⟩ => ⟨p, o, e, s.free n, g, h, w⟩⟩
def kB {wd : Wd} {β : Type} [Own β] : Kd wd β :=
  ⟨fun _ H G v b => ∃ p o, v = .ref p ∧ H p = some o ∧ own wd G o b, fun ⟨p, o, e, h, w⟩ f => ⟨p, o, e, f.h _ _ h, Own.mono f.g w⟩, fun _ h => h⟩
structure Fx where
  wd : Wd
  n : Nat
  W : WX
abbrev Fx.blk (F : Fx) : Fx := { F with W := fun _ _ _ _ => False }
def Post {wd : Wd} {α : Type} (W : WX) (k : Kd wd α) (σ : L2.St) (H G : Hp) (Q : VK) : Rs α → Prop
  | .ok a => ∀ H' G' v, Fr H G H' G' → k.rel H H' G' v a → Q v H'
  | .ex x => ∀ d H', Same H H' → RepX H' d x → W (.ref (wd.cm x.cls)) d σ H'
  | .no => False
section
variable {wd : Wd} {α β δ : Type} {W : WX} {k : Kd wd α} {k2 : Kd wd β} {σ : L2.St} {H G H' G' : Hp} {Q Q' : VK} {r : Rs α}
theorem Post.ext (h : Post W k σ H G Q r) (f : Fr H G H' G') : Post W k σ H' G' Q r := by
  cases r with
  | no => exact h
  | ex x => exact fun d H2 s q => h d H2 (f.h.trans s) q
  | ok a => exact fun H2 G2 v f2 q => h H2 G2 v (f.trans f2) (k.back f.h q)
theorem Post.imp (h : Post W k σ H G Q r) (i : ∀ v H', Q v H' → Q' v H') : Post W k σ H G Q' r := by
  cases r with
  | no => exact h
  | ex x => exact h
  | ok a => exact fun H2 G2 v f2 q => i v H2 (h H2 G2 v f2 q)
theorem Post.step {f : α → Rs β} (h : Post W k2 σ H G Q (r.bind f)) (k : Kd wd α) (i : ∀ v H1 G1 a, Fr H G H1 G1 → k.rel H H1 G1 v a → Post W k2 σ H1 G1 Q (f a) → Q' v H1) : Post W k σ H G Q' r := by
  cases r with
  | no => exact h
  | ex x => exact h
  | ok a => exact fun H2 G2 v f2 q => i v H2 G2 a f2 q (Post.ext h f2)
end
def tX (F : Fx) {α : Type} (k : Kd F.wd α) (c : Ctx) (m : Ctx.T c → Rs α) : TE := fun σ H Q => ∃ H0 G0 G os γ, Stt F.wd F.n H0 G0 σ H G os c γ ∧ Post F.W k σ H G Q (m γ)
section
variable {X : Cx} {t t' : TE}
theorem pe_mono {e : Expr} (h : PE X e t) (i : ∀ σ H Q, t' σ H Q → t σ H Q) : PE X e t' := ⟨fun pins s σ H Q I q => h.run pins s σ H Q I (i σ H Q q)⟩
theorem pt_mono {e : Expr} {t t' : TT} (h : PT X e t) (i : ∀ σ H Q, t' σ H Q → t σ H Q) : PT X e t' := ⟨fun pins s σ H Q I q => h.run pins s σ H Q I (i σ H Q q)⟩
theorem pw_mono {e : Expr} {t t' : TT} (h : PW X e t) (i : ∀ σ H Q, t' σ H Q → t σ H Q) : PW X e t' := ⟨fun wh pins s σ H Q I q => h.run wh pins s σ H Q I (i σ H Q q)⟩
theorem pa_mono {es : List Expr} {t t' : TA} (h : PA X es t) (i : ∀ σ H Q, t' σ H Q → t σ H Q) : PA X es t' := ⟨fun pos pins s σ H Q I q => h.run pos pins s σ H Q I (i σ H Q q)⟩
theorem ps_mono {st : Stmt} {t t' : TS} (h : PS X st t) (i : ∀ D σ H, t' D σ H → t D σ H) : PS X st t' := ⟨fun pins s σ H D I q => h.run pins s σ H D I (i D σ H q)⟩
theorem pss_mono {st : List Stmt} {t t' : TS} (h : PSs X st t) (i : ∀ D σ H, t' D σ H → t D σ H) : PSs X st t' := ⟨fun pins s σ H D I q => h.run pins s σ H D I (i D σ H q)⟩
end
/-! ### operations on values -/
def Sem1 {wd : Wd} {α δ : Type} (k1 : Kd wd α) (k3 : Kd wd δ) (r : V → Hp → VK → Prop) (f : α → Rs δ) : Prop :=
  ∀ {W : WX} {σ : L2.St} {B H G : Hp} {x : V} {a : α} {Q : VK}, Same G H → k1.rel B H G x a → Post W k3 σ H G Q (f a) → r x H Q
def Sem2 {wd : Wd} {α β δ : Type} (k1 : Kd wd α) (k2 : Kd wd β) (k3 : Kd wd δ) (r : R2) (f : α → β → Rs δ) : Prop :=
  ∀ {W : WX} {σ : L2.St} {B1 B2 H G : Hp} {x y : V} {a : α} {b : β} {Q : VK}, Same G H → k1.rel B1 H G x a → k2.rel B2 H G y b → Post W k3 σ H G Q (f a b) → r x y H Q
section
variable {X : Cx} {F : Fx} {c : Ctx} {α β δ : Type} {k1 : Kd F.wd α} {k2 : Kd F.wd β} {k3 : Kd F.wd δ} {a b : Expr} {ma : Ctx.T c → Rs α} {mb : Ctx.T c → Rs β} {pos p : Pos} {r : R2} {f : α → β → Rs δ}
theorem tX1 {r : V → Hp → VK → Prop} {f : α → Rs δ} (hr : Sem1 k1 k3 r f) {σ : L2.St} {H : Hp} {Q : VK} (h : tX F k3 c (fun γ => (ma γ).bind f) σ H Q) : tX F k1 c ma σ H fun x H1 => r x H1 Q := by
  obtain ⟨H0, G0, G, os, γ, st, p⟩ := h
  exact ⟨H0, G0, G, os, γ, st, p.step k1 fun x H1 G1 a fr ra p1 => hr fr.gh ra p1⟩
theorem tX2 (hr : Sem2 k1 k2 k3 r f) {σ : L2.St} {H : Hp} {Q : VK} (h : tX F k3 c (fun γ => (ma γ).bind fun x => (mb γ).bind fun y => f x y) σ H Q) : tOp r (tX F k1 c ma) (tX F k2 c mb) σ H Q := by
  obtain ⟨H0, G0, G, os, γ, st, p⟩ := h
  exact ⟨H0, G0, G, os, γ, st, p.step k1 fun x H1 G1 a fr ra p1 => ⟨H0, G0, G1, os, γ, st.ext fr, p1.step k2 fun y H2 G2 b fr2 rb p2 => hr fr2.gh (k1.stay ra fr2) rb p2⟩⟩
theorem e_op {op : Operator} (ho : OpR X (binaryOp op) r) (hr : Sem2 k1 k2 k3 r f) (ha : PE X a (tX F k1 c ma)) (hb : PE X b (tX F k2 c mb)) : PE X (.BinOp a op b pos) (tX F k3 c fun γ => (ma γ).bind fun x => (mb γ).bind fun y => f x y) :=
  pe_mono (pe_op ho ha hb) fun σ H Q h => tX2 hr h
theorem e_un {op : UnaryOp} {r : V → Hp → VK → Prop} {f : α → Rs δ} (ho : UnR X (unaryOp op) r) (hr : Sem1 k1 k3 r f) (ha : PE X a (tX F k1 c ma)) : PE X (.UnaryOp op a pos) (tX F k3 c fun γ => (ma γ).bind f) :=
  pe_mono (pe_un ho ha) fun σ H Q h => tX1 hr h
theorem e_ix (hr : IxR X r) (hs : Sem2 k1 k2 k3 r f) (ha : PE X a (tX F k1 c ma)) (hb : PE X b (tX F k2 c mb)) (hp : PlainIx b := by exact fun _ _ => rfl) : PE X (.Subscript a b pos) (tX F k3 c fun γ => (ma γ).bind fun x => (mb γ).bind fun y => f x y) :=
  pe_mono (pe_ix hr ha hb hp) fun σ H Q h => tX2 hs h
theorem e_cmp {op : CmpOp} (ho : OpR X (compareOp op) r) (hr : Sem2 k1 k2 k3 r f) (ha : PE X a (tX F k1 c ma)) (hb : PE X b (tX F k2 c mb)) (hm : behindInMarks op b = false := by first | exact nomark _ | rfl) : PE X (.Compare a [op] [b] pos) (tX F k3 c fun γ => (ma γ).bind fun x => (mb γ).bind fun y => f x y) :=
  pe_mono (pe_cmpR ho ha hb hm) fun σ H Q h => tX2 hr h
theorem e_b1 {x : Str} {id : String} {r : List V → Hp → VK → Prop} {f : α → Rs δ} (hc : CallR X (.builtin id) r) (hs : Sem1 k1 k3 (fun x => r [x]) f) (hg : Gl X x) (hm : X.mg x = none) (hv : bootBuiltins x = some (.builtin id)) (ha : PE X a (tX F k1 c ma)) (hn : x ≠ "__name__" := by decide)
    (hdb : (x == ("__debug__" : Str)) = false := by decide) (he : starEach (a :: []) X.env = (false, eval a X.env) :: starEach [] X.env := by rfl) (hpl : (backTo pos (starEach [] X.env)).any (·.1) = false := by rfl) : PE X (.Call (.Name x p) [a] [] pos) (tX F k3 c fun γ => (ma γ).bind f) :=
  pe_mono (pe_callB hc hg hm hv (pa_cons ha pa_nil he) hn hdb he hpl) fun σ H Q h => tX1 hs h
theorem e_t1 {x : Str} {T : String} {r : List V → Hp → VK → Prop} {f : α → Rs δ} (hc : CallR X (.type T) r) (hs : Sem1 k1 k3 (fun x => r [x]) f) (hg : Gl X x) (hm : X.mg x = none) (hv : bootBuiltins x = some (.type T)) (ha : PE X a (tX F k1 c ma)) (hn : x ≠ "__name__" := by decide)
    (hdb : (x == ("__debug__" : Str)) = false := by decide) (he : starEach (a :: []) X.env = (false, eval a X.env) :: starEach [] X.env := by rfl) (hpl : (backTo pos (starEach [] X.env)).any (·.1) = false := by rfl) : PE X (.Call (.Name x p) [a] [] pos) (tX F k3 c fun γ => (ma γ).bind f) :=
  pe_mono (pe_callTy hc hg hm hv (pa_cons ha pa_nil he) hn hdb he hpl) fun σ H Q h => tX1 hs h
/-! ### constants and names -/
theorem e_c {α : Type} [Rep α] {e : Expr} {v : V} (h : PE X e (tC v)) (z : α) (r : ∀ G, rep F.wd G v z) : PE X e (tX F kF c fun _ => .ok z) :=
  pe_mono h fun σ H Q ⟨H0, G0, G, os, γ, st, p⟩ => p H G v (Fr.refl st.f.gh) (r G)
theorem e_int {i : Int} {j pos} : PE X (.Constant (.int i) j pos) (tX F kF c fun _ => .ok i) := e_c pe_int i fun _ => rfl
theorem e_bl {b : Bool} {j pos} : PE X (.Constant (.bool b) j pos) (tX F kF c fun _ => .ok b) := e_c pe_bl b fun _ => rfl
theorem e_str {x : Str} {j pos} (h : SOk x := by decide +kernel) : PE X (.Constant (.str x) j pos) (tX F kF c fun _ => .ok x) := e_c pe_str x fun _ => ⟨rfl, h⟩
theorem e_non {j pos} : PE X (.Constant .none j pos) (tX F kF c fun _ => .ok ()) := e_c pe_non () fun _ => rfl
theorem e_nonO {α : Type} [Rep α] {j pos} : PE X (.Constant .none j pos) (tX F kF c fun _ => .ok (none : Option α)) := e_c pe_non none fun _ => rfl
theorem e_gi {x : Str} {i : Int} {t : Tok} (hg : Gl X x) (hm : X.mg x = some (.int i t)) (hd : (x == ("__debug__" : Str)) = false := by decide) : PE X (.Name x pos) (tX F kF c fun _ => .ok i) := e_c (pe_glob hg hm (v := .int i) ⟨t, rfl⟩ hd) i fun _ => rfl
theorem e_gs {x z : Str} {t : Tok} (hg : Gl X x) (hm : X.mg x = some (.str z t)) (h : SOk z := by decide +kernel) (hd : (x == ("__debug__" : Str)) = false := by decide) : PE X (.Name x pos) (tX F kF c fun _ => .ok z) := e_c (pe_glob hg hm (v := .str z) ⟨t, rfl⟩ hd) z fun _ => ⟨rfl, h⟩
theorem e_var {α : Type} [Rep α] {i : Nat} (v : Var c (.fz i α)) {x : Str} (hN : X.N[i]? = some x := by rfl) (hv : Vis X.env.scope x := by first | exact Or.inl rfl | exact Or.inr (Or.inl rfl) | exact Or.inr (Or.inr rfl))
    (hd : (x == ("__debug__" : Str)) = false := by decide) (hcd : (x == ("__classdict__" : Str)) = false := by decide) : PE X (.Name x pos) (tX F kF c fun γ => .ok (v.get γ)) :=
  pe_mono (pe_var hN hv hd hcd) fun σ H Q ⟨H0, G0, G, os, γ, st, p⟩ => by
    obtain ⟨x, h1, h2⟩ := v.fz st.r
    exact ⟨x, h1, p H G x (Fr.refl st.f.gh) h2⟩
theorem e_varW {β : Type} [Own β] {i : Nat} (v : Var c (.ow i β)) {x : Str} (hN : X.N[i]? = some x := by rfl) (hv : Vis X.env.scope x := by first | exact Or.inl rfl | exact Or.inr (Or.inl rfl) | exact Or.inr (Or.inr rfl))
    (hd : (x == ("__debug__" : Str)) = false := by decide) (hcd : (x == ("__classdict__" : Str)) = false := by decide) : PE X (.Name x pos) (tX F kB c fun γ => .ok (v.get γ)) :=
  pe_mono (pe_var hN hv hd hcd) fun σ H Q ⟨H0, G0, G, os, γ, st, p⟩ => by
    obtain ⟨q, o, _, h1, h2, h3⟩ := v.ow st.r
    exact ⟨.ref q, h1, p H G _ (Fr.refl st.f.gh) ⟨q, o, rfl, h2, h3⟩⟩
theorem e_varB {β : Type} [Own β] {i : Nat} (v : Var c (.bo i β)) {x : Str} (hN : X.N[i]? = some x := by rfl) (hv : Vis X.env.scope x := by first | exact Or.inl rfl | exact Or.inr (Or.inl rfl) | exact Or.inr (Or.inr rfl))
    (hd : (x == ("__debug__" : Str)) = false := by decide) (hcd : (x == ("__classdict__" : Str)) = false := by decide) : PE X (.Name x pos) (tX F kB c fun γ => .ok (v.get γ)) :=
  pe_mono (pe_var hN hv hd hcd) fun σ H Q ⟨H0, G0, G, os, γ, st, p⟩ => by
    obtain ⟨q, o, h1, h2, h3⟩ := v.bo st.r
    exact ⟨.ref q, h1, p H G _ (Fr.refl st.f.gh) ⟨q, o, rfl, st.f.h _ _ h2, h3⟩⟩
/-! ### from one kind to another -/
theorem e_fb {β : Type} [Own β] {e : Expr} {m : Ctx.T c → Rs β} (h : PE X e (tX F kF c m)) : PE X e (tX F kB c m) :=
  pe_mono h fun σ H Q ⟨H0, G0, G, os, γ, st, p⟩ => ⟨H0, G0, G, os, γ, st, by
    cases e : m γ with
    | no => rw [e] at p; exact p
    | ex x => rw [e] at p; exact p
    | ok b =>
      rw [e] at p
      exact fun H' G' v f ⟨q, o, e1, e2, e3⟩ => p H' G' v f ⟨q, o, e1, f.gh _ _ e2, e3⟩⟩
theorem e_ob {β : Type} [Own β] {e : Expr} {m : Ctx.T c → Rs β} (h : PE X e (tX F kO c m)) : PE X e (tX F kB c m) :=
  pe_mono h fun σ H Q ⟨H0, G0, G, os, γ, st, p⟩ => ⟨H0, G0, G, os, γ, st, by
    cases e : m γ with
    | no => rw [e] at p; exact p
    | ex x => rw [e] at p; exact p
    | ok b =>
      rw [e] at p
      exact fun H' G' v f ⟨q, o, e1, e2, e3, e4, e5⟩ => p H' G' v f ⟨q, o, e1, e4, e5⟩⟩
theorem e_of {β : Type} [Own β] {e : Expr} {m : Ctx.T c → Rs β} (h : PE X e (tX F kO c m)) : PE X e (tX F kF c m) :=
  pe_mono h fun σ H Q ⟨H0, G0, G, os, γ, st, p⟩ => ⟨H0, G0, G, os, γ, st, by
    cases e : m γ with
    | no => rw [e] at p; exact p
    | ex x => rw [e] at p; exact p
    | ok b =>
      rw [e] at p
      exact fun H' G' v f ⟨q, o, e1, e2, e3, e4, e5⟩ => p H' (upd G' q o) v (f.freeze e2 e3 e4) ⟨q, o, e1, upd_same, Own.mono (Same.upd' (Same.refl G') e3) e5⟩⟩
/-- an option that is there -/
theorem e_some {α : Type} [Rep α] {e : Expr} {m : Ctx.T c → Rs α} (h : PE X e (tX F kF c m)) : PE X e (tX F kF c fun γ => (m γ).bind fun a => .ok (some a)) :=
  pe_mono h fun σ H Q ⟨H0, G0, G, os, γ, st, p⟩ => ⟨H0, G0, G, os, γ, st, p.step kF fun v H1 G1 a fr ra p1 => p1 H1 G1 v (Fr.refl fr.gh) ra⟩
end
/-! ### the operators -/
section
variable {wd : Wd}
theorem m_I0 {g : Int → Int → V} {δ : Type} [Rep δ] {f : Int → Int → δ} (h : ∀ i j G, rep wd G (g i j) (f i j)) : Sem2 (wd := wd) kF kF kF (rI0 g) (fun i j => .ok (f i j)) := by
  intro W σ B1 B2 H G x y a b Q gh hx hy p
  exact ⟨a, b, hx, hy, p H G _ (Fr.refl gh) (h a b G)⟩
theorem m_I {C : Int → Int → Prop} [∀ i j, Decidable (C i j)] {g : Int → Int → V} {δ : Type} [Rep δ] {f : Int → Int → δ} (h : ∀ i j G, rep wd G (g i j) (f i j)) : Sem2 (wd := wd) kF kF kF (rI C g) (fun i j => if C i j then .ok (f i j) else .no) := by
  intro W σ B1 B2 H G x y a b Q gh hx hy p
  dsimp only at p
  by_cases hc : C a b
  · rw [if_pos hc] at p
    exact ⟨a, b, hx, hy, hc, p H G _ (Fr.refl gh) (h a b G)⟩
  · rw [if_neg hc] at p
    exact p.elim
theorem m_U {g : Int → V} {δ : Type} [Rep δ] {f : Int → δ} (h : ∀ i G, rep wd G (g i) (f i)) : Sem1 (wd := wd) kF kF (rU g) (fun i => .ok (f i)) := by
  intro W σ B H G x a Q gh hx p
  exact ⟨a, hx, p H G _ (Fr.refl gh) (h a G)⟩
instance : DecidableRel CMul := fun i j => inferInstanceAs (Decidable ((-(2 ^ 64) < i ∧ i < 2 ^ 64) ∨ (-(2 ^ 64) < j ∧ j < 2 ^ 64)))
instance : DecidableRel CMulW := fun i j => inferInstanceAs (Decidable (i.natAbs.log2 + j.natAbs.log2 < 1000000))
instance : DecidableRel CDiv := fun i j => inferInstanceAs (Decidable (0 < j ∧ j < 1073741824))
instance : DecidableRel CDivW := fun i j => inferInstanceAs (Decidable (0 < j ∧ j.natAbs.log2 < 9000))
instance : DecidableRel CPow := fun i j => inferInstanceAs (Decidable (0 ≤ j ∧ j ≤ 1000000 ∧ i.natAbs < 2 ^ 64))
end
end Wm
set_option Elab.async false
set_option linter.all false
set_option maxRecDepth 100000
set_option maxHeartbeats 4000000
namespace Wm
open PySem PySem.Spec PyProof.Rows L2
open Rep (rep)
open Own (own)
/-! ### statements -/
def PostN (F : Fx) (H0 G0 : Hp) (c : Ctx) (D : Ends) : Rs (Ctx.T c) → Prop
  | .ok γ => ∀ σ H G os, Stt F.wd F.n H0 G0 σ H G os c γ → D.nx σ H
  | .ex x => ∀ d σ H, Same H0 H → RepX H d x → F.W (.ref (F.wd.cm x.cls)) d σ H
  | .no => False
def PostT (F : Fx) {ρ : Type} (k : Kd F.wd ρ) (H0 G0 : Hp) (D : Ends) : Rs ρ → Prop
  | .ok r => ∀ H G v, Fr H0 G0 H G → k.rel H0 H G v r → D.rt v H
  | .ex x => ∀ d σ H, Same H0 H → RepX H d x → F.W (.ref (F.wd.cm x.cls)) d σ H
  | .no => False
def PostG (F : Fx) {ρ : Type} (k : Kd F.wd ρ) (H0 G0 : Hp) (c : Ctx) (D : Ends) : Rs (Ctx.T c ⊕ ρ) → Prop
  | .ok (.inl γ) => ∀ σ H G os, Stt F.wd F.n H0 G0 σ H G os c γ → D.nx σ H
  | .ok (.inr r) => ∀ H G v, Fr H0 G0 H G → k.rel H0 H G v r → D.rt v H
  | .ex x => ∀ d σ H, Same H0 H → RepX H d x → F.W (.ref (F.wd.cm x.cls)) d σ H
  | .no => False
/-- the statements' readings: what follows; a return; both -/
def tS (F : Fx) (c c' : Ctx) (m : Ctx.T c → Rs (Ctx.T c')) : TS := fun D σ H => ∃ H0 G0 G os γ, Stt F.wd F.n H0 G0 σ H G os c γ ∧ PostN F H0 G0 c' D (m γ)
def tT (F : Fx) {ρ : Type} (k : Kd F.wd ρ) (c : Ctx) (m : Ctx.T c → Rs ρ) : TS := fun D σ H => ∃ H0 G0 G os γ, Stt F.wd F.n H0 G0 σ H G os c γ ∧ PostT F k H0 G0 D (m γ)
def tG (F : Fx) {ρ : Type} (k : Kd F.wd ρ) (c c' : Ctx) (m : Ctx.T c → Rs (Ctx.T c' ⊕ ρ)) : TS := fun D σ H => ∃ H0 G0 G os γ, Stt F.wd F.n H0 G0 σ H G os c γ ∧ PostG F k H0 G0 c' D (m γ)
section
variable {F : Fx} {α ρ : Type} {k : Kd F.wd α} {kr : Kd F.wd ρ} {H0 G0 H G : Hp} {σ : L2.St} {c c' : Ctx} {D D' : Ends} {Q : VK} {r : Rs α}
theorem PostN.step {f : α → Rs (Ctx.T c')} (h : PostN F H0 G0 c' D (r.bind f)) (s : Same H0 H) (k : Kd F.wd α) (i : ∀ v H1 G1 a, Fr H G H1 G1 → k.rel H H1 G1 v a → PostN F H0 G0 c' D (f a) → Q v H1) : Post F.W k σ H G Q r := by
  cases r with
  | no => exact h
  | ex x => exact fun d H2 q z => h d σ H2 (s.trans q) z
  | ok a => exact fun H2 G2 v f2 q => i v H2 G2 a f2 q h
theorem PostT.step {f : α → Rs ρ} (h : PostT F kr H0 G0 D (r.bind f)) (s : Same H0 H) (k : Kd F.wd α) (i : ∀ v H1 G1 a, Fr H G H1 G1 → k.rel H H1 G1 v a → PostT F kr H0 G0 D (f a) → Q v H1) : Post F.W k σ H G Q r := by
  cases r with
  | no => exact h
  | ex x => exact fun d H2 q z => h d σ H2 (s.trans q) z
  | ok a => exact fun H2 G2 v f2 q => i v H2 G2 a f2 q h
theorem PostG.step {f : α → Rs (Ctx.T c' ⊕ ρ)} (h : PostG F kr H0 G0 c' D (r.bind f)) (s : Same H0 H) (k : Kd F.wd α) (i : ∀ v H1 G1 a, Fr H G H1 G1 → k.rel H H1 G1 v a → PostG F kr H0 G0 c' D (f a) → Q v H1) : Post F.W k σ H G Q r := by
  cases r with
  | no => exact h
  | ex x => exact fun d H2 q z => h d σ H2 (s.trans q) z
  | ok a => exact fun H2 G2 v f2 q => i v H2 G2 a f2 q h
theorem PostN.seqN {r : Rs (Ctx.T c)} {f : Ctx.T c → Rs (Ctx.T c')} (h : PostN F H0 G0 c' D (r.bind f)) (i : ∀ σ H G os γ, Stt F.wd F.n H0 G0 σ H G os c γ → PostN F H0 G0 c' D (f γ) → D'.nx σ H) : PostN F H0 G0 c D' r := by
  cases r with
  | no => exact h
  | ex x => exact h
  | ok γ => exact fun σ H G os st => i σ H G os γ st h
theorem PostT.seqN {r : Rs (Ctx.T c)} {f : Ctx.T c → Rs ρ} (h : PostT F kr H0 G0 D (r.bind f)) (i : ∀ σ H G os γ, Stt F.wd F.n H0 G0 σ H G os c γ → PostT F kr H0 G0 D (f γ) → D'.nx σ H) : PostN F H0 G0 c D' r := by
  cases r with
  | no => exact h
  | ex x => exact h
  | ok γ => exact fun σ H G os st => i σ H G os γ st h
theorem PostG.seqN {r : Rs (Ctx.T c)} {f : Ctx.T c → Rs (Ctx.T c' ⊕ ρ)} (h : PostG F kr H0 G0 c' D (r.bind f)) (i : ∀ σ H G os γ, Stt F.wd F.n H0 G0 σ H G os c γ → PostG F kr H0 G0 c' D (f γ) → D'.nx σ H) : PostN F H0 G0 c D' r := by
  cases r with
  | no => exact h
  | ex x => exact h
  | ok γ => exact fun σ H G os st => i σ H G os γ st h
end
/-! ### blocks -/
section
variable {X : Cx} {F : Fx} {α ρ : Type} {k : Kd F.wd α} {kr : Kd F.wd ρ} {c c1 c' : Ctx} {st : Stmt} {rest sts : List Stmt}
theorem b_nil (s : Sub c c') : PSs X [] (tS F c c' fun γ => .ok (s.proj γ)) :=
  pss_mono pss_nil fun D σ H ⟨H0, G0, G, os, γ, st, p⟩ => by
    obtain ⟨os', _, q⟩ := st.sub s
    exact p σ H G os' q
theorem b_nilG (s : Sub c c') : PSs X [] (tG F kr c c' fun γ => .ok (.inl (s.proj γ))) :=
  pss_mono pss_nil fun D σ H ⟨H0, G0, G, os, γ, st, p⟩ => by
    obtain ⟨os', _, q⟩ := st.sub s
    exact p σ H G os' q
theorem b_cons {m1 : Ctx.T c → Rs (Ctx.T c1)} {m2 : Ctx.T c1 → Rs (Ctx.T c')} (h1 : PS X st (tS F c c1 m1)) (h2 : PSs X rest (tS F c1 c' m2)) : PSs X (st :: rest) (tS F c c' fun γ => (m1 γ).bind m2) :=
  pss_mono (pss_cons h1 h2) fun D σ H ⟨H0, G0, G, os, γ, s, p⟩ => ⟨H0, G0, G, os, γ, s, p.seqN fun σ H G os γ s2 p2 => ⟨H0, G0, G, os, γ, s2, p2⟩⟩
theorem b_consT {m1 : Ctx.T c → Rs (Ctx.T c1)} {m2 : Ctx.T c1 → Rs ρ} (h1 : PS X st (tS F c c1 m1)) (h2 : PSs X rest (tT F kr c1 m2)) : PSs X (st :: rest) (tT F kr c fun γ => (m1 γ).bind m2) :=
  pss_mono (pss_cons h1 h2) fun D σ H ⟨H0, G0, G, os, γ, s, p⟩ => ⟨H0, G0, G, os, γ, s, p.seqN fun σ H G os γ s2 p2 => ⟨H0, G0, G, os, γ, s2, p2⟩⟩
theorem b_consG {m1 : Ctx.T c → Rs (Ctx.T c1)} {m2 : Ctx.T c1 → Rs (Ctx.T c' ⊕ ρ)} (h1 : PS X st (tS F c c1 m1)) (h2 : PSs X rest (tG F kr c1 c' m2)) : PSs X (st :: rest) (tG F kr c c' fun γ => (m1 γ).bind m2) :=
  pss_mono (pss_cons h1 h2) fun D σ H ⟨H0, G0, G, os, γ, s, p⟩ => ⟨H0, G0, G, os, γ, s, p.seqN fun σ H G os γ s2 p2 => ⟨H0, G0, G, os, γ, s2, p2⟩⟩
/-- a statement that may return, then the rest -/
def Rs.left {γ ρ : Type} (r : Rs (γ ⊕ ρ)) (f : γ → Rs ρ) : Rs ρ := r.bind fun z => match z with | .inl g => f g | .inr x => .ok x
def Rs.leftG {γ δ ρ : Type} (r : Rs (γ ⊕ ρ)) (f : γ → Rs (δ ⊕ ρ)) : Rs (δ ⊕ ρ) := r.bind fun z => match z with | .inl g => f g | .inr x => .ok (.inr x)
theorem b_goT {m1 : Ctx.T c → Rs (Ctx.T c1 ⊕ ρ)} {m2 : Ctx.T c1 → Rs ρ} (h1 : PS X st (tG F kr c c1 m1)) (h2 : PSs X rest (tT F kr c1 m2)) : PSs X (st :: rest) (tT F kr c fun γ => (m1 γ).left m2) :=
  pss_mono (pss_cons h1 h2) fun D σ H ⟨H0, G0, G, os, γ, s, p⟩ => ⟨H0, G0, G, os, γ, s, by
    dsimp only [Rs.left] at p
    cases e : m1 γ with
    | no => rw [e] at p; exact p
    | ex x => rw [e] at p; exact p
    | ok z =>
      rw [e] at p
      cases z with
      | inl g => exact fun σ H G os s2 => ⟨H0, G0, G, os, g, s2, p⟩
      | inr x => exact p⟩
theorem b_goG {m1 : Ctx.T c → Rs (Ctx.T c1 ⊕ ρ)} {m2 : Ctx.T c1 → Rs (Ctx.T c' ⊕ ρ)} (h1 : PS X st (tG F kr c c1 m1)) (h2 : PSs X rest (tG F kr c1 c' m2)) : PSs X (st :: rest) (tG F kr c c' fun γ => (m1 γ).leftG m2) :=
  pss_mono (pss_cons h1 h2) fun D σ H ⟨H0, G0, G, os, γ, s, p⟩ => ⟨H0, G0, G, os, γ, s, by
    dsimp only [Rs.leftG] at p
    cases e : m1 γ with
    | no => rw [e] at p; exact p
    | ex x => rw [e] at p; exact p
    | ok z =>
      rw [e] at p
      cases z with
      | inl g => exact fun σ H G os s2 => ⟨H0, G0, G, os, g, s2, p⟩
      | inr x => exact p⟩
theorem b_subT {m : Ctx.T c1 → Rs ρ} (s : Sub c c1) (h : PSs X sts (tT F kr c1 m)) : PSs X sts (tT F kr c fun γ => m (s.proj γ)) :=
  pss_mono h fun D σ H ⟨H0, G0, G, os, γ, st, p⟩ => by
    obtain ⟨os', _, q⟩ := st.sub s
    exact ⟨H0, G0, G, os', _, q, p⟩
theorem b_subS {m : Ctx.T c1 → Rs (Ctx.T c')} (s : Sub c c1) (h : PSs X sts (tS F c1 c' m)) : PSs X sts (tS F c c' fun γ => m (s.proj γ)) :=
  pss_mono h fun D σ H ⟨H0, G0, G, os, γ, st, p⟩ => by
    obtain ⟨os', _, q⟩ := st.sub s
    exact ⟨H0, G0, G, os', _, q, p⟩
theorem b_subG {m : Ctx.T c1 → Rs (Ctx.T c' ⊕ ρ)} (s : Sub c c1) (h : PSs X sts (tG F kr c1 c' m)) : PSs X sts (tG F kr c c' fun γ => m (s.proj γ)) :=
  pss_mono h fun D σ H ⟨H0, G0, G, os, γ, st, p⟩ => by
    obtain ⟨os', _, q⟩ := st.sub s
    exact ⟨H0, G0, G, os', _, q, p⟩
theorem b_frzT {m : Ctx.T c1 → Rs ρ} (s : Frz c c1) (h : PSs X sts (tT F kr c1 m)) : PSs X sts (tT F kr c fun γ => m (s.proj γ)) :=
  pss_mono h fun D σ H ⟨H0, G0, G, os, γ, st, p⟩ => by
    obtain ⟨os', G', q⟩ := st.frz s
    exact ⟨H0, G0, G', os', _, q, p⟩
theorem b_frzS {m : Ctx.T c1 → Rs (Ctx.T c')} (s : Frz c c1) (h : PSs X sts (tS F c1 c' m)) : PSs X sts (tS F c c' fun γ => m (s.proj γ)) :=
  pss_mono h fun D σ H ⟨H0, G0, G, os, γ, st, p⟩ => by
    obtain ⟨os', G', q⟩ := st.frz s
    exact ⟨H0, G0, G', os', _, q, p⟩
theorem b_frzG {m : Ctx.T c1 → Rs (Ctx.T c' ⊕ ρ)} (s : Frz c c1) (h : PSs X sts (tG F kr c1 c' m)) : PSs X sts (tG F kr c c' fun γ => m (s.proj γ)) :=
  pss_mono h fun D σ H ⟨H0, G0, G, os, γ, st, p⟩ => by
    obtain ⟨os', G', q⟩ := st.frz s
    exact ⟨H0, G0, G', os', _, q, p⟩
/-- a terminal block as one that may return -/
theorem b_tg {m : Ctx.T c → Rs ρ} (h : PSs X sts (tT F kr c m)) : PSs X sts (tG F kr c c' fun γ => (m γ).bind fun x => .ok (.inr x)) :=
  pss_mono h fun D σ H ⟨H0, G0, G, os, γ, s, p⟩ => ⟨H0, G0, G, os, γ, s, by
    cases e : m γ with
    | no => dsimp only at p; rw [e] at p; exact p
    | ex x => dsimp only at p; rw [e] at p; exact p
    | ok z => dsimp only at p; rw [e] at p; exact p⟩
theorem b_sg {m : Ctx.T c → Rs (Ctx.T c')} (h : PSs X sts (tS F c c' m)) : PSs X sts (tG F kr c c' fun γ => (m γ).bind fun x => .ok (.inl x)) :=
  pss_mono h fun D σ H ⟨H0, G0, G, os, γ, s, p⟩ => ⟨H0, G0, G, os, γ, s, by
    cases e : m γ with
    | no => dsimp only at p; rw [e] at p; exact p
    | ex x => dsimp only at p; rw [e] at p; exact p
    | ok z => dsimp only at p; rw [e] at p; exact p⟩
/-! ### tests -/
def tQ (F : Fx) (c : Ctx) (m : Ctx.T c → Rs Bool) : TT := fun σ H Q => tX F kF c m σ H fun x H' => ∃ b, x = .bl b ∧ Q b H'
theorem q_val {e : Expr} {m : Ctx.T c → Rs Bool} (h : PE X e (tX F kF c m)) (he : ∀ whole, isTrue e X.env whole = (do let v ← whole; standAt e.pos; holding [v] (truthy v)) := by intro _; rfl) : PT X e (tQ F c m) := pt_mono (pt_val h he) fun _ _ _ q => q
theorem q_cmp {α β : Type} {k1 : Kd F.wd α} {k2 : Kd F.wd β} {a b : Expr} {ma : Ctx.T c → Rs α} {mb : Ctx.T c → Rs β} {pos : Pos} {r : R2} {f : α → β → Rs Bool} {op : CmpOp} (ho : OpR X (compareOp op) r) (hr : Sem2 k1 k2 kF r f) (ha : PE X a (tX F k1 c ma)) (hb : PE X b (tX F k2 c mb))
    (hm : behindInMarks op b = false := by first | exact nomark _ | rfl) : PT X (.Compare a [op] [b] pos) (tQ F c fun γ => (ma γ).bind fun x => (mb γ).bind fun y => f x y) :=
  pt_mono (pt_cmpR ho ha hb hm) fun σ H Q h => tX2 hr h
theorem q_not {a : Expr} {m : Ctx.T c → Rs Bool} {pos : Pos} (h : PT X a (tQ F c m)) : PT X (.UnaryOp .Not a pos) (tQ F c fun γ => (m γ).bind fun b => .ok (!b)) :=
  pt_mono (pt_not h) fun σ H Q ⟨H0, G0, G, os, γ, st, p⟩ => ⟨H0, G0, G, os, γ, st, p.step kF fun v H1 G1 b fr rb p1 => ⟨b, rb, by
    obtain ⟨b', e, q⟩ := p1 H1 G1 (.bl (!b)) (Fr.refl fr.gh) rfl
    cases e
    exact q⟩⟩
theorem q_and1 {a : Expr} {t : TT} {pos : Pos} (h : PT X a t) : PW X (.BoolOp .And [a] pos) t := pw_and1 h
theorem q_or1 {a : Expr} {t : TT} {pos : Pos} (h : PT X a t) : PW X (.BoolOp .Or [a] pos) t := pw_or1 h
theorem q_and {a b : Expr} {es : List Expr} {m1 m2 : Ctx.T c → Rs Bool} {pos : Pos} (h1 : PT X a (tQ F c m1)) (h2 : PW X (.BoolOp .And (b :: es) pos) (tQ F c m2)) : PW X (.BoolOp .And (a :: b :: es) pos) (tQ F c fun γ => (m1 γ).bind fun x => if x = true then m2 γ else .ok false) :=
  pw_mono (pw_and h1 h2) fun σ H Q ⟨H0, G0, G, os, γ, st, p⟩ => ⟨H0, G0, G, os, γ, st, p.step kF fun v H1 G1 b fr rb p1 => ⟨b, rb, by
    cases b with
    | true => exact ⟨H0, G0, G1, os, γ, st.ext fr, p1⟩
    | false =>
      obtain ⟨b', e, q⟩ := p1 H1 G1 (.bl false) (Fr.refl fr.gh) rfl
      cases e
      exact q⟩⟩
theorem q_or {a b : Expr} {es : List Expr} {m1 m2 : Ctx.T c → Rs Bool} {pos : Pos} (h1 : PT X a (tQ F c m1)) (h2 : PW X (.BoolOp .Or (b :: es) pos) (tQ F c m2)) : PW X (.BoolOp .Or (a :: b :: es) pos) (tQ F c fun γ => (m1 γ).bind fun x => if x = true then .ok true else m2 γ) :=
  pw_mono (pw_or h1 h2) fun σ H Q ⟨H0, G0, G, os, γ, st, p⟩ => ⟨H0, G0, G, os, γ, st, p.step kF fun v H1 G1 b fr rb p1 => ⟨b, rb, by
    cases b with
    | false => exact ⟨H0, G0, G1, os, γ, st.ext fr, p1⟩
    | true =>
      obtain ⟨b', e, q⟩ := p1 H1 G1 (.bl true) (Fr.refl fr.gh) rfl
      cases e
      exact q⟩⟩
/-- .. as values -/
theorem e_and {a b : Expr} {es : List Expr} {m1 m2 : Ctx.T c → Rs Bool} {pos : Pos} (h1 : PE X a (tX F kF c m1)) (h2 : PE X (.BoolOp .And (b :: es) pos) (tX F kF c m2)) : PE X (.BoolOp .And (a :: b :: es) pos) (tX F kF c fun γ => (m1 γ).bind fun x => if x = true then m2 γ else .ok false) :=
  pe_mono (pe_and h1 h2) fun σ H Q ⟨H0, G0, G, os, γ, st, p⟩ => ⟨H0, G0, G, os, γ, st, p.step kF fun v H1 G1 b fr rb p1 => ⟨b, rb, by
    cases b with
    | true => exact ⟨H0, G0, G1, os, γ, st.ext fr, p1⟩
    | false => exact p1 H1 G1 (.bl false) (Fr.refl fr.gh) rfl⟩⟩
theorem e_or {a b : Expr} {es : List Expr} {m1 m2 : Ctx.T c → Rs Bool} {pos : Pos} (h1 : PE X a (tX F kF c m1)) (h2 : PE X (.BoolOp .Or (b :: es) pos) (tX F kF c m2)) : PE X (.BoolOp .Or (a :: b :: es) pos) (tX F kF c fun γ => (m1 γ).bind fun x => if x = true then .ok true else m2 γ) :=
  pe_mono (pe_or h1 h2) fun σ H Q ⟨H0, G0, G, os, γ, st, p⟩ => ⟨H0, G0, G, os, γ, st, p.step kF fun v H1 G1 b fr rb p1 => ⟨b, rb, by
    cases b with
    | false => exact ⟨H0, G0, G1, os, γ, st.ext fr, p1⟩
    | true => exact p1 H1 G1 (.bl true) (Fr.refl fr.gh) rfl⟩⟩
theorem e_one {op} {a : Expr} {pos : Pos} {t : TE} (h : PE X a t) : PE X (.BoolOp op [a] pos) t := pe_one h
theorem e_not {a : Expr} {m : Ctx.T c → Rs Bool} {pos : Pos} (h : PE X a (tX F kF c m)) : PE X (.UnaryOp .Not a pos) (tX F kF c fun γ => (m γ).bind fun b => .ok (!b)) :=
  pe_mono (pe_not h) fun σ H Q ⟨H0, G0, G, os, γ, st, p⟩ => ⟨H0, G0, G, os, γ, st, p.step kF fun v H1 G1 b fr rb p1 => ⟨b, rb, p1 H1 G1 (.bl (!b)) (Fr.refl fr.gh) rfl⟩⟩
theorem e_if {t a b : Expr} {mt : Ctx.T c → Rs Bool} {m1 m2 : Ctx.T c → Rs α} {pos : Pos} (ht : PT X t (tQ F c mt)) (ha : PE X a (tX F k c m1)) (hb : PE X b (tX F k c m2)) : PE X (.IfExp t a b pos) (tX F k c fun γ => (mt γ).bind fun x => if x = true then m1 γ else m2 γ) :=
  pe_mono (pe_ifExp ht ha hb) fun σ H Q ⟨H0, G0, G, os, γ, st, p⟩ => ⟨H0, G0, G, os, γ, st, p.step kF fun v H1 G1 b fr rb p1 => ⟨b, rb, by
    cases b with
    | false => exact ⟨H0, G0, G1, os, γ, st.ext fr, p1⟩
    | true => exact ⟨H0, G0, G1, os, γ, st.ext fr, p1⟩⟩⟩
/-! ### small statements -/
theorem t_ret {e : Expr} {m : Ctx.T c → Rs ρ} {pos : Pos} (h : PE X e (tX F kr c m)) : PSs X [.Return (some e) pos] (tT F kr c m) :=
  pss_mono (pss_one (ps_ret h)) fun D σ H ⟨H0, G0, G, os, γ, st, p⟩ => ⟨H0, G0, G, os, γ, st, by
    cases e : m γ with
    | no => rw [e] at p; exact p
    | ex x => rw [e] at p; exact fun d H2 q z => p d σ H2 (st.f.h.trans q) z
    | ok z => rw [e] at p; exact fun H2 G2 v f q => p H2 G2 v (st.f.trans f) (kr.back st.f.h q)⟩
/-- return of an owned name -/
theorem t_retW {β : Type} [Own β] {i : Nat} {pos pos' : Pos} (v : Var c (.ow i β)) {x : Str} (hN : X.N[i]? = some x := by rfl) (hv : Vis X.env.scope x := by first | exact Or.inl rfl | exact Or.inr (Or.inl rfl) | exact Or.inr (Or.inr rfl))
    (hd : (x == ("__debug__" : Str)) = false := by decide) (hcd : (x == ("__classdict__" : Str)) = false := by decide) : PSs X [.Return (some (.Name x pos')) pos] (tT F kO c fun γ => .ok (v.get γ)) :=
  pss_mono (pss_one (ps_ret (pe_var hN hv hd hcd))) fun D σ H ⟨H0, G0, G, os, γ, st, p⟩ => by
    obtain ⟨q, o, h0, h1, h2, h3⟩ := v.ow st.r
    exact ⟨.ref q, h1, p H G _ st.f ⟨q, o, rfl, (st.fr q h0).2, (st.fr q h0).1, h2, h3⟩⟩
theorem s_if {t : Expr} {a b : List Stmt} {mt : Ctx.T c → Rs Bool} {m1 m2 : Ctx.T c → Rs (Ctx.T c')} {pos : Pos} (ht : PT X t (tQ F c mt)) (ha : PSs X a (tS F c c' m1)) (hb : PSs X b (tS F c c' m2)) : PS X (.If t a b pos) (tS F c c' fun γ => (mt γ).bind fun x => if x = true then m1 γ else m2 γ) :=
  ps_mono (ps_if ht ha hb) fun D σ H ⟨H0, G0, G, os, γ, st, p⟩ => ⟨H0, G0, G, os, γ, st, p.step st.f.h kF fun v H1 G1 b fr rb p1 => ⟨b, rb, by
    cases b with
    | false => exact ⟨H0, G0, G1, os, γ, st.ext fr, p1⟩
    | true => exact ⟨H0, G0, G1, os, γ, st.ext fr, p1⟩⟩⟩
theorem s_ifG {t : Expr} {a b : List Stmt} {mt : Ctx.T c → Rs Bool} {m1 m2 : Ctx.T c → Rs (Ctx.T c' ⊕ ρ)} {pos : Pos} (ht : PT X t (tQ F c mt)) (ha : PSs X a (tG F kr c c' m1)) (hb : PSs X b (tG F kr c c' m2)) : PS X (.If t a b pos) (tG F kr c c' fun γ => (mt γ).bind fun x => if x = true then m1 γ else m2 γ) :=
  ps_mono (ps_if ht ha hb) fun D σ H ⟨H0, G0, G, os, γ, st, p⟩ => ⟨H0, G0, G, os, γ, st, p.step st.f.h kF fun v H1 G1 b fr rb p1 => ⟨b, rb, by
    cases b with
    | false => exact ⟨H0, G0, G1, os, γ, st.ext fr, p1⟩
    | true => exact ⟨H0, G0, G1, os, γ, st.ext fr, p1⟩⟩⟩
/-- if t: A (which returns); the rest -/
theorem b_ifT {t : Expr} {a : List Stmt} {mt : Ctx.T c → Rs Bool} {m1 m2 : Ctx.T c → Rs ρ} {pos : Pos} (ht : PT X t (tQ F c mt)) (ha : PSs X a (tT F kr c m1)) (hb : PSs X rest (tT F kr c m2)) : PSs X (.If t a [] pos :: rest) (tT F kr c fun γ => (mt γ).bind fun x => if x = true then m1 γ else m2 γ) :=
  pss_mono (pss_cons (ps_if ht ha pss_nil) hb) fun D σ H ⟨H0, G0, G, os, γ, st, p⟩ => ⟨H0, G0, G, os, γ, st, p.step st.f.h kF fun v H1 G1 b fr rb p1 => ⟨b, rb, by
    cases b with
    | false => exact ⟨H0, G0, G1, os, γ, st.ext fr, p1⟩
    | true =>
      refine ⟨H0, G0, G1, os, γ, st.ext fr, ?_⟩
      cases e : m1 γ with
      | no => rw [if_pos rfl, e] at p1; exact p1
      | ex x => rw [if_pos rfl, e] at p1; exact p1
      | ok z => rw [if_pos rfl, e] at p1; exact p1⟩⟩
theorem b_ifG {t : Expr} {a : List Stmt} {mt : Ctx.T c → Rs Bool} {m1 : Ctx.T c → Rs ρ} {m2 : Ctx.T c → Rs (Ctx.T c' ⊕ ρ)} {pos : Pos} (ht : PT X t (tQ F c mt)) (ha : PSs X a (tT F kr c m1)) (hb : PSs X rest (tG F kr c c' m2)) :
    PSs X (.If t a [] pos :: rest) (tG F kr c c' fun γ => (mt γ).bind fun x => if x = true then (m1 γ).bind fun z => .ok (.inr z) else m2 γ) :=
  pss_mono (pss_cons (ps_if ht ha pss_nil) hb) fun D σ H ⟨H0, G0, G, os, γ, st, p⟩ => ⟨H0, G0, G, os, γ, st, p.step st.f.h kF fun v H1 G1 b fr rb p1 => ⟨b, rb, by
    cases b with
    | false => exact ⟨H0, G0, G1, os, γ, st.ext fr, p1⟩
    | true =>
      refine ⟨H0, G0, G1, os, γ, st.ext fr, ?_⟩
      rw [if_pos rfl] at p1
      cases e : m1 γ with
      | no => rw [e] at p1; exact p1
      | ex x => rw [e] at p1; exact p1
      | ok z => rw [e] at p1; exact p1⟩⟩
/-- if t: A else: B, both return -/
theorem b_ifTT {t : Expr} {a b : List Stmt} {mt : Ctx.T c → Rs Bool} {m1 m2 : Ctx.T c → Rs ρ} {pos : Pos} (ht : PT X t (tQ F c mt)) (ha : PSs X a (tT F kr c m1)) (hb : PSs X b (tT F kr c m2)) : PSs X [.If t a b pos] (tT F kr c fun γ => (mt γ).bind fun x => if x = true then m1 γ else m2 γ) :=
  pss_mono (pss_one (ps_if ht ha hb)) fun D σ H ⟨H0, G0, G, os, γ, st, p⟩ => ⟨H0, G0, G, os, γ, st, p.step st.f.h kF fun v H1 G1 b fr rb p1 => ⟨b, rb, by
    cases b with
    | false => exact ⟨H0, G0, G1, os, γ, st.ext fr, p1⟩
    | true => exact ⟨H0, G0, G1, os, γ, st.ext fr, p1⟩⟩⟩
/-! ### stores -/
/-- a name is stored: it comes ahead of the others -/
theorem R.push {wd : Wd} {H0 G0 H G : Hp} {σ : L2.St} {n : Nat} {α : Type} [Rep α] {j : Nat} {x : V} {a : α} {os : List Addr} {γ : Ctx.T c'} (st : Stt wd n H0 G0 σ H G os c' γ) (hj : j < n) (hn : Ctx.not j c' = true) (w : rep wd G x a) :
    Stt wd n H0 G0 (σ.set j (some x)) H G os (.fz j α :: c') (a, γ) :=
  ⟨by rw [List.length_set]; exact st.len, st.f, st.nd, st.fr, ⟨x, List.getElem?_set_self (by rw [st.len]; exact hj), w⟩, st.r.set hn⟩
theorem R.pushO {wd : Wd} {H0 G0 H G : Hp} {σ : L2.St} {n : Nat} {β : Type} [Own β] {j : Nat} {p : Addr} {o : HO} {b : β} {os : List Addr} {γ : Ctx.T c'} (st : Stt wd n H0 G0 σ H G os c' γ) (hj : j < n) (hn : Ctx.not j c' = true) (hp : p ∉ os) (h0 : H0 p = none) (g : G p = none) (h : H p = some o) (w : own wd G o b) :
    Stt wd n H0 G0 (σ.set j (some (.ref p))) H G (p :: os) (.ow j β :: c') (b, γ) :=
  ⟨by rw [List.length_set]; exact st.len, st.f, List.nodup_cons.mpr ⟨hp, st.nd⟩, fun q hq => by
    rcases List.mem_cons.mp hq with e | e
    · rw [e]; exact ⟨g, h0⟩
    · exact st.fr q e, p, o, os, rfl, List.getElem?_set_self (by rw [st.len]; exact hj), h, w, st.r.set hn⟩
theorem s_setT [Rep α] {st : Stmt} {te : TE} {m : Ctx.T c → Rs α} {j : Nat} (h : PS X st (tAsg te (gName j))) (he : ∀ σ H Q, tX F kF c m σ H Q → te σ H Q) (s : Sub c c') (hj : j < F.n) (hn : Ctx.not j c' = true) : PS X st (tS F c (.fz j α :: c') fun γ => (m γ).bind fun a => .ok (a, s.proj γ)) :=
  ps_mono h fun D σ H ⟨H0, G0, G, os, γ, st, p⟩ => he _ _ _ ⟨H0, G0, G, os, γ, st, p.step st.f.h kF fun v H1 G1 a fr ra p1 => by
    obtain ⟨os', _, q⟩ := (st.ext fr).sub s
    exact p1 _ _ _ _ (R.push q hj hn ra)⟩
theorem s_setTO {β : Type} [Own β] {st : Stmt} {te : TE} {m : Ctx.T c → Rs β} {j : Nat} (h : PS X st (tAsg te (gName j))) (he : ∀ σ H Q, tX F kO c m σ H Q → te σ H Q) (s : Sub c c') (hj : j < F.n) (hn : Ctx.not j c' = true) : PS X st (tS F c (.ow j β :: c') fun γ => (m γ).bind fun a => .ok (a, s.proj γ)) :=
  ps_mono h fun D σ H ⟨H0, G0, G, os, γ, st, p⟩ => he _ _ _ ⟨H0, G0, G, os, γ, st, p.step st.f.h kO fun v H1 G1 a fr ⟨q, o, ev, n, g, hq, w⟩ p1 => by
    obtain ⟨os', hs, st'⟩ := (st.ext fr).sub s
    subst ev
    refine p1 _ _ _ _ (R.pushO st' hj hn (fun z => ?_) (st.f.h.free n) g hq w)
    obtain ⟨o2, h2⟩ := st.r.there q (hs.subset z)
    rw [n] at h2
    cases h2⟩
/-- a name of the same kind is stored anew, in its place -/
theorem s_updT [Rep α] {st : Stmt} {te : TE} {m : Ctx.T c → Rs α} {j : Nat} (h : PS X st (tAsg te (gName j))) (he : ∀ σ H Q, tX F kF c m σ H Q → te σ H Q) (v : Var c (.fz j α)) (hj : j < F.n) (hn : (c.map Ent.slot).Nodup) : PS X st (tS F c c fun γ => (m γ).bind fun a => .ok (v.put γ a)) :=
  ps_mono h fun D σ H ⟨H0, G0, G, os, γ, st, p⟩ => he _ _ _ ⟨H0, G0, G, os, γ, st, p.step st.f.h kF fun x H1 G1 a fr ra p1 => by
    have q := st.ext fr
    exact p1 _ _ _ _ ⟨by rw [List.length_set]; exact q.len, q.f, q.nd, q.fr, v.restore hn ra (by rw [q.len]; exact hj) q.r⟩⟩
end
end Wm
set_option Elab.async false
set_option linter.all false
set_option maxRecDepth 100000
set_option maxHeartbeats 4000000
namespace Wm
open PySem PySem.Spec PyProof.Rows L2
open Rep (rep)
open Own (own)
/-! ### what is walked -/
/-- from any heap that holds B the iterator J walks xs -/
structure Wk (wd : Wd) (J : It) (B : Hp) (G1 : Hp) {α : Type} [Rep α] (xs : List α) : Prop where
  stop : ∀ i H, Same B H → xs.length ≤ i → J.stop i H
  go : ∀ i H a, Same B H → xs[i]? = some a → J.go i H
  yld : ∀ i H G x H' a, Same B H → Same G1 G → Same G H → xs[i]? = some a → J.yld i H x H' → ∃ G', Fr H G H' G' ∧ rep wd G' x a
/-- the base: the frozen part (g), the whole heap as the walk begins (h), the heap at the def's entry (z) -/
inductive Bs where
  | g | h | z
@[reducible] def Bs.at (b : Bs) (G H H0 : Hp) : Hp := match b with
  | .g => G
  | .h => H
  | .z => H0
def tI (F : Fx) (fr : Bs) {α : Type} [Rep α] (c : Ctx) (m : Ctx.T c → Rs (List α)) : TI := fun σ H Rr => ∃ H0 G0 G os γ, Stt F.wd F.n H0 G0 σ H G os c γ ∧
  match m γ with
  | .ok xs => ∀ H' G' J, Fr H G H' G' → Wk F.wd J (fr.at G' H' H0) G' xs → Rr J H'
  | .ex x => ∀ d H', Same H H' → RepX H' d x → F.W (.ref (F.wd.cm x.cls)) d σ H'
  | .no => False
theorem pi_mono {X : Cx} {tg it : Expr} {t t' : TI} (h : PI X tg it t) (i : ∀ σ H Q, t' σ H Q → t σ H Q) : PI X tg it t' := ⟨fun pins s σ H Q I q => h.run pins s σ H Q I (i σ H Q q)⟩
section
variable {X : Cx} {F : Fx} {c : Ctx} {α β : Type} {tg e : Expr}
theorem tI_of [Rep α] {β : Type} {fr : Bs} {k : Kd F.wd β} {m : Ctx.T c → Rs β} {f : β → Rs (List α)} {σ : L2.St} {H : Hp} {Rr : It → Hp → Prop} {Q : VK} (h : tI F fr c (fun γ => (m γ).bind f) σ H Rr)
    (i : ∀ v H0 H1 G1 b, Same H0 H1 → Same G1 H1 → k.rel H H1 G1 v b → (match f b with | .ok xs => ∀ J, Wk F.wd J (fr.at G1 H1 H0) G1 xs → Rr J H1 | .ex _ => True | .no => False) → Q v H1) (nx : ∀ b x, f b ≠ .ex x) : tX F k c m σ H Q := by
  obtain ⟨H0, G0, G, os, γ, st, p⟩ := h
  refine ⟨H0, G0, G, os, γ, st, ?_⟩
  dsimp only at p
  cases e : m γ with
  | no => rw [e] at p; exact p
  | ex x => rw [e] at p; exact p
  | ok b =>
    rw [e] at p
    refine fun H1 G1 v f1 r => i v H0 H1 G1 b (st.f.h.trans f1.h) f1.gh r ?_
    have p' : match f b with | .ok xs => ∀ H' G' J, Fr H G H' G' → Wk F.wd J (fr.at G' H' H0) G' xs → Rr J H' | .ex x => ∀ d H', Same H H' → RepX H' d x → F.W (.ref (F.wd.cm x.cls)) d σ H' | .no => False := p
    cases e2 : f b with
    | no => rw [e2] at p'; exact p'
    | ex x => exact trivial
    | ok xs =>
      rw [e2] at p'
      exact fun J w => p' H1 G1 J f1 w
theorem wk_list {K : PySem.W.Frag} {wd : Wd} (hK : wd.K = K) [Rep α] {p : Addr} {vs : List V} {B G1 : Hp} {xs : List α} (hp : B p = some (.lst vs)) (r : reps wd G1 vs xs) : Wk wd (Itl K p) B G1 xs where
  stop := fun i H s hi => ⟨vs, .of (s _ _ hp), by rw [r.len]; exact hi⟩
  go := fun i H a s ha => by
    obtain ⟨v, hv, _⟩ := r.get ha
    exact ⟨vs, v, .of (s _ _ hp), hv⟩
  yld := fun i H G x H' a s g gh ha ⟨e, y⟩ => by
    subst e
    obtain ⟨v, hv, hr⟩ := r.get ha
    have := y vs (.of (s _ _ hp))
    rw [hv] at this
    cases this
    exact ⟨G, Fr.refl gh, Rep.mono g hr⟩
/-- a frozen list; any list that is only read meanwhile -/
theorem i_list [Rep α] {m : Ctx.T c → Rs (List α)} (hK : F.wd.K = X.K) (h : PE X e (tX F kF c m)) : PI X tg e (tI F .g c fun γ => (m γ).bind .ok) :=
  pi_mono (pi_list h) fun σ H Rr q => tI_of q (fun v H0 H1 G1 b h0 gh ⟨p, o, e1, e2, vs, e3, e4, e5⟩ w => by
    subst e3
    exact ⟨p, e1, ⟨vs, .of (gh _ _ e2)⟩, w _ (wk_list hK e2 e5)⟩) fun _ _ z => nomatch z
theorem i_listB [Rep α] {m : Ctx.T c → Rs (List α)} (hK : F.wd.K = X.K) (h : PE X e (tX F kB c m)) : PI X tg e (tI F .h c fun γ => (m γ).bind .ok) :=
  pi_mono (pi_list h) fun σ H Rr q => tI_of q (fun v H0 H1 G1 b h0 gh ⟨p, o, e1, e2, vs, e3, e4, e5⟩ w => by
    subst e3
    exact ⟨p, e1, ⟨vs, .of e2⟩, w _ (wk_list hK e2 e5)⟩) fun _ _ z => nomatch z
theorem i_bo [Rep α] {i : Nat} (v : Var c (.bo i (List α))) {x : Str} {pos : Pos} (hK : F.wd.K = X.K) (hN : X.N[i]? = some x := by rfl) (hv : Vis X.env.scope x := by first | exact Or.inl rfl | exact Or.inr (Or.inl rfl) | exact Or.inr (Or.inr rfl))
    (hd : (x == ("__debug__" : Str)) = false := by decide) (hcd : (x == ("__classdict__" : Str)) = false := by decide) : PI X tg (.Name x pos) (tI F .z c fun γ => .ok (v.get γ)) :=
  pi_mono (pi_list (pe_var hN hv hd hcd)) fun σ H Rr ⟨H0, G0, G, os, γ, st, p⟩ => by
    obtain ⟨q, o, h1, h2, vs, e3, e4, r⟩ := v.bo st.r
    subst e3
    exact ⟨.ref q, h1, q, rfl, ⟨vs, .of (st.f.h _ _ h2)⟩, p H G _ (Fr.refl st.f.gh) (wk_list hK h2 r)⟩
theorem i_tup [Rep α] {fr : Bs} {m : Ctx.T c → Rs (Tup α)} (hfr : fr = .g ∨ fr = .h) (hK : F.wd.K = X.K) (h : PE X e (tX F kF c m)) : PI X tg e (tI F fr c fun γ => (m γ).bind fun t => .ok t.items) :=
  pi_mono (pi_tup h) fun σ H Rr q => tI_of q (fun v H0 H1 G1 b h0 gh ⟨p, o, e1, e2, vs, e3, e4, r⟩ w => by
    subst e3
    refine ⟨p, e1, ⟨vs, .of (gh _ _ e2)⟩, w _ ?_⟩
    have hp : ∀ H, Same (fr.at G1 H1 H0) H → H p = some (.tup vs) := fun H s => by
      cases hfr with
      | inl q => subst q; exact s _ _ e2
      | inr q => subst q; exact s _ _ (gh _ _ e2)
    exact {
      stop := fun i H s hi => ⟨vs, .of (hp H s), by rw [r.len]; exact hi⟩
      go := fun i H a s ha => by
        obtain ⟨v, hv, _⟩ := r.get ha
        exact ⟨vs, v, .of (hp H s), hv⟩
      yld := fun i H G x H' a s g gh ha ⟨e, y⟩ => by
        subst e
        obtain ⟨v, hv, hr⟩ := r.get ha
        have := y vs (.of (hp _ s))
        rw [hv] at this
        cases this
        exact ⟨G, Fr.refl gh, Rep.mono g hr⟩ }) fun _ _ z => nomatch z
def rng (lo hi : Int) : List Int := (List.range (hi - lo).toNat).map fun (i : Nat) => lo + (i : Int)
theorem rng_len (lo hi : Int) : (rng lo hi).length = (hi - lo).toNat := by unfold rng; rw [List.length_map, List.length_range]
theorem rng_get {lo hi : Int} {i : Nat} {a : Int} (h : (rng lo hi)[i]? = some a) : i < (hi - lo).toNat ∧ a = lo + i := by
  unfold rng at h
  rw [List.getElem?_map] at h
  by_cases hi' : i < (hi - lo).toNat
  · rw [List.getElem?_range hi'] at h
    exact ⟨hi', (Option.some.inj h).symm⟩
  · rw [List.getElem?_eq_none (by rw [List.length_range]; omega)] at h
    cases h
/-- range's bounds; ok: also as a list -/
def Rng (lo hi : Int) : Rs (List Int) := if -4611686018427387904 ≤ lo ∧ lo ≤ 4611686018427387903 ∧ -4611686018427387904 ≤ hi ∧ hi ≤ 4611686018427387903 then .ok (rng lo hi) else .no
theorem wk_rng {wd : Wd} {lo hi : Int} {B G1 : Hp} : Wk wd (Itr lo (hi - lo).toNat) B G1 (rng lo hi) where
  stop := fun i H s h => by rw [rng_len] at h; exact h
  go := fun i H a s h => (rng_get h).1
  yld := fun i H G x H' a s g gh h ⟨e, y⟩ => by
    subst e
    exact ⟨G, Fr.refl gh, by rw [y, (rng_get h).2]; rfl⟩
theorem i_rng1 {fr : Bs} {m : Ctx.T c → Rs Int} {p pos : Pos} (hg : Gl X "range") (hm : X.mg "range" = none) (h : PE X e (tX F kF c m)) (he : starEach (e :: []) X.env = (false, eval e X.env) :: starEach [] X.env := by rfl) (hs : starEach [e] X.env = [(false, eval e X.env)] := by rfl) :
    PI X tg (.Call (.Name "range" p) [e] [] pos) (tI F fr c fun γ => (m γ).bind fun n => Rng 0 n) :=
  pi_mono (pi_range1 hg hm (pa_cons h pa_nil he) hs) fun σ H Rr q => tI_of (k := kF) q (fun v H0 H1 G1 b h0 gh r w => by
    unfold Rng at w
    by_cases hb : -4611686018427387904 ≤ (0 : Int) ∧ (0 : Int) ≤ 4611686018427387903 ∧ -4611686018427387904 ≤ b ∧ b ≤ 4611686018427387903
    · rw [if_pos hb] at w
      refine ⟨b, by rw [show v = V.int b from r], by omega, by omega, ?_⟩
      have := w _ (wk_rng (wd := F.wd) (lo := 0) (hi := b))
      rwa [Int.sub_zero] at this
    · rw [if_neg hb] at w
      exact w.elim) fun b x => by unfold Rng; split <;> exact fun z => nomatch z
theorem i_rng2 {fr : Bs} {e2 : Expr} {m m2 : Ctx.T c → Rs Int} {p pos : Pos} (hg : Gl X "range") (hm : X.mg "range" = none) (h : PE X e (tX F kF c m)) (h2 : PE X e2 (tX F kF c m2)) (he : starEach (e :: e2 :: []) X.env = (false, eval e X.env) :: starEach (e2 :: []) X.env := by rfl) (he2 : starEach (e2 :: []) X.env = (false, eval e2 X.env) :: starEach [] X.env := by rfl) (hs : starEach [e, e2] X.env = [(false, eval e X.env), (false, eval e2 X.env)] := by rfl) (hs2 : starEach [e2] X.env = [(false, eval e2 X.env)] := by rfl) :
    PI X tg (.Call (.Name "range" p) [e, e2] [] pos) (tI F fr c fun γ => (m γ).bind fun a => (m2 γ).bind fun b => Rng a b) :=
  pi_mono (pi_range2 hg hm (pa_cons h (pa_cons h2 pa_nil he2) he) hs hs2) fun σ H Rr q => by
    obtain ⟨H0, G0, G, os, γ, st, p⟩ := q
    refine ⟨H0, G0, G, os, γ, st, ?_⟩
    dsimp only at p
    cases e1 : m γ with
    | no => rw [e1] at p; exact p
    | ex x => rw [e1] at p; exact p
    | ok a =>
      rw [e1] at p
      refine fun H1 G1 v f1 r => ⟨H0, G0, G1, os, γ, st.ext f1, ?_⟩
      cases e2 : m2 γ with
      | no => rw [e2] at p; exact p
      | ex x =>
        rw [e2] at p
        exact fun d H2 s z => p d H2 (f1.h.trans s) z
      | ok b =>
        simp only [e2] at p
        dsimp only [Rs.bind] at p
        refine fun H2 G2 w f2 r2 => ⟨a, b, by rw [show v = V.int a from r, show w = V.int b from r2], ?_⟩
        unfold Rng at p
        by_cases hb : -4611686018427387904 ≤ a ∧ a ≤ 4611686018427387903 ∧ -4611686018427387904 ≤ b ∧ b ≤ 4611686018427387903
        · rw [if_pos hb] at p
          exact ⟨⟨by omega, by omega, by omega, by omega⟩, p H2 G2 _ (f1.trans f2) wk_rng⟩
        · rw [if_neg hb] at p
          exact p.elim
/-- enumerate of a frozen list -/
def enumI {α : Type} (xs : List α) : List (Int × α) := (xs.zipIdx 0).map fun p => ((p.2 : Int), p.1)
theorem enumI_get {α : Type} {xs : List α} {i : Nat} {q : Int × α} : (enumI xs)[i]? = some q ↔ q.1 = (i : Int) ∧ xs[i]? = some q.2 := by
  unfold enumI
  rw [List.getElem?_map, List.getElem?_zipIdx]
  cases e : xs[i]? with
  | none => simp
  | some x =>
    simp only [Option.map_some, Nat.zero_add, Option.some.injEq]
    constructor
    · intro h; rw [← h]; exact ⟨rfl, rfl⟩
    · intro h; obtain ⟨h1, h2⟩ := h; obtain ⟨q1, q2⟩ := q; simp only at h1 h2; rw [h1, h2]
theorem enumI_len {α : Type} (xs : List α) : (enumI xs).length = xs.length := by unfold enumI; rw [List.length_map, List.length_zipIdx]
theorem i_enum [Rep α] {m : Ctx.T c → Rs (List α)} {p pos tpos : Pos} {elts : List Expr} {kk : Nat} (hK : F.wd.K = X.K) (hg : Gl X "enumerate") (hm : X.mg "enumerate" = none) (h : PE X e (tX F kF c m)) (he : starEach (e :: []) X.env = (false, eval e X.env) :: starEach [] X.env := by rfl) (hs : starEach [e] X.env = [(false, eval e X.env)] := by rfl) :
    PI X (.Tuple elts kk tpos) (.Call (.Name "enumerate" p) [e] [] pos) (tI F .g c fun γ => (m γ).bind fun xs => .ok (enumI xs)) :=
  pi_mono (pi_enum hg hm (pa_cons h pa_nil he) hs) fun σ H Rr q => tI_of (k := kF) q (fun v H0 H1 G1 b h0 gh ⟨p, o, e1, e2, vs, e3, e4, r⟩ w => by
    subst e3
    refine ⟨p, vs, by rw [e1], .of (gh _ _ e2), w _ ?_⟩
    exact {
      stop := fun i H s hi => ⟨vs, .of (s _ _ e2), by rw [r.len]; rw [enumI_len] at hi; exact hi⟩
      go := fun i H a s ha => by
        obtain ⟨v, hv, _⟩ := r.get (enumI_get.mp ha).2
        exact ⟨vs, v, .of (s _ _ e2), hv⟩
      yld := fun i H G x H' a s g gh ha ⟨T, y, ex, nT, eH, hy⟩ => by
        subst eH
        obtain ⟨a1, a2⟩ := enumI_get.mp ha
        obtain ⟨v, hv, hr⟩ := r.get a2
        obtain rfl : v = y := Option.some.inj (hv.symm.trans (hy vs (.of (s _ _ e2))))
        refine ⟨upd G T _, (Fr.alloc gh nT).freeze nT ?_ upd_same, T, _, ex, upd_same, .int (i : Nat), v, rfl, by rw [a1]; rfl, ?_⟩
        · cases e : G T with
          | none => rfl
          | some o => rw [gh _ _ e] at nT; cases nT
        · refine Rep.mono (Same.upd' g ?_) hr
          cases e : G1 T with
          | none => rfl
          | some o => rw [gh _ _ (g _ _ e)] at nT; cases nT }) fun _ _ z => nomatch z
def chars (x : Str) : List Str := x.cps.toList.map fun c => ⟨#[c]⟩
theorem SOk.one {c : Nat} (h : c < 1114112) : SOk ⟨#[c]⟩ := ⟨by show 1 ≤ 16777216; decide, fun d hd => by
  have : d = c := by simpa using hd
  rw [this]; exact h⟩
theorem i_str {fr : Bs} {m : Ctx.T c → Rs Str} (h : PE X e (tX F kF c m)) : PI X tg e (tI F fr c fun γ => (m γ).bind fun x => .ok (chars x)) :=
  pi_mono (pi_str h) fun σ H Rr q => tI_of (k := kF) q (fun v H0 H1 G1 b h0 gh r w => ⟨b, r.1, w _ {
      stop := fun i H s hi => by
        unfold chars at hi
        rw [List.length_map, Array.length_toList] at hi
        exact hi
      go := fun i H a s ha => by
        have : i < (chars b).length := (List.getElem?_eq_some_iff.mp ha).1
        unfold chars at this
        rw [List.length_map, Array.length_toList] at this
        exact this
      yld := fun i H G x H' a s g gh ha ⟨eH, ch, hc, ex⟩ => by
        subst eH
        refine ⟨G, Fr.refl gh, ?_⟩
        unfold chars at ha
        rw [List.getElem?_map, Array.getElem?_toList, hc] at ha
        rw [ex, ← Option.some.inj ha]
        refine ⟨rfl, SOk.one (r.2.2 ch ?_)⟩
        rw [← Array.getElem?_toList] at hc
        exact List.mem_of_getElem? hc }⟩) fun _ _ z => nomatch z
end
/-! ### targets -/
def TgtOk (F : Fx) (g : TG) {α : Type} [Rep α] (c c1 : Ctx) (push : α → Ctx.T c → Ctx.T c1) : Prop :=
  ∀ {H0 G0 : Hp} {σ : L2.St} {H G : Hp} {os : List Addr} {γ : Ctx.T c} {v : V} {a : α} {Q : L2.St → Hp → Prop}, Stt F.wd F.n H0 G0 σ H G os c γ → rep F.wd G v a → (∀ σ', Stt F.wd F.n H0 G0 σ' H G os c1 (push a γ) → Q σ' H) → g v σ H Q
section
variable {X : Cx} {F : Fx} {c c1 : Ctx} {α β ρ : Type}
theorem g_name [Rep α] {j : Nat} (hj : j < F.n) (hn : Ctx.not j c = true) : TgtOk F (gName j) (α := α) c (.fz j α :: c) fun a γ => (a, γ) := fun st r q => q _ (R.push st hj hn r)
theorem g_pair [Rep α] [Rep β] {i j : Nat} {K : PySem.W.Frag} (hi : i < F.n) (hj : j < F.n) (hn : Ctx.not i c = true) (hm : Ctx.not j (.fz i α :: c) = true) :
    TgtOk F (gTup K 2 (gCons (gName i) (gCons (gName j) gNil))) (α := α × β) c (.fz j β :: .fz i α :: c) fun a γ => (a.2, a.1, γ) := fun {H0 G0 σ H G os γ v a Q} st r q => by
  obtain ⟨p, o, e1, e2, v1, v2, e3, r1, r2⟩ := r
  subst e3
  exact ⟨p, [v1, v2], e1, .of (st.f.gh _ _ e2), rfl, v1, [v2], rfl, v2, [], rfl, rfl, q _ (R.push (R.push st hi hn r1) hj hm r2)⟩
/-! ### for -/
theorem for_any {J : It} {g : TG} {tb : TS} {D : Ends} {σ : L2.St} {H : Hp} {n : Nat} (Pv : Nat → L2.St → Hp → Prop) (h0 : Pv 0 σ H)
    (hs : ∀ i σ H, i < n → Pv i σ H → J.go i H ∧ ∀ x H', J.yld i H x H' → g x σ H' fun σ2 H2 => tb { D with nx := Pv (i + 1), ct := Pv (i + 1), bk := D.nx } σ2 H2) (hd : ∀ σ H, Pv n σ H → J.stop n H ∧ D.nx σ H) :
    ∃ W : Nat → Nat → L2.St → Hp → Prop, (∃ m, W 0 m σ H) ∧ ∀ i m σ H, W i m σ H →
      (J.stop i H ∧ D.nx σ H) ∨ (J.go i H ∧ ∃ N : L2.St → Hp → Prop, (∀ σ' H', N σ' H' → ∃ m', m' < m ∧ W (i + 1) m' σ' H') ∧ ∀ x H', J.yld i H x H' → g x σ H' fun σ2 H2 => tb { D with nx := N, ct := N, bk := D.nx } σ2 H2) := by
  refine ⟨fun i m σ H => m = n - i ∧ i ≤ n ∧ Pv i σ H, ⟨n, by simp, Nat.zero_le _, h0⟩, ?_⟩
  rintro i m σ H ⟨rfl, hi, p⟩
  by_cases hlt : i < n
  · obtain ⟨q1, q2⟩ := hs i σ H hlt p
    exact .inr ⟨q1, Pv (i + 1), fun σ' H' p' => ⟨n - (i + 1), by omega, rfl, hlt, p'⟩, q2⟩
  · have e : i = n := by omega
    subst e
    exact .inl (hd σ H p)
theorem drop_get {α : Type} {xs : List α} {i : Nat} (h : i < xs.length) : ∃ a, xs[i]? = some a ∧ xs.drop i = a :: xs.drop (i + 1) := by
  refine ⟨xs[i], List.getElem?_eq_getElem h, List.drop_eq_getElem_cons h⟩
theorem Fr.base {H0 G0 H G H' G' : Hp} (a : Fr H0 G0 H G) (b : Fr H0 G H' G') : Fr H0 G0 H' G' :=
  ⟨b.h, a.g.trans b.g, b.gh, fun x o e => by
    rcases b.new x o e with q | q
    · exact a.new x o q
    · exact .inr q⟩
theorem Stt.rebase {wd : Wd} {n : Nat} {H0 G0 H G : Hp} {σ : L2.St} {os : List Addr} {γ : Ctx.T c} (s : Stt wd n H0 G0 σ H G os c γ) : Stt wd n H0 G σ H G os c γ :=
  ⟨s.len, ⟨s.f.h, Same.refl _, s.f.gh, fun _ _ e => .inl e⟩, s.nd, s.fr, s.r⟩
theorem Stt.unbase {wd : Wd} {n : Nat} {H0 G0 H G H' G' : Hp} {σ : L2.St} {os : List Addr} {γ : Ctx.T c} (s : Stt wd n H0 G σ H' G' os c γ) (f : Fr H0 G0 H G) : Stt wd n H0 G0 σ H' G' os c γ :=
  ⟨s.len, f.base s.f, s.nd, s.fr, s.r⟩
theorem s_for [Rep α] {tg iter : Expr} {body : List Stmt} {pos : Pos} {g : TG} {mL : Ctx.T c → Rs (List α)} {mb : Ctx.T c1 → Rs (Ctx.T c)} {push : α → Ctx.T c → Ctx.T c1} (hp : PassesOwn (model X.prog X.w) X.A X.env X.xe) (hc : X.calm = true)
    {fr : Bs} (hfr : fr = .g ∨ fr = .z) (hi : PI X tg iter (tI F fr c mL)) (hg : PG X tg g) (ht : TgtOk F g c c1 push) (hb : PSs X body (tS F c1 c mb)) (hs : ∀ x, foldedSetIterable iter X.env x = pure x := by intro _; rfl) :
    PS X (.For tg iter body [] pos) (tS F c c fun γ => (mL γ).bind fun xs => Rs.fold (fun γ x => mb (push x γ)) γ xs) :=
  ps_mono (ps_for hp hc hi hg hb hs) fun D σ H ⟨H0, G0, G, os, γ, st, p⟩ => ⟨H0, G0, G, os, γ, st, by
    dsimp only at p
    cases e : mL γ with
    | no => rw [e] at p; exact p
    | ex x => rw [e] at p; exact fun d H2 s z => p d σ H2 (st.f.h.trans s) z
    | ok xs =>
      rw [e] at p
      refine fun H1 G1 J f w => for_any (n := xs.length) (fun i σ' H' => ∃ G' os' γ', Stt F.wd F.n H0 G0 σ' H' G' os' c γ' ∧ Same G1 G' ∧ PostN F H0 G0 c D (Rs.fold (fun γ x => mb (push x γ)) γ' (xs.drop i)))
        ⟨G1, os, γ, st.ext f, Same.refl _, p⟩ ?_ ?_
      · rintro i σ' H' hi ⟨G', os', γ', st', sg, p'⟩
        obtain ⟨a, ha, hd⟩ := drop_get hi
        rw [hd] at p'
        have hB : Same (fr.at G1 H1 H0) H' := by
          cases hfr with
          | inl q => subst q; exact sg.trans st'.f.gh
          | inr q => subst q; exact st'.f.h
        refine ⟨w.go i H' a hB ha, fun x H2 hy => ?_⟩
        obtain ⟨G2, f2, r2⟩ := w.yld i H' G' x H2 a hB sg st'.f.gh ha hy
        refine ht (st'.ext f2) r2 fun σ3 st3 => ⟨H0, G2, G2, os', _, st3.rebase, ?_⟩
        have p2 : PostN F H0 G0 c D ((mb (push a γ')).bind fun g' => Rs.fold (fun γ x => mb (push x γ)) g' (xs.drop (i + 1))) := p'
        cases e2 : mb (push a γ') with
        | no => rw [e2] at p2; exact p2
        | ex x => rw [e2] at p2; exact p2
        | ok g' =>
          rw [e2] at p2
          exact fun σ4 H4 G4 os4 st4 => ⟨G4, os4, g', st4.unbase st3.f, sg.trans (f2.g.trans st4.f.g), p2⟩
      · rintro σ' H' ⟨G', os', γ', st', sg, p'⟩
        rw [List.drop_length] at p'
        have hB : Same (fr.at G1 H1 H0) H' := by
          cases hfr with
          | inl q => subst q; exact sg.trans st'.f.gh
          | inr q => subst q; exact st'.f.h
        exact ⟨w.stop _ H' hB (Nat.le_refl _), p' _ _ _ _ st'⟩⟩
theorem s_forG [Rep α] {kr : Kd F.wd ρ} {tg iter : Expr} {body : List Stmt} {pos : Pos} {g : TG} {mL : Ctx.T c → Rs (List α)} {mb : Ctx.T c1 → Rs (Ctx.T c ⊕ ρ)} {push : α → Ctx.T c → Ctx.T c1} (hp : PassesOwn (model X.prog X.w) X.A X.env X.xe) (hc : X.calm = true)
    {fr : Bs} (hfr : fr = .g ∨ fr = .z) (hi : PI X tg iter (tI F fr c mL)) (hg : PG X tg g) (ht : TgtOk F g c c1 push) (hb : PSs X body (tG F kr c1 c mb)) (hs : ∀ x, foldedSetIterable iter X.env x = pure x := by intro _; rfl) :
    PS X (.For tg iter body [] pos) (tG F kr c c fun γ => (mL γ).bind fun xs => Rs.foldR (fun γ x => mb (push x γ)) γ xs) :=
  ps_mono (ps_for hp hc hi hg hb hs) fun D σ H ⟨H0, G0, G, os, γ, st, p⟩ => ⟨H0, G0, G, os, γ, st, by
    dsimp only at p
    cases e : mL γ with
    | no => rw [e] at p; exact p
    | ex x => rw [e] at p; exact fun d H2 s z => p d σ H2 (st.f.h.trans s) z
    | ok xs =>
      rw [e] at p
      refine fun H1 G1 J f w => for_any (n := xs.length) (fun i σ' H' => ∃ G' os' γ', Stt F.wd F.n H0 G0 σ' H' G' os' c γ' ∧ Same G1 G' ∧ PostG F kr H0 G0 c D (Rs.foldR (fun γ x => mb (push x γ)) γ' (xs.drop i)))
        ⟨G1, os, γ, st.ext f, Same.refl _, p⟩ ?_ ?_
      · rintro i σ' H' hi ⟨G', os', γ', st', sg, p'⟩
        obtain ⟨a, ha, hd⟩ := drop_get hi
        rw [hd] at p'
        have hB : Same (fr.at G1 H1 H0) H' := by
          cases hfr with
          | inl q => subst q; exact sg.trans st'.f.gh
          | inr q => subst q; exact st'.f.h
        refine ⟨w.go i H' a hB ha, fun x H2 hy => ?_⟩
        obtain ⟨G2, f2, r2⟩ := w.yld i H' G' x H2 a hB sg st'.f.gh ha hy
        refine ht (st'.ext f2) r2 fun σ3 st3 => ⟨H0, G2, G2, os', _, st3.rebase, ?_⟩
        simp only [Rs.foldR] at p'
        cases e2 : mb (push a γ') with
        | no => rw [e2] at p'; exact p'
        | ex x => rw [e2] at p'; exact p'
        | ok z =>
          rw [e2] at p'
          cases z with
          | inl g' => exact fun σ4 H4 G4 os4 st4 => ⟨G4, os4, g', st4.unbase st3.f, sg.trans (f2.g.trans st4.f.g), p'⟩
          | inr r => exact fun H4 G4 v f4 r4 => p' H4 G4 v (st3.f.base f4) r4
      · rintro σ' H' ⟨G', os', γ', st', sg, p'⟩
        rw [List.drop_length] at p'
        have hB : Same (fr.at G1 H1 H0) H' := by
          cases hfr with
          | inl q => subst q; exact sg.trans st'.f.gh
          | inr q => subst q; exact st'.f.h
        exact ⟨w.stop _ H' hB (Nat.le_refl _), p' _ _ _ _ st'⟩⟩
/-! ### while -/
theorem s_while {t : Expr} {body : List Stmt} {pos : Pos} {mt : Ctx.T c → Rs Bool} {mb : Ctx.T c → Rs (Ctx.T c)} (hp : PassesOwn (model X.prog X.w) X.A X.env X.xe) (ht : PT X t (tQ F c mt)) (hb : PSs X body (tS F c c mb)) :
    PS X (.While t body [] pos) (tS F c c fun γ => Rs.whl mt mb γ) :=
  ps_mono (ps_while hp ht hb) fun D σ H ⟨H0, G0, G, os, γ, st, p⟩ => by
    dsimp only at p
    rcases Rs.whl_is (t := mt) (b := mb) (g := γ) with e | ⟨n, e⟩
    · rw [e] at p
      exact p.elim
    · rw [e] at p
      refine ⟨fun n σ' H' => ∃ G' os' γ', Stt F.wd F.n H0 G0 σ' H' G' os' c γ' ∧ PostN F H0 G0 c D (Rs.iter mt mb n γ'), ⟨n, G, os, γ, st, p⟩, ?_⟩
      rintro m σ' H' ⟨G', os', γ', st', p'⟩
      cases m with
      | zero => exact p'.elim
      | succ m =>
        refine ⟨H0, G0, G', os', γ', st', ?_⟩
        have p2 : PostN F H0 G0 c D ((mt γ').bind fun c => if c = true then (mb γ').bind (Rs.iter mt mb m) else .ok γ') := p'
        refine p2.step st'.f.h kF fun v H1 G1 b f1 r1 p3 => ⟨b, r1, ?_⟩
        cases b with
        | false => exact p3 _ _ _ _ (st'.ext f1)
        | true =>
          have p4 : PostN F H0 G0 c D ((mb γ').bind (Rs.iter mt mb m)) := p3
          refine ⟨fun σ' H' => ∃ G' os' γ', Stt F.wd F.n H0 G0 σ' H' G' os' c γ' ∧ PostN F H0 G0 c D (Rs.iter mt mb m γ'), fun σ2 H2 q => ⟨m, Nat.lt_succ_self m, q⟩, H0, G0, G1, os', γ', st'.ext f1, ?_⟩
          exact p4.seqN fun σ H G os γ s2 p5 => ⟨G, os, γ, s2, p5⟩
/-! ### comprehensions -/
theorem comp_any {J : It} {g : TG} {tt : TT} {te : TE} {vs : List Nat} {σ : L2.St} {H1 : Hp} {D : Addr} {Qd : Hp → Prop} {n : Nat} (Pv : Nat → Hp → Prop) (h0 : Pv 0 (upd H1 D (.lst [])))
    (hs : ∀ i H, i < n → Pv i H → J.go i H ∧ ∀ x H', J.yld i H x H' → g x (wipe σ vs) H' fun σ2 H2 => wipe σ2 vs = wipe σ vs ∧ tt σ2 H2 fun b H3 =>
      if b = true then te σ2 H3 fun y H4 => ∃ acc, H4 D = some (.lst acc) ∧ acc.length < sizeLine ∧ Pv (i + 1) (upd H4 D (.lst (acc ++ [y]))) else Pv (i + 1) H3) (hd : ∀ H, Pv n H → J.stop n H ∧ Qd H) :
    ∃ W : Nat → Nat → Hp → Prop, (∃ m, W 0 m (upd H1 D (.lst []))) ∧ ∀ i m H, W i m H →
      (J.stop i H ∧ Qd H) ∨ (J.go i H ∧ ∃ Nx : Hp → Prop, (∀ H', Nx H' → ∃ m', m' < m ∧ W (i + 1) m' H') ∧ ∀ x H', J.yld i H x H' → g x (wipe σ vs) H' fun σ2 H2 => wipe σ2 vs = wipe σ vs ∧ tt σ2 H2 fun b H3 =>
        if b = true then te σ2 H3 fun y H4 => ∃ acc, H4 D = some (.lst acc) ∧ acc.length < sizeLine ∧ Nx (upd H4 D (.lst (acc ++ [y]))) else Nx H3) := by
  refine ⟨fun i m H => m = n - i ∧ i ≤ n ∧ Pv i H, ⟨n, by simp, Nat.zero_le _, h0⟩, ?_⟩
  rintro i m H ⟨rfl, hi, p⟩
  by_cases hlt : i < n
  · obtain ⟨q1, q2⟩ := hs i H hlt p
    exact .inr ⟨q1, Pv (i + 1), fun H' p' => ⟨n - (i + 1), by omega, rfl, hlt, p'⟩, q2⟩
  · have e : i = n := by omega
    subst e
    exact .inl (hd H p)
/-- the target within a comprehension: as TgtOk, and the block's names are the slots vs -/
def TgtC (F : Fx) (g : TG) (vs : List Nat) {α : Type} [Rep α] (c c1 : Ctx) (push : α → Ctx.T c → Ctx.T c1) : Prop :=
  ∀ {H0 G0 : Hp} {σ : L2.St} {H G : Hp} {os : List Addr} {γ : Ctx.T c} {v : V} {a : α} {Q : L2.St → Hp → Prop}, Stt F.wd F.n H0 G0 σ H G os c γ → rep F.wd G v a → (∀ σ', wipe σ' vs = wipe σ vs → Stt F.wd F.n H0 G0 σ' H G os c1 (push a γ) → Q σ' H) → g v σ H Q
theorem gc_name [Rep α] {j : Nat} (hj : j < F.n) (hn : Ctx.not j c = true) : TgtC F (gName j) [j] (α := α) c (.fz j α :: c) fun a γ => (a, γ) := fun {H0 G0 σ H G os γ v a Q} st r q => q _ (by unfold wipe wipe; rw [List.set_set]) (R.push st hj hn r)
theorem gc_pair [Rep α] [Rep β] {i j : Nat} {K : PySem.W.Frag} (hi : i < F.n) (hj : j < F.n) (hij : i ≠ j) (hn : Ctx.not i c = true) (hm : Ctx.not j (.fz i α :: c) = true) :
    TgtC F (gTup K 2 (gCons (gName i) (gCons (gName j) gNil))) [i, j] (α := α × β) c (.fz j β :: .fz i α :: c) fun a γ => (a.2, a.1, γ) := fun {H0 G0 σ H G os γ v a Q} st r q => by
  obtain ⟨p, o, e1, e2, v1, v2, e3, r1, r2⟩ := r
  subst e3
  refine ⟨p, [v1, v2], e1, .of (st.f.gh _ _ e2), rfl, v1, [v2], rfl, v2, [], rfl, rfl, q _ ?_ (R.push (R.push st hi hn r1) hj hm r2)⟩
  unfold wipe wipe wipe
  rw [List.set_set, List.set_comm _ _ hij, List.set_set]
  
theorem wipe_get (σ : L2.St) (i : Nat) : ∀ vs : List Nat, (wipe σ vs)[i]? = if i ∈ vs then (if i < σ.length then some none else none) else σ[i]?
  | [] => by rw [if_neg (by simp)]; rfl
  | v :: vs => by
    have ih := wipe_get σ i vs
    unfold wipe
    by_cases h : v = i
    · subst h
      rw [if_pos List.mem_cons_self]
      by_cases hl : v < σ.length
      · rw [if_pos hl, List.getElem?_set_self (by rw [wipe_length]; exact hl)]
      · rw [if_neg hl, List.getElem?_eq_none (by rw [List.length_set, wipe_length]; omega)]
    · rw [List.getElem?_set_ne h, ih]
      by_cases hm : i ∈ vs
      · rw [if_pos hm, if_pos (List.mem_cons_of_mem _ hm)]
      · rw [if_neg hm, if_neg fun z => (List.mem_cons.mp z).elim (fun q => h q.symm) hm]
theorem wipe_idem (σ : L2.St) (vs : List Nat) : wipe (wipe σ vs) vs = wipe σ vs := by
  apply List.ext_getElem?
  intro i
  rw [wipe_get (wipe σ vs) i vs, wipe_get σ i vs, wipe_length]
  by_cases h : i ∈ vs
  · rw [if_pos h, if_pos h]
  · rw [if_neg h, if_neg h]
def Ctx.nots : List Nat → Ctx → Bool
  | [], _ => true
  | j :: js, c => Ctx.not j c && Ctx.nots js c
theorem R.wipe {wd : Wd} {H0 H G : Hp} {σ : L2.St} : ∀ {vs : List Nat} {c : Ctx} {γ : Ctx.T c} {os : List Addr}, Ctx.nots vs c = true → R wd H0 σ H G c γ os → R wd H0 (L2.wipe σ vs) H G c γ os
  | [], c, γ, os, _, h => h
  | v :: vs, c, γ, os, n, h => by
    have n' : (Ctx.not v c && Ctx.nots vs c) = true := n
    rw [Bool.and_eq_true] at n'
    exact (R.wipe n'.2 h).set n'.1
theorem lc_of [Rep α] [Rep β] {fr : Bs} {g : TG} {vs : List Nat} {c2 : Ctx} {mL : Ctx.T c → Rs (List α)} {mt : Ctx.T c2 → Rs Bool} {me : Ctx.T c2 → Rs β} {push : α → Ctx.T c1 → Ctx.T c2} (s : Sub c c1) (hn : Ctx.nots vs c1 = true) (ht : TgtC F.blk g vs c1 c2 push)
    {σ : L2.St} {H : Hp} {Q : VK} (h : tX F kO c (fun γ => (mL γ).bind fun xs => if xs.length ≤ 16777216 then Rs.comp (fun x => mt (push x (s.proj γ))) (fun x => me (push x (s.proj γ))) xs else .no) σ H Q) :
    tLc (tI F fr c mL) g (tQ F.blk c2 mt) (tX F.blk kF c2 me) vs σ H Q := by
  obtain ⟨H0, G0, G, os, γ, st, p⟩ := h
  refine ⟨H0, G0, G, os, γ, st, ?_⟩
  dsimp only at p
  cases e : mL γ with
  | no => rw [e] at p; exact p
  | ex x => rw [e] at p; exact p
  | ok xs =>
    rw [e] at p
    have p1 : Post F.W (kO (wd := F.wd)) σ H G Q (if xs.length ≤ 16777216 then Rs.comp (fun x => mt (push x (s.proj γ))) (fun x => me (push x (s.proj γ))) xs else .no) := p
    by_cases hz : xs.length ≤ 16777216
    · rw [if_pos hz] at p1
      intro H1 G1 J f w Dl nD
      have st1 := st.ext f
      obtain ⟨os', hs, st2⟩ := st1.sub s
      have gD : G1 Dl = none := f.gh |> fun _ => st1.f.gh.free nD
      have hB : Same (fr.at G1 H1 H0) H1 := by
        cases fr with
        | g => exact st1.f.gh
        | h => exact Same.refl _
        | z => exact st1.f.h
      -- behind i turns: the list so far and what is still wanted
      refine comp_any (n := xs.length) (fun i H' => ∃ (G' : Hp) (ws : List V) (ys : List β), Same H1 H' ∧ Fr H1 G1 H' G' ∧ G' Dl = none ∧ H' Dl = some (.lst ws) ∧ ws.length ≤ i ∧ reps F.wd G' ws ys ∧
          Post F.W (kO (wd := F.wd)) σ H G Q ((Rs.comp (fun x => mt (push x (s.proj γ))) (fun x => me (push x (s.proj γ))) (xs.drop i)).bind fun zs => .ok (ys ++ zs)))
        ⟨G1, [], [], (Fr.alloc st1.f.gh nD).h, Fr.alloc st1.f.gh nD, gD, upd_same, Nat.le_refl _, trivial, ?_⟩ ?_ ?_
      · cases e3 : Rs.comp (fun x => mt (push x (s.proj γ))) (fun x => me (push x (s.proj γ))) xs with
        | no => rw [List.drop_zero, e3]; rw [e3] at p1; exact p1
        | ex x => rw [List.drop_zero, e3]; rw [e3] at p1; exact p1
        | ok zs => rw [List.drop_zero, e3]; rw [e3] at p1; exact p1
      · rintro i H' hi ⟨G', ws, ys, s1, f1, g1, h1, l1, r1, p2⟩
        obtain ⟨a, ha, hd⟩ := drop_get hi
        rw [hd] at p2
        refine ⟨w.go i H' a (hB.trans s1) ha, fun x H2 hy => ?_⟩
        obtain ⟨G2, f2, r2⟩ := w.yld i H' G' x H2 a (hB.trans s1) f1.g f1.gh ha hy
        have f12 := f1.trans f2
        have stw : Stt F.blk.wd F.blk.n H0 G0 (L2.wipe σ vs) H2 G2 os' c1 (s.proj γ) := by
          have q := st2.ext f12
          exact ⟨by rw [wipe_length]; exact q.len, q.f, q.nd, q.fr, R.wipe hn q.r⟩
        refine ht stw r2 fun σ3 ew st3 => ⟨ew.trans (wipe_idem σ vs), H0, G0, G2, os', _, st3, ?_⟩
        have p3 : Post F.W (kO (wd := F.wd)) σ H G Q (((mt (push a (s.proj γ))).nox.bind fun b => if b = true then (me (push a (s.proj γ))).nox.bind fun y => (Rs.comp (fun x => mt (push x (s.proj γ))) (fun x => me (push x (s.proj γ))) (xs.drop (i + 1))).bind fun ys => .ok (y :: ys)
            else Rs.comp (fun x => mt (push x (s.proj γ))) (fun x => me (push x (s.proj γ))) (xs.drop (i + 1))).bind fun zs => .ok (ys ++ zs)) := p2
        cases e4 : mt (push a (s.proj γ)) with
        | no => rw [e4] at p3; exact p3
        | ex x => rw [e4] at p3; exact p3.elim
        | ok b =>
          rw [e4] at p3
          intro H3 G3 v3 f3 r3
          refine ⟨b, r3, ?_⟩
          have f13 := f12.trans f3
          have D3 : H3 Dl = some (.lst ws) := (f2.trans f3).h _ _ h1
          have G3D : G3 Dl = none := (f2.trans f3).out h1 g1
          cases b with
          | false => exact ⟨G3, ws, ys, f13.h, f13, G3D, D3, Nat.le_succ_of_le l1, r1.mono (f2.trans f3).g, p3⟩
          | true =>
            refine ⟨H0, G0, G3, os', _, st3.ext f3, ?_⟩
            have p4 : Post F.W (kO (wd := F.wd)) σ H G Q (((me (push a (s.proj γ))).nox.bind fun y => (Rs.comp (fun x => mt (push x (s.proj γ))) (fun x => me (push x (s.proj γ))) (xs.drop (i + 1))).bind fun ys => .ok (y :: ys)).bind fun zs => .ok (ys ++ zs)) := p3
            cases e5 : me (push a (s.proj γ)) with
            | no => rw [e5] at p4; exact p4
            | ex x => rw [e5] at p4; exact p4.elim
            | ok y =>
              rw [e5] at p4
              intro H4 G4 v4 f4 r4
              have f14 := f13.trans f4
              have D4 : H4 Dl = some (.lst ws) := f4.h _ _ D3
              have G4D : G4 Dl = none := f4.out D3 G3D
              refine ⟨ws, D4, by rw [sizeLine_eq]; omega, G4, ws ++ [v4], ys ++ [y], Same.upd' f14.h nD, ⟨Same.upd' f14.h nD, f14.g, fun b o q => ?_, f14.new⟩, G4D, upd_same, by rw [List.length_append]; exact Nat.succ_le_succ l1, (r1.mono ((f2.trans f3).trans f4).g).snoc r4, ?_⟩
              · rw [upd_ne (ne_of_none q G4D)]
                exact f14.gh _ _ q
              · have p5 : Post F.W (kO (wd := F.wd)) σ H G Q (((Rs.comp (fun x => mt (push x (s.proj γ))) (fun x => me (push x (s.proj γ))) (xs.drop (i + 1))).bind fun ys => .ok (y :: ys)).bind fun zs => .ok (ys ++ zs)) := p4
                cases e6 : Rs.comp (fun x => mt (push x (s.proj γ))) (fun x => me (push x (s.proj γ))) (xs.drop (i + 1)) with
                | no => rw [e6] at p5; exact p5
                | ex x => rw [e6] at p5; exact p5
                | ok zs =>
                  rw [e6] at p5
                  show Post F.W (kO (wd := F.wd)) σ H G Q (.ok ((ys ++ [y]) ++ zs))
                  rw [List.append_assoc]
                  exact p5
      · rintro H' ⟨G', ws, ys, s1, f1, g1, h1, l1, r1, p2⟩
        refine ⟨w.stop _ H' (hB.trans s1) (Nat.le_refl _), ?_⟩
        rw [List.drop_length] at p2
        have p3 : Post F.W (kO (wd := F.wd)) σ H G Q (.ok (ys ++ [])) := p2
        rw [List.append_nil] at p3
        exact p3 H' G' _ (f.trans f1) ⟨Dl, _, rfl, f.h.free nD, g1, h1, ws, rfl, by rw [sizeLine_eq]; omega, r1⟩
    · rw [if_neg hz] at p1
      exact p1.elim
/-- no test -/
theorem pts_yes {X : Cx} {F : Fx} {c : Ctx} : PTs X [] (tQ F.blk c fun _ => .ok true) :=
  ⟨fun pins s σ H Q I h => by
    obtain ⟨H0, G0, G, os, γ, st, p⟩ := h
    obtain ⟨b, e, q⟩ := p H G (.bl true) (Fr.refl st.f.gh) rfl
    cases e
    exact pts_nil.run pins s σ H Q I q⟩
end
end Wm
set_option Elab.async false
set_option linter.all false
set_option maxRecDepth 100000
set_option maxHeartbeats 4000000
namespace Wm
open PySem PySem.Spec PyProof.Rows L2
open Rep (rep)
open Own (own)
/-! ### arguments -/
def RA (wd : Wd) (H G : Hp) : Nat → (Γ : Ctx) → Ctx.T Γ → List V → Prop
  | _, [], _, vs => vs = []
  | j, @Ent.fz i α r :: Γ, g, vs => ∃ v vs', vs = v :: vs' ∧ i = j ∧ r.rep wd G v g.1 ∧ RA wd H G (j + 1) Γ g.2 vs'
  | j, @Ent.bo i β r :: Γ, g, vs => ∃ p o vs', vs = .ref p :: vs' ∧ i = j ∧ H p = some o ∧ r.own wd G o g.1 ∧ RA wd H G (j + 1) Γ g.2 vs'
  | _, @Ent.ow _ _ _ :: _, _, _ => False
  | _, @Ent.oo _ _ _ :: _, _, _ => False
theorem RA.len {wd : Wd} {H G : Hp} : ∀ {j : Nat} {Γ : Ctx} {g : Ctx.T Γ} {vs : List V}, RA wd H G j Γ g vs → vs.length = Γ.length
  | _, [], _, vs, h => by rw [show vs = [] from h]; rfl
  | j, @Ent.fz i α r :: Γ, g, vs, h => by
    obtain ⟨v, vs', rfl, _, _, h⟩ := h
    exact congrArg (· + 1) (RA.len h)
  | j, @Ent.bo i α r :: Γ, g, vs, h => by
    obtain ⟨p, o, vs', rfl, _, _, _, h⟩ := h
    exact congrArg (· + 1) (RA.len h)
  | j, @Ent.ow i α r :: Γ, g, vs, h => h.elim
  | j, @Ent.oo i α r :: Γ, g, vs, h => h.elim
theorem RA.ext {wd : Wd} {H G H' G' : Hp} (h : Same H H') (g : Same G G') : ∀ {j : Nat} {Γ : Ctx} {a : Ctx.T Γ} {vs : List V}, RA wd H G j Γ a vs → RA wd H' G' j Γ a vs
  | _, [], _, vs, q => q
  | j, @Ent.fz i α r :: Γ, a, vs, q => by
    obtain ⟨v, vs', e, e2, e3, q⟩ := q
    exact ⟨v, vs', e, e2, r.mono g e3, RA.ext h g q⟩
  | j, @Ent.bo i α r :: Γ, a, vs, q => by
    obtain ⟨p, o, vs', e, e2, e3, e4, q⟩ := q
    exact ⟨p, o, vs', e, e2, h _ _ e3, r.mono g e4, RA.ext h g q⟩
  | j, @Ent.ow i α r :: Γ, a, vs, q => q.elim
  | j, @Ent.oo i α r :: Γ, a, vs, q => q.elim
theorem RA.r {wd : Wd} {H G : Hp} {σ : L2.St} : ∀ {j : Nat} {Γ : Ctx} {a : Ctx.T Γ} {vs : List V}, (∀ k v, vs[k]? = some v → σ[j + k]? = some (some v)) → RA wd H G j Γ a vs → R wd H σ H G Γ a []
  | _, [], _, vs, _, q => rfl
  | j, @Ent.fz i α r :: Γ, a, vs, k, q => by
    obtain ⟨v, vs', e, e2, e3, q⟩ := q
    subst e; subst e2
    exact ⟨⟨v, by have := k 0 v rfl; rwa [Nat.add_zero] at this, e3⟩, RA.r (fun n w hw => by have := k (n + 1) w hw; rwa [Nat.add_comm n 1, ← Nat.add_assoc] at this) q⟩
  | j, @Ent.bo i α r :: Γ, a, vs, k, q => by
    obtain ⟨p, o, vs', e, e2, e3, e4, q⟩ := q
    subst e; subst e2
    exact ⟨⟨p, o, by have := k 0 _ rfl; rwa [Nat.add_zero] at this, e3, e4⟩, RA.r (fun n w hw => by have := k (n + 1) w hw; rwa [Nat.add_comm n 1, ← Nat.add_assoc] at this) q⟩
  | j, @Ent.ow i α r :: Γ, a, vs, k, q => q.elim
  | j, @Ent.oo i α r :: Γ, a, vs, k, q => q.elim
/-- lists of values: of arguments, of items -/
def tM (F : Fx) {δ : Type} (rel : Hp → Hp → List V → δ → Prop) (c : Ctx) (m : Ctx.T c → Rs δ) : TA := fun σ H Q => ∃ H0 G0 G os γ, Stt F.wd F.n H0 G0 σ H G os c γ ∧
  match m γ with
  | .ok a => ∀ H' G' vs, Fr H G H' G' → rel H' G' vs a → Q vs H'
  | .ex x => ∀ d H', Same H H' → RepX H' d x → F.W (.ref (F.wd.cm x.cls)) d σ H'
  | .no => False
abbrev tA (F : Fx) (c : Ctx) (j : Nat) (Γ : Ctx) (m : Ctx.T c → Rs (Ctx.T Γ)) : TA := tM F (fun H G vs g => RA F.wd H G j Γ g vs) c m
abbrev tL (F : Fx) {α : Type} [Rep α] (n : Nat) (c : Ctx) (m : Ctx.T c → Rs (List α)) : TA := tM F (fun _ G vs as => vs.length = n ∧ reps F.wd G vs as) c m
section
variable {X : Cx} {F : Fx} {c : Ctx} {α β δ ε ρ : Type} {e : Expr} {es : List Expr}
theorem tM_cons {k : Kd F.wd α} {rel : Hp → Hp → List V → δ → Prop} {rel' : Hp → Hp → List V → ε → Prop} {m : Ctx.T c → Rs α} {ms : Ctx.T c → Rs δ} {f : α → δ → ε} (ok : ∀ {B H' G' : Hp} {v : V} {a : α} {vs : List V} {g : δ}, k.rel B H' G' v a → rel H' G' vs g → rel' H' G' (v :: vs) (f a g))
    {σ : L2.St} {H : Hp} {Q : List V → Hp → Prop} (h : tM F rel' c (fun γ => (m γ).bind fun a => (ms γ).bind fun g => .ok (f a g)) σ H Q) : tX F k c m σ H fun v H1 => tM F rel c ms σ H1 fun vs H2 => Q (v :: vs) H2 := by
  obtain ⟨H0, G0, G, os, γ, st, p⟩ := h
  refine ⟨H0, G0, G, os, γ, st, ?_⟩
  dsimp only at p
  cases e : m γ with
  | no => rw [e] at p; exact p
  | ex x => rw [e] at p; exact p
  | ok a =>
    rw [e] at p
    refine fun H1 G1 v f1 r => ⟨H0, G0, G1, os, γ, st.ext f1, ?_⟩
    dsimp only [Rs.bind] at p
    cases e2 : ms γ with
    | no => rw [e2] at p; exact p
    | ex x => rw [e2] at p; exact fun d H2 s z => p d H2 (f1.h.trans s) z
    | ok g =>
      rw [e2] at p
      exact fun H2 G2 vs f2 r2 => p H2 G2 (v :: vs) (f1.trans f2) (ok (k.stay r f2) r2)
theorem tM_nil {rel : Hp → Hp → List V → δ → Prop} {g : δ} (ok : ∀ H G, rel H G [] g) : PA X [] (tM F rel c fun _ => .ok g) :=
  pa_mono pa_nil fun σ H Q ⟨H0, G0, G, os, γ, st, p⟩ => p H G [] (Fr.refl st.f.gh) (ok H G)
theorem a_nil {j : Nat} : PA X [] (tA F c j [] fun _ => .ok ()) := tM_nil fun _ _ => rfl
theorem a_cons [Rep α] {j : Nat} {Γ : Ctx} {m : Ctx.T c → Rs α} {ms : Ctx.T c → Rs (Ctx.T Γ)} (h : PE X e (tX F kF c m)) (hs : PA X es (tA F c (j + 1) Γ ms)) (he : starEach (e :: es) X.env = (false, eval e X.env) :: starEach es X.env := by rfl) :
    PA X (e :: es) (tA F c j (.fz j α :: Γ) fun γ => (m γ).bind fun a => (ms γ).bind fun g => .ok (a, g)) :=
  pa_mono (pa_cons h hs he) fun σ H Q q => tM_cons (f := fun a g => (a, g)) (fun r1 r2 => ⟨_, _, rfl, rfl, r1, r2⟩) q
theorem a_consB [Own β] {j : Nat} {Γ : Ctx} {m : Ctx.T c → Rs β} {ms : Ctx.T c → Rs (Ctx.T Γ)} (h : PE X e (tX F kB c m)) (hs : PA X es (tA F c (j + 1) Γ ms)) (he : starEach (e :: es) X.env = (false, eval e X.env) :: starEach es X.env := by rfl) :
    PA X (e :: es) (tA F c j (.bo j β :: Γ) fun γ => (m γ).bind fun a => (ms γ).bind fun g => .ok (a, g)) :=
  pa_mono (pa_cons h hs he) fun σ H Q q => tM_cons (f := fun a g => (a, g)) (fun ⟨p, o, e1, e2, e3⟩ r2 => ⟨p, o, _, by rw [e1], rfl, e2, e3, r2⟩) q
theorem l_nil [Rep α] : PA X [] (tL F (α := α) 0 c fun _ => .ok []) := tM_nil fun _ _ => ⟨rfl, trivial⟩
theorem l_cons [Rep α] {n : Nat} {m : Ctx.T c → Rs α} {ms : Ctx.T c → Rs (List α)} (h : PE X e (tX F kF c m)) (hs : PA X es (tL F n c ms)) (he : starEach (e :: es) X.env = (false, eval e X.env) :: starEach es X.env := by rfl) :
    PA X (e :: es) (tL F (n + 1) c fun γ => (m γ).bind fun a => (ms γ).bind fun g => .ok (a :: g)) :=
  pa_mono (pa_cons h hs he) fun σ H Q q => tM_cons (f := fun a g => a :: g) (fun r1 r2 => ⟨congrArg (· + 1) r2.1, r1, r2.2⟩) q
theorem tM_post {k : Kd F.wd ρ} {rel : Hp → Hp → List V → δ → Prop} {m : Ctx.T c → Rs δ} {f : δ → Rs ρ} {σ : L2.St} {H : Hp} {Q : VK} {Q' : List V → Hp → Prop} (h : tX F k c (fun γ => (m γ).bind f) σ H Q)
    (i : ∀ vs H1 G1 g, Same G1 H1 → rel H1 G1 vs g → Post F.W k σ H1 G1 Q (f g) → Q' vs H1) : tM F rel c m σ H Q' := by
  obtain ⟨H0, G0, G, os, γ, st, p⟩ := h
  refine ⟨H0, G0, G, os, γ, st, ?_⟩
  dsimp only at p
  cases e : m γ with
  | no => rw [e] at p; exact p
  | ex x => rw [e] at p; exact p
  | ok a =>
    rw [e] at p
    exact fun H1 G1 vs f1 r => i vs H1 G1 a f1.gh r (Post.ext (show Post F.W k σ H G Q (f a) from p) f1)
/-! ### displays -/
theorem small_n {n : Nat} (h : n ≤ 1000) : n ≤ sizeLine := Nat.le_trans h (by decide)
theorem e_lst [Rep α] {n : Nat} {m : Ctx.T c → Rs (List α)} {pos : Pos} (h : PA X es (tL F n c m)) (hn : n ≤ 1000 := by decide) : PE X (.List es pos) (tX F kO c fun γ => (m γ).bind .ok) :=
  pe_mono (pe_lst h) fun σ H Q q => tM_post q fun vs H1 G1 g gh ⟨l, r⟩ p => ⟨by rw [l]; exact small_n hn, fun d nd => p _ _ _ (Fr.alloc gh nd) ⟨d, _, rfl, nd, gh.free nd, upd_same, vs, rfl, by rw [l]; exact small_n hn, r⟩⟩
theorem e_tup [Rep α] {n : Nat} {m : Ctx.T c → Rs (List α)} {pos : Pos} {x1} (h : PA X es (tL F n c m)) (hn : n ≤ 1000 := by decide) : PE X (.Tuple es x1 pos) (tX F kF c fun γ => (m γ).bind fun as => .ok (Tup.mk as)) :=
  pe_mono (pe_tup h) fun σ H Q q => tM_post q fun vs H1 G1 g gh ⟨l, r⟩ p => ⟨by rw [l]; exact small_n hn, fun d nd => p _ _ _ ((Fr.alloc gh nd).freeze nd (gh.free nd) upd_same) ⟨d, _, rfl, upd_same, vs, rfl, by rw [l]; exact small_n hn, r.mono (Same.upd' (Same.refl _) (gh.free nd))⟩⟩
theorem e_pair [Rep α] [Rep β] {a b : Expr} {ma : Ctx.T c → Rs α} {mb : Ctx.T c → Rs β} {pos : Pos} {x1} (ha : PE X a (tX F kF c ma)) (hb : PE X b (tX F kF c mb)) (he : starEach (a :: b :: []) X.env = (false, eval a X.env) :: starEach (b :: []) X.env := by rfl) (he2 : starEach (b :: []) X.env = (false, eval b X.env) :: starEach [] X.env := by rfl) :
    PE X (.Tuple [a, b] x1 pos) (tX F kF c fun γ => (ma γ).bind fun x => (mb γ).bind fun y => .ok (x, y)) :=
  pe_mono (pe_tup (pa_cons ha (pa_cons hb pa_nil he2) he)) fun σ H Q ⟨H0, G0, G, os, γ, st, p⟩ => ⟨H0, G0, G, os, γ, st, p.step kF fun v H1 G1 x f1 r1 p1 => ⟨H0, G0, G1, os, γ, st.ext f1, p1.step kF fun w H2 G2 y f2 r2 p2 => ⟨by show 2 ≤ sizeLine; decide, fun d nd => by
    have s := Same.upd' (o := HO.tup [v, w]) (Same.refl G2) (f2.gh.free nd)
    exact p2 _ _ _ ((Fr.alloc f2.gh nd).freeze nd (f2.gh.free nd) upd_same) ⟨d, _, rfl, upd_same, v, w, rfl, Rep.mono (f2.g.trans s) r1, Rep.mono s r2⟩⟩⟩⟩
theorem e_t3 {γ' : Type} [Rep α] [Rep β] [Rep γ'] {a b d : Expr} {ma : Ctx.T c → Rs α} {mb : Ctx.T c → Rs β} {md : Ctx.T c → Rs γ'} {pos : Pos} {x1} (ha : PE X a (tX F kF c ma)) (hb : PE X b (tX F kF c mb)) (hd : PE X d (tX F kF c md)) (he : starEach (a :: b :: d :: []) X.env = (false, eval a X.env) :: starEach (b :: d :: []) X.env := by rfl) (he2 : starEach (b :: d :: []) X.env = (false, eval b X.env) :: starEach (d :: []) X.env := by rfl) (he3 : starEach (d :: []) X.env = (false, eval d X.env) :: starEach [] X.env := by rfl) :
    PE X (.Tuple [a, b, d] x1 pos) (tX F kF c fun γ => (ma γ).bind fun x => (mb γ).bind fun y => (md γ).bind fun z => .ok (T3.mk x y z)) :=
  pe_mono (pe_tup (pa_cons ha (pa_cons hb (pa_cons hd pa_nil he3) he2) he)) fun σ H Q ⟨H0, G0, G, os, γ, st, p⟩ => ⟨H0, G0, G, os, γ, st, p.step kF fun v H1 G1 x f1 r1 p1 => ⟨H0, G0, G1, os, γ, st.ext f1, p1.step kF fun w H2 G2 y f2 r2 p2 => ⟨H0, G0, G2, os, γ, (st.ext f1).ext f2, p2.step kF fun u H3 G3 z f3 r3 p3 => ⟨by show 3 ≤ sizeLine; decide, fun d nd => by
    have s := Same.upd' (o := HO.tup [v, w, u]) (Same.refl G3) (f3.gh.free nd)
    exact p3 _ _ _ ((Fr.alloc f3.gh nd).freeze nd (f3.gh.free nd) upd_same) ⟨d, _, rfl, upd_same, v, w, u, rfl, Rep.mono ((f2.g.trans f3.g).trans s) r1, Rep.mono (f3.g.trans s) r2, Rep.mono s r3⟩⟩⟩⟩⟩
theorem e_fst [Rep α] [Rep β] {a : Expr} {m : Ctx.T c → Rs (α × β)} {j : Nat} {p2 pos : Pos} (hK : F.wd.K = X.K) (h : PE X a (tX F kF c m)) (hp : PlainIx (.Constant (.int 0) j p2) := by exact fun _ _ => rfl) : PE X (.Subscript a (.Constant (.int 0) j p2) pos) (tX F kF c fun γ => (m γ).bind fun x => .ok x.1) :=
  pe_mono (pe_ix ix_tup h pe_int hp) fun σ H Q ⟨H0, G0, G, os, γ, st, p⟩ => ⟨H0, G0, G, os, γ, st, p.step kF fun v H1 G1 x f1 ⟨q, o, e1, e2, v1, v2, e3, r1, r2⟩ p1 => by
    subst e3
    exact ⟨q, _, 0, v1, e1, rfl, .of (f1.gh _ _ e2), rfl, p1 _ _ _ (Fr.refl f1.gh) r1⟩⟩
theorem e_snd [Rep α] [Rep β] {a : Expr} {m : Ctx.T c → Rs (α × β)} {j : Nat} {p2 pos : Pos} (hK : F.wd.K = X.K) (h : PE X a (tX F kF c m)) (hp : PlainIx (.Constant (.int 1) j p2) := by exact fun _ _ => rfl) : PE X (.Subscript a (.Constant (.int 1) j p2) pos) (tX F kF c fun γ => (m γ).bind fun x => .ok x.2) :=
  pe_mono (pe_ix ix_tup h pe_int hp) fun σ H Q ⟨H0, G0, G, os, γ, st, p⟩ => ⟨H0, G0, G, os, γ, st, p.step kF fun v H1 G1 x f1 ⟨q, o, e1, e2, v1, v2, e3, r1, r2⟩ p1 => by
    subst e3
    exact ⟨q, _, 1, v2, e1, rfl, .of (f1.gh _ _ e2), rfl, p1 _ _ _ (Fr.refl f1.gh) r2⟩⟩
/-! ### comprehensions as expressions, as stores -/
theorem e_lc [Rep α] [Rep β] {fr : Bs} {elt tg iter : Expr} {ifs : List Expr} {scope : Scope} {own : List (Str × Nat)} {pos : Pos} {g : TG} {c1 c2 : Ctx} {mL : Ctx.T c → Rs (List α)} {mt : Ctx.T c2 → Rs Bool} {me : Ctx.T c2 → Rs β} {push : α → Ctx.T c1 → Ctx.T c2} (hc : X.calm = true) (hN : X.N.Nodup) (hi : PI X tg iter (tI F fr c mL)) (ok : BlkOk X.N X.env.scope scope own)
    (s : Sub c c1) (hn : Ctx.nots (own.map (·.2)) c1 = true) (ht : TgtC F.blk g (own.map (·.2)) c1 c2 push)
    (hg : ∀ (s : Shared) (H : Hp) (C : Addr) (cl : List (Str × Addr)) (fp : List Addr), PG (X.blk s H scope (compEnvC scope cl C X.env) fp) tg g) (hts : ∀ (s : Shared) (H : Hp) (C : Addr) (cl : List (Str × Addr)) (fp : List Addr), PTs (X.blk s H scope (compEnvC scope cl C X.env) fp) ifs (tQ F.blk c2 mt))
    (he : ∀ (s : Shared) (H : Hp) (C : Addr) (cl : List (Str × Addr)) (fp : List Addr), PE (X.blk s H scope (compEnvC scope cl C X.env) fp) elt (tX F.blk kF c2 me)) (hs : ∀ x, foldedSetIterable iter X.env x = pure x := by intro _; rfl) :
    PE X (.ListComp elt [⟨tg, iter, ifs, 0⟩] scope pos) (tX F kO c fun γ => (mL γ).bind fun xs => if xs.length ≤ 16777216 then Rs.comp (fun x => mt (push x (s.proj γ))) (fun x => me (push x (s.proj γ))) xs else .no) :=
  pe_mono (pe_lc hc hN hi ok hg hts he hs) fun σ H Q h => lc_of s hn ht h
theorem s_lc [Rep α] [Rep β] {fr : Bs} {y : Str} {py spos : Pos} {j : Nat} {elt tg iter : Expr} {ifs : List Expr} {scope : Scope} {own : List (Str × Nat)} {pos : Pos} {g : TG} {c1 c2 c' : Ctx} {mL : Ctx.T c → Rs (List α)} {mt : Ctx.T c2 → Rs Bool} {me : Ctx.T c2 → Rs β} {push : α → Ctx.T c1 → Ctx.T c2} (hc : X.calm = true) (hN : X.N.Nodup)
    (hy : X.N[j]? = some y) (hyl : X.env.scope.names.lookup y = some .local) (hsw : swapsWith (.ListComp elt [⟨tg, iter, ifs, 0⟩] scope pos) (some (.Name y py)) spos.line X.env = pure true) (hi : PI X tg iter (tI F fr c mL)) (ok : BlkOk X.N X.env.scope scope own)
    (s : Sub c c1) (hn : Ctx.nots (own.map (·.2)) c1 = true) (ht : TgtC F.blk g (own.map (·.2)) c1 c2 push)
    (hg : ∀ (s : Shared) (H : Hp) (C : Addr) (cl : List (Str × Addr)) (fp : List Addr), PG (X.blk s H scope (compEnvC scope cl C X.env) fp) tg g) (hts : ∀ (s : Shared) (H : Hp) (C : Addr) (cl : List (Str × Addr)) (fp : List Addr), PTs (X.blk s H scope (compEnvC scope cl C X.env) fp) ifs (tQ F.blk c2 mt))
    (he : ∀ (s : Shared) (H : Hp) (C : Addr) (cl : List (Str × Addr)) (fp : List Addr), PE (X.blk s H scope (compEnvC scope cl C X.env) fp) elt (tX F.blk kF c2 me)) (s' : Sub c c') (hj : j < F.n) (hn' : Ctx.not j c' = true) (hs : ∀ x, foldedSetIterable iter X.env x = pure x := by intro _; rfl) :
    PS X (.Assign [.Name y py] (.ListComp elt [⟨tg, iter, ifs, 0⟩] scope pos) spos) (tS F c (.ow j (List β) :: c') fun γ => ((mL γ).bind fun xs => if xs.length ≤ 16777216 then Rs.comp (fun x => mt (push x (s.proj γ))) (fun x => me (push x (s.proj γ))) xs else .no).bind fun a => .ok (a, s'.proj γ)) :=
  s_setTO (m := fun γ => (mL γ).bind fun xs => if xs.length ≤ 16777216 then Rs.comp (fun x => mt (push x (s.proj γ))) (fun x => me (push x (s.proj γ))) xs else .no) (ps_setLc hc hN hy hyl hsw hi ok hg hts he hs) (fun σ H Q h => lc_of s hn ht h) s' hj hn'
/-! ### plain stores -/
theorem s_set [Rep α] {c' : Ctx} {m : Ctx.T c → Rs α} {j : Nat} {x : Str} {pos pos' : Pos} (hN : X.N.Nodup) (h : PE X e (tX F kF c m)) (s : Sub c c') (hj : j < F.n) (hn : Ctx.not j c' = true) (hi : X.N[j]? = some x := by rfl) (hx : Loc X.env.scope x := by first | exact .inl rfl | exact .inr rfl) (hs : swapsWith e (some (.Name x pos')) pos.line X.env = pure false := by rfl) (hf : X.fn x = true ∨ X.env.scope.names.lookup x = some .local := by first | exact .inl rfl | exact .inr rfl) :
    PS X (.Assign [.Name x pos'] e pos) (tS F c (.fz j α :: c') fun γ => (m γ).bind fun a => .ok (a, s.proj γ)) := s_setT (ps_set hN hi hx h hs hf) (fun _ _ _ q => q) s hj hn
theorem s_setO [Own β] {c' : Ctx} {m : Ctx.T c → Rs β} {j : Nat} {x : Str} {pos pos' : Pos} (hN : X.N.Nodup) (h : PE X e (tX F kO c m)) (s : Sub c c') (hj : j < F.n) (hn : Ctx.not j c' = true) (hi : X.N[j]? = some x := by rfl) (hx : Loc X.env.scope x := by first | exact .inl rfl | exact .inr rfl) (hs : swapsWith e (some (.Name x pos')) pos.line X.env = pure false := by rfl) (hf : X.fn x = true ∨ X.env.scope.names.lookup x = some .local := by first | exact .inl rfl | exact .inr rfl) :
    PS X (.Assign [.Name x pos'] e pos) (tS F c (.ow j β :: c') fun γ => (m γ).bind fun a => .ok (a, s.proj γ)) := s_setTO (ps_set hN hi hx h hs hf) (fun _ _ _ q => q) s hj hn
theorem s_upd [Rep α] {m : Ctx.T c → Rs α} {j : Nat} {x : Str} {pos pos' : Pos} (hN : X.N.Nodup) (h : PE X e (tX F kF c m)) (v : Var c (.fz j α)) (hj : j < F.n) (hn : (c.map Ent.slot).Nodup := by decide) (hi : X.N[j]? = some x := by rfl) (hx : Loc X.env.scope x := by first | exact .inl rfl | exact .inr rfl) (hs : swapsWith e (some (.Name x pos')) pos.line X.env = pure false := by rfl) (hf : X.fn x = true ∨ X.env.scope.names.lookup x = some .local := by first | exact .inl rfl | exact .inr rfl) :
    PS X (.Assign [.Name x pos'] e pos) (tS F c c fun γ => (m γ).bind fun a => .ok (v.put γ a)) := s_updT (ps_set hN hi hx h hs hf) (fun _ _ _ q => q) v hj hn
/-- an owned name is given a new object -/
theorem Var.restoreO [Own β] {wd : Wd} {H0 H G : Hp} {σ : L2.St} {i : Nat} {p : Addr} {o : HO} {b : β} : ∀ {c : Ctx} (v : Var c (.ow i β)) {γ : Ctx.T c} {os : List Addr}, (c.map Ent.slot).Nodup → own wd G o b → H p = some o → i < σ.length → p ∉ os → os.Nodup → R wd H0 σ H G c γ os →
    ∃ os', R wd H0 (σ.set i (some (.ref p))) H G c (v.put γ b) os' ∧ os'.Nodup ∧ ∀ q ∈ os', q = p ∨ q ∈ os
  | @Ent.ow _ _ _ :: c, .z, γ, os, nd, w, hp, l, n, no, h => by
    obtain ⟨q, o1, os1, rfl, h1, h2, h3, h4⟩ := h
    refine ⟨p :: os1, ⟨p, o, os1, rfl, List.getElem?_set_self l, hp, w, h4.slots fun e he => List.getElem?_set_ne fun z => (List.nodup_cons.mp nd).1 (by rw [show Ent.slot _ = i from rfl, z]; exact List.mem_map_of_mem he)⟩,
      List.nodup_cons.mpr ⟨fun z => n (List.mem_cons_of_mem _ z), (List.nodup_cons.mp no).2⟩, fun r hr => (List.mem_cons.mp hr).elim .inl fun z => .inr (List.mem_cons_of_mem _ z)⟩
  | @Ent.fz j δ _ :: c, .s v, γ, os, nd, w, hp, l, n, no, h => by
    obtain ⟨os', h1, h2, h3⟩ := Var.restoreO v (List.nodup_cons.mp nd).2 w hp l n no h.2
    obtain ⟨y, e1, e2⟩ := h.1
    exact ⟨os', ⟨⟨y, by rw [List.getElem?_set_ne (show i ≠ j from fun q => (List.nodup_cons.mp nd).1 (by show j ∈ c.map Ent.slot; rw [← q]; exact v.inSlots))]; exact e1, e2⟩, h1⟩, h2, h3⟩
  | @Ent.bo j δ _ :: c, .s v, γ, os, nd, w, hp, l, n, no, h => by
    obtain ⟨os', h1, h2, h3⟩ := Var.restoreO v (List.nodup_cons.mp nd).2 w hp l n no h.2
    obtain ⟨y, o2, e1, e2⟩ := h.1
    exact ⟨os', ⟨⟨y, o2, by rw [List.getElem?_set_ne (show i ≠ j from fun q => (List.nodup_cons.mp nd).1 (by show j ∈ c.map Ent.slot; rw [← q]; exact v.inSlots))]; exact e1, e2⟩, h1⟩, h2, h3⟩
  | @Ent.ow j δ _ :: c, .s v, γ, os, nd, w, hp, l, n, no, h => by
    obtain ⟨q, o1, os1, rfl, h1, h2, h3, h4⟩ := h
    obtain ⟨os', k1, k2, k3⟩ := Var.restoreO v (List.nodup_cons.mp nd).2 w hp l (fun z => n (List.mem_cons_of_mem _ z)) (List.nodup_cons.mp no).2 h4
    refine ⟨q :: os', ⟨q, o1, os', rfl, by rw [List.getElem?_set_ne (show i ≠ j from fun q => (List.nodup_cons.mp nd).1 (by show j ∈ c.map Ent.slot; rw [← q]; exact v.inSlots))]; exact h1, h2, h3, k1⟩, List.nodup_cons.mpr ⟨fun z => ?_, k2⟩, fun r hr => ?_⟩
    · rcases k3 q z with e | e
      · exact n (by rw [e]; exact List.mem_cons_self)
      · exact (List.nodup_cons.mp no).1 e
    · rcases List.mem_cons.mp hr with e | e
      · exact .inr (by rw [e]; exact List.mem_cons_self)
      · exact (k3 r e).elim .inl fun z => .inr (List.mem_cons_of_mem _ z)
  | @Ent.oo j δ _ :: c, .s v, γ, os, nd, w, hp, l, n, no, h => by
    have ne : i ≠ j := fun q => (List.nodup_cons.mp nd).1 (by show j ∈ c.map Ent.slot; rw [← q]; exact v.inSlots)
    rcases h with ⟨e0, h1, h⟩ | ⟨b', q, o1, os1, e0, rfl, h1, h2, h3, h4⟩
    · obtain ⟨os', k1, k2, k3⟩ := Var.restoreO v (List.nodup_cons.mp nd).2 w hp l n no h
      exact ⟨os', .inl ⟨e0, by rw [List.getElem?_set_ne ne]; exact h1, k1⟩, k2, k3⟩
    · obtain ⟨os', k1, k2, k3⟩ := Var.restoreO v (List.nodup_cons.mp nd).2 w hp l (fun z => n (List.mem_cons_of_mem _ z)) (List.nodup_cons.mp no).2 h4
      refine ⟨q :: os', .inr ⟨b', q, o1, os', e0, rfl, by rw [List.getElem?_set_ne ne]; exact h1, h2, h3, k1⟩, List.nodup_cons.mpr ⟨fun z => ?_, k2⟩, fun r hr => ?_⟩
      · rcases k3 q z with e | e
        · exact n (by rw [e]; exact List.mem_cons_self)
        · exact (List.nodup_cons.mp no).1 e
      · rcases List.mem_cons.mp hr with e | e
        · exact .inr (by rw [e]; exact List.mem_cons_self)
        · exact (k3 r e).elim .inl fun z => .inr (List.mem_cons_of_mem _ z)
theorem s_updTO [Own β] {st : Stmt} {te : TE} {m : Ctx.T c → Rs β} {j : Nat} (h : PS X st (tAsg te (gName j))) (he : ∀ σ H Q, tX F kO c m σ H Q → te σ H Q) (v : Var c (.ow j β)) (hj : j < F.n) (hn : (c.map Ent.slot).Nodup := by decide) : PS X st (tS F c c fun γ => (m γ).bind fun a => .ok (v.put γ a)) :=
  ps_mono h fun D σ H ⟨H0, G0, G, os, γ, st, p⟩ => he _ _ _ ⟨H0, G0, G, os, γ, st, p.step st.f.h kO fun x H1 G1 a fr ⟨q, o, ev, n, g, hq, w⟩ p1 => by
    have s := st.ext fr
    subst ev
    have nq : q ∉ os := fun z => by
      obtain ⟨o2, h2⟩ := st.r.there q z
      rw [n] at h2
      cases h2
    obtain ⟨os', k1, k2, k3⟩ := Var.restoreO v hn w hq (by rw [s.len]; exact hj) nq s.nd s.r
    exact p1 _ _ _ _ ⟨by rw [List.length_set]; exact s.len, s.f, k2, fun r hr => by
      rcases k3 r hr with e | e
      · rw [e]; exact ⟨g, st.f.h.free n⟩
      · exact s.fr r e, k1⟩⟩
theorem s_updO [Own β] {m : Ctx.T c → Rs β} {j : Nat} {x : Str} {pos pos' : Pos} (hN : X.N.Nodup) (h : PE X e (tX F kO c m)) (v : Var c (.ow j β)) (hj : j < F.n) (hn : (c.map Ent.slot).Nodup := by decide) (hi : X.N[j]? = some x := by rfl) (hx : Loc X.env.scope x := by first | exact .inl rfl | exact .inr rfl) (hs : swapsWith e (some (.Name x pos')) pos.line X.env = pure false := by rfl) (hf : X.fn x = true ∨ X.env.scope.names.lookup x = some .local := by first | exact .inl rfl | exact .inr rfl) :
    PS X (.Assign [.Name x pos'] e pos) (tS F c c fun γ => (m γ).bind fun a => .ok (v.put γ a)) := s_updTO (ps_set hN hi hx h hs hf) (fun _ _ _ q => q) v hj hn
theorem s_lcU [Rep α] [Rep β] {fr : Bs} {y : Str} {py spos : Pos} {j : Nat} {elt tg iter : Expr} {ifs : List Expr} {scope : Scope} {own : List (Str × Nat)} {pos : Pos} {g : TG} {c1 c2 : Ctx} {mL : Ctx.T c → Rs (List α)} {mt : Ctx.T c2 → Rs Bool} {me : Ctx.T c2 → Rs β} {push : α → Ctx.T c1 → Ctx.T c2} (hc : X.calm = true) (hN : X.N.Nodup)
    (hy : X.N[j]? = some y) (hyl : X.env.scope.names.lookup y = some .local) (hsw : swapsWith (.ListComp elt [⟨tg, iter, ifs, 0⟩] scope pos) (some (.Name y py)) spos.line X.env = pure true) (hi : PI X tg iter (tI F fr c mL)) (ok : BlkOk X.N X.env.scope scope own)
    (s : Sub c c1) (hn : Ctx.nots (own.map (·.2)) c1 = true) (ht : TgtC F.blk g (own.map (·.2)) c1 c2 push)
    (hg : ∀ (s : Shared) (H : Hp) (C : Addr) (cl : List (Str × Addr)) (fp : List Addr), PG (X.blk s H scope (compEnvC scope cl C X.env) fp) tg g) (hts : ∀ (s : Shared) (H : Hp) (C : Addr) (cl : List (Str × Addr)) (fp : List Addr), PTs (X.blk s H scope (compEnvC scope cl C X.env) fp) ifs (tQ F.blk c2 mt))
    (he : ∀ (s : Shared) (H : Hp) (C : Addr) (cl : List (Str × Addr)) (fp : List Addr), PE (X.blk s H scope (compEnvC scope cl C X.env) fp) elt (tX F.blk kF c2 me)) (v : Var c (.ow j (List β))) (hj : j < F.n) (hn' : (c.map Ent.slot).Nodup := by decide) (hs : ∀ x, foldedSetIterable iter X.env x = pure x := by intro _; rfl) :
    PS X (.Assign [.Name y py] (.ListComp elt [⟨tg, iter, ifs, 0⟩] scope pos) spos) (tS F c c fun γ => ((mL γ).bind fun xs => if xs.length ≤ 16777216 then Rs.comp (fun x => mt (push x (s.proj γ))) (fun x => me (push x (s.proj γ))) xs else .no).bind fun a => .ok (v.put γ a)) :=
  s_updTO (m := fun γ => (mL γ).bind fun xs => if xs.length ≤ 16777216 then Rs.comp (fun x => mt (push x (s.proj γ))) (fun x => me (push x (s.proj γ))) xs else .no) (ps_setLc hc hN hy hyl hsw hi ok hg hts he hs) (fun σ H Q h => lc_of s hn ht h) v hj hn'
/-- an expression whose value is dropped -/
theorem s_expr {k : Kd F.wd α} {m : Ctx.T c → Rs α} {pos : Pos} (h : PE X e (tX F k c m)) (hs : swapsWith e none pos.line X.env = pure false := by rfl) : PS X (.Expr e pos) (tS F c c fun γ => (m γ).bind fun _ => .ok γ) :=
  ps_mono (ps_expr h hs) fun D σ H ⟨H0, G0, G, os, γ, st, p⟩ => ⟨H0, G0, G, os, γ, st, p.step st.f.h k fun v H1 G1 a f1 r p1 => p1 _ _ _ _ (st.ext f1)⟩
/-- what is never come to -/
theorem b_never {kr : Kd F.wd ρ} {sts : List Stmt} : PSs X sts (tT F kr c fun _ => .no) := pss_mono pss_never fun D σ H ⟨H0, G0, G, os, γ, st, p⟩ => p
theorem b_neverG {kr : Kd F.wd ρ} {c' : Ctx} {sts : List Stmt} : PSs X sts (tG F kr c c' fun _ => .no) := pss_mono pss_never fun D σ H ⟨H0, G0, G, os, γ, st, p⟩ => p
theorem b_neverS {c' : Ctx} {sts : List Stmt} : PSs X sts (tS F c c' fun _ => .no) := pss_mono pss_never fun D σ H ⟨H0, G0, G, os, γ, st, p⟩ => p
/-- a store to any target -/
theorem s_asgG [Rep α] {c1 c' : Ctx} {st : Stmt} {g : TG} {m : Ctx.T c → Rs α} {push : α → Ctx.T c' → Ctx.T c1} (h : PS X st (tAsg (tX F kF c m) g)) (s : Sub c c') (ht : TgtOk F g c' c1 push) : PS X st (tS F c c1 fun γ => (m γ).bind fun a => .ok (push a (s.proj γ))) :=
  ps_mono h fun D σ H ⟨H0, G0, G, os, γ, st, p⟩ => ⟨H0, G0, G, os, γ, st, p.step st.f.h kF fun v H1 G1 a f1 r p1 => by
    obtain ⟨os', _, q⟩ := (st.ext f1).sub s
    exact ht q r fun σ' st' => p1 _ _ _ _ st'⟩
/-! ### changes of an owned list -/
theorem Stt.write [Own β] {wd : Wd} {n : Nat} {H0 G0 H G : Hp} {σ : L2.St} {os : List Addr} {γ : Ctx.T c} {i : Nat} (v : Var c (.ow i β)) (st : Stt wd n H0 G0 σ H G os c γ) : ∃ p o, σ[i]? = some (some (.ref p)) ∧ H p = some o ∧ own wd G o (v.get γ) ∧
    ∀ o' b, own wd G o' b → Stt wd n H0 G0 σ (upd H p o') G os c (v.put γ b) := by
  obtain ⟨p, o, h1, h2, h3, h4, h5⟩ := v.write st.nd st.r
  obtain ⟨gp, hp⟩ := st.fr p h1
  exact ⟨p, o, h2, h3, h4, fun o' b w => ⟨st.len, ⟨Same.upd' st.f.h hp, st.f.g, fun a u q => by rw [upd_ne (ne_of_none q gp)]; exact st.f.gh a u q, st.f.new⟩, st.nd, st.fr, h5 o' b w⟩⟩
def setI (xs : List α) (k : Int) (a : α) : Rs (List α) := match ixN xs.length k with
  | some j => .ok (xs.set j a)
  | none => .no
def appI (xs : List α) (a : α) : Rs (List α) := if xs.length < 16777216 then .ok (xs ++ [a]) else .no
theorem s_store [Rep α] {j : Nat} {i : Expr} {m : Ctx.T c → Rs α} {mi : Ctx.T c → Rs Int} {x : Str} {p1 p2 pos : Pos} (v : Var c (.ow j (List α))) (h : PE X e (tX F kF c m)) (hi : PE X i (tX F kF c mi)) (hN : X.N[j]? = some x := by rfl) (hv : Vis X.env.scope x := by first | exact Or.inl rfl | exact Or.inr (Or.inl rfl) | exact Or.inr (Or.inr rfl))
    (hd : (x == ("__debug__" : Str)) = false := by decide) (hcd : (x == ("__classdict__" : Str)) = false := by decide)
    (ha : ∀ v, assign (.Subscript (.Name x p1) i p2) X.env v = (do let ov ← holding [v] (eval (.Name x p1) X.env); let iv ← holding [v, ov] (eval i X.env); standAt p2; holding [v, ov, iv] (setItem ov iv v); release [v, ov, iv] []) := by intro _; rfl)
    (hs : swapsWithSole [.Subscript (.Name x p1) i p2] e pos.line X.env = pure false := by rfl) (hw : swappedStores [.Subscript (.Name x p1) i p2] e X.env = pure none := by rfl) (h1 : (assignEach [.Subscript (.Name x p1) i p2] X.env).map (·.2) = [assign (.Subscript (.Name x p1) i p2) X.env] := by rfl) :
    PS X (.Assign [.Subscript (.Name x p1) i p2] e pos) (tS F c c fun γ => (m γ).bind fun a => (mi γ).bind fun k => (setI (v.get γ) k a).bind fun ys => .ok (v.put γ ys)) :=
  ps_mono (ps_asg h (pg_sub (pe_var hN hv hd hcd) hi set_list ha) hs hw h1) fun D σ H ⟨H0, G0, G, os, γ, st, p⟩ => ⟨H0, G0, G, os, γ, st, p.step st.f.h kF fun va H1 G1 a f1 r1 p1 => by
    have st1 := st.ext f1
    obtain ⟨q, o, e1, e2, e3, e4⟩ := st1.write v
    refine ⟨.ref q, e1, H0, G0, G1, os, γ, st1, p1.step st1.f.h kF fun vk H2 G2 k f2 r2 p2 => ?_⟩
    have st2 := st1.ext f2
    obtain ⟨q2, o2, d1, d2, ⟨vs, d3, d5, d6⟩, d4⟩ := st2.write v
    subst d3
    have eq : q2 = q := by rw [e1] at d1; injection d1 with d1; injection d1 with d1; injection d1 with d1; exact d1.symm
    subst eq
    have p3 : PostN F H0 G0 c D ((setI (v.get γ) k a).bind fun ys => .ok (v.put γ ys)) := p2
    unfold setI at p3
    cases ei : ixN (v.get γ).length k with
    | none => rw [ei] at p3; exact p3.elim
    | some j' =>
      rw [ei] at p3
      exact ⟨q2, vs, k, j', rfl, r2, d2, by rw [d6.len]; exact ei, p3 _ _ _ _ (d4 _ _ ⟨_, rfl, by rw [List.length_set]; exact d5, d6.set j' (Rep.mono f2.g r1)⟩)⟩⟩
theorem s_append [Rep α] {j : Nat} {m : Ctx.T c → Rs α} {x : Str} {p1 apos cpos pos : Pos} (v : Var c (.ow j (List α))) (h : PE X e (tX F kF c m)) (hN : X.N[j]? = some x := by rfl) (hv : Vis X.env.scope x := by first | exact Or.inl rfl | exact Or.inr (Or.inl rfl) | exact Or.inr (Or.inr rfl))
    (hd : (x == ("__debug__" : Str)) = false := by decide) (hcd : (x == ("__classdict__" : Str)) = false := by decide) (he : starEach (e :: []) X.env = (false, eval e X.env) :: starEach [] X.env := by rfl)
    (hbase : attributeBase (.Name x p1) "append" X.env (eval (.Name x p1) X.env) = eval (.Name x p1) X.env := by rfl)
    (hfew : ((backTo cpos (starEach (e :: []) X.env)).all (fun x => !x.1) && (backToKw cpos (keywordEach [] X.env)).all (fun x => x.1.isSome) && decide ((e :: []).length + ([] : List Keyword).length + (if ([] : List Keyword).isEmpty then 0 else 1) < 30)) = true := by rfl)
    (hline : (apos.endLine == cpos.line) = true := by rfl) (hplain : (backTo cpos (starEach [] X.env)).any (·.1) = false := by rfl) (hs : swapsWith (.Call (.Attribute (.Name x p1) "append" apos) [e] [] cpos) none pos.line X.env = pure false := by rfl) :
    PS X (.Expr (.Call (.Attribute (.Name x p1) "append" apos) [e] [] cpos) pos) (tS F c c fun γ => (m γ).bind fun a => (appI (v.get γ) a).bind fun ys => .ok (v.put γ ys)) :=
  ps_mono (ps_expr (pe_bm PySem.F.plainAttrs_list PySem.F.slot_list_append PySem.F.type_list_append mt_append (pe_var hN hv hd hcd) (pa_cons h pa_nil he) hbase hfew hline he hplain) hs) fun D σ H ⟨H0, G0, G, os, γ, st, p⟩ => by
    obtain ⟨q, o, e1, e2, ⟨vs, e3, e5, e6⟩, e4⟩ := st.write v
    subst e3
    refine ⟨.ref q, e1, .inl ⟨rfl, _, .of e2⟩, H0, G0, G, os, γ, st, p.step st.f.h kF fun va H1 G1 a f1 r1 p1 => ?_⟩
    have st1 := st.ext f1
    obtain ⟨q2, o2, d1, d2, ⟨vs2, d3, d5, d6⟩, d4⟩ := st1.write v
    subst d3
    have eq : q2 = q := by rw [e1] at d1; injection d1 with d1; injection d1 with d1; injection d1 with d1; exact d1.symm
    subst eq
    have p3 : PostN F H0 G0 c D ((appI (v.get γ) a).bind fun ys => .ok (v.put γ ys)) := p1
    unfold appI at p3
    by_cases hl : (v.get γ).length < 16777216
    · rw [if_pos hl] at p3
      exact ⟨q2, vs2, va, rfl, rfl, d2, by rw [d6.len, sizeLine_eq]; exact hl, p3 _ _ _ _ (d4 _ _ ⟨_, rfl, by rw [List.length_append, d6.len, sizeLine_eq]; exact hl, d6.snoc r1⟩)⟩
    · rw [if_neg hl] at p3
      exact p3.elim
end
/-! ### what a def promises, its call -/
def spF (wd : Wd) {ρ : Type} (k : Kd wd ρ) (Γ : Ctx) (m : Ctx.T Γ → Rs ρ) : Sp := fun vs H Q E => vs.length = Γ.length ∧ ∃ G γ, Same G H ∧ RA wd H G 0 Γ γ vs ∧
  match m γ with
  | .ok r => ∀ H' G' v, Fr H G H' G' → k.rel H H' G' v r → Q v H'
  | .ex x => ∀ d H', Same H H' → RepX H' d x → E (.ref (wd.cm x.cls)) d H'
  | .no => False
section
variable {P : Program} {w : World} {K : PySem.W.Frag} {mg : Str → Option Value} {base : Heap}
theorem start_get {N : List Str} {vs : List V} {k : Nat} {v : V} (h : vs[k]? = some v) : (L2.start N vs)[0 + k]? = some (some v) := by
  unfold L2.start
  rw [Nat.zero_add, List.getElem?_append_left (by rw [List.length_map]; exact (List.getElem?_eq_some_iff.mp h).1), List.getElem?_map, h]
  rfl
theorem fn_ok {ρ : Type} {wd : Wd} {kr : Kd wd ρ} {Γ : Ctx} {m : Ctx.T Γ → Rs ρ} {x qual : Str} {st : Stmt} {f : Addr} {fd : FuncData} {N ps : List Str} {k : Nat} (F : Fun K x qual st f fd) (S : FnScope N ps (defScope st)) (hl : Γ.length = ps.length)
    (body : ∀ (cdv : Value) (A : Around) (outer : List Env) (s : Shared) (H : Hp) (E : XK), Room k (A.deeper (envOfC qual (defScope st) s.heap.objs.size f cdv)) →
      PSs (cxOf (L2.CX P w) P w K mg base N qual (defScope st) f cdv A outer s H E) (defBody st) (tT ⟨wd, N.length, fun cls d _ H => E cls d H⟩ kr Γ m)) : FnOk P w K mg base (L2.CX P w) (k + 1) f fd ps (spF wd kr Γ m) := by
  have hpl : ps.length ≤ N.length := by have := congrArg List.length S.pre; rw [List.length_take] at this; omega
  refine F.okX S (fun vs H Q E h => h.1.trans hl) (fun cdv A outer s H vs Q E hr h => ⟨_, body cdv A outer s H E hr, ?_⟩)
  obtain ⟨h1, G, γ, gh, ra, p⟩ := h
  refine ⟨H, G, G, [], γ, ⟨?_, Fr.refl gh, List.nodup_nil, fun _ z => (by cases z), RA.r (fun k v e => start_get e) ra⟩, ?_⟩
  · show _ = N.length
    unfold L2.start
    rw [List.length_append, List.length_map, List.length_replicate]
    omega
  · cases e : m γ with
    | no => rw [e] at p; exact p
    | ex x => rw [e] at p; exact fun d σ H' => p d H'
    | ok r => rw [e] at p; exact fun H' G' v f q => p H' G' v f q
/-- .. whose body only falls off its end -/
theorem fn_okN {wd : Wd} {Γ c' : Ctx} {m : Ctx.T Γ → Rs (Ctx.T c')} {x qual : Str} {st : Stmt} {f : Addr} {fd : FuncData} {N ps : List Str} {k : Nat} (F : Fun K x qual st f fd) (S : FnScope N ps (defScope st)) (hl : Γ.length = ps.length)
    (body : ∀ (cdv : Value) (A : Around) (outer : List Env) (s : Shared) (H : Hp) (E : XK), Room k (A.deeper (envOfC qual (defScope st) s.heap.objs.size f cdv)) →
      PSs (cxOf (L2.CX P w) P w K mg base N qual (defScope st) f cdv A outer s H E) (defBody st) (tS ⟨wd, N.length, fun cls d _ H => E cls d H⟩ Γ c' m)) : FnOk P w K mg base (L2.CX P w) (k + 1) f fd ps (spF wd (kF (α := Unit)) Γ fun γ => (m γ).bind fun _ => .ok ()) := by
  have hpl : ps.length ≤ N.length := by have := congrArg List.length S.pre; rw [List.length_take] at this; omega
  refine F.okX S (fun vs H Q E h => h.1.trans hl) (fun cdv A outer s H vs Q E hr h => ⟨_, body cdv A outer s H E hr, ?_⟩)
  obtain ⟨h1, G, γ, gh, ra, p⟩ := h
  refine ⟨H, G, G, [], γ, ⟨?_, Fr.refl gh, List.nodup_nil, fun _ z => (by cases z), RA.r (fun k v e => start_get e) ra⟩, ?_⟩
  · show _ = N.length
    unfold L2.start
    rw [List.length_append, List.length_map, List.length_replicate]
    omega
  · dsimp only at p
    cases e : m γ with
    | no => rw [e] at p; exact p
    | ex x => rw [e] at p; exact fun d σ H' => p d H'
    | ok r => rw [e] at p; exact fun σ' H' G' os st => p H' G' .non st.f rfl
end
section
variable {X : Cx} {F : Fx} {c : Ctx} {α β δ ρ : Type} {e : Expr} {es : List Expr}
theorem sp_of {kr : Kd F.wd ρ} {Γ : Ctx} {m : Ctx.T Γ → Rs ρ} {ma : Ctx.T c → Rs (Ctx.T Γ)} {σ : L2.St} {H : Hp} {Q : VK} (h : tX F kr c (fun γ => (ma γ).bind m) σ H Q) : tA F c 0 Γ ma σ H fun vs H1 => spF F.wd kr Γ m vs H1 Q (WE F.W σ) :=
  tM_post h fun vs H1 G1 g gh r p => ⟨r.len, G1, g, gh, r, by
    cases e : m g with
    | no => rw [e] at p; exact p
    | ex x => rw [e] at p; exact p
    | ok z => rw [e] at p; exact p⟩
theorem e_call {kr : Kd F.wd ρ} {Γ : Ctx} {m : Ctx.T Γ → Rs ρ} {ma : Ctx.T c → Rs (Ctx.T Γ)} {x : Str} {p pos : Pos} {f : Addr} {fd : FuncData} {ps : List Str} {k : Nat} (tk : Takes X F.W) (Fn : FnOk X.prog X.w X.K X.mg X.base (L2.CX X.prog X.w) k f fd ps (spF F.wd kr Γ m)) (hr : Room k X.A) (hm : X.mg x = some (.ref f)) (hk : PySem.W.keepIn X.K (.ref f) = true) (hb : Binds X.K fd ps [])
    (ha : PA X (e :: es) (tA F c 0 Γ ma)) (hg : Gl X x := by rfl) (hdb : (x == ("__debug__" : Str)) = false := by decide) (he : starEach (e :: es) X.env = (false, eval e X.env) :: starEach es X.env := by rfl) (hpl : (backTo pos (starEach es X.env)).any (·.1) = false := by rfl) :
    PE X (.Call (.Name x p) (e :: es) [] pos) (tX F kr c fun γ => (ma γ).bind m) :=
  pe_mono (pe_callS Fn hr hg hm hk hb (fun σ => passAt tk σ) ha hdb he hpl) fun σ H Q h => sp_of h
end
end Wm
set_option Elab.async false
set_option linter.all false
set_option maxRecDepth 100000
set_option maxHeartbeats 4000000
namespace Wm
open PySem PySem.Spec PyProof.Rows L2
open Rep (rep)
open Own (own)
/-! ### texts -/
theorem Str.len_toList (a : Str) : a.length = a.cps.toList.length := by simp [Str.length]
theorem SOk.len {a : Str} (h : SOk a) : a.length ≤ sizeLine := by rw [Str.len_toList, sizeLine_eq]; exact h.1
theorem SOk.strOk {a : Str} (h : SOk a) : PyData.strOk a = true := by
  unfold PyData.strOk
  rw [Array.all_eq_true']
  intro c hc
  exact decide_eq_true (h.2 c (by simpa using hc))
/-! ### == by data -/
class PyEq (α : Type) [Rep α] [DecidableEq α] where
  d : α → PyData
  dep : Nat
  dp : ∀ {wd : Wd} {K : PySem.W.Frag} {H G : Hp} {v : V} {a : α}, Same G H → rep wd G v a → Dp K H v (d a)
  lay : ∀ {wd : Wd} {G : Hp} {v : V} {a : α}, rep wd G v a → (d a).canLay0 = true
  depth : ∀ a, (d a).depth ≤ dep
  eqv : ∀ a b, PyData.eqv (d a) (d b) = decide (a = b)
instance : PyEq Int where
  d := .int
  dep := 0
  dp := fun _ h => by rw [show _ = V.int _ from h]; exact .int _
  lay := fun _ => by unfold PyData.canLay0; rfl
  depth := fun a => by unfold PyData.depth; exact Nat.le_refl _
  eqv := fun a b => by unfold PyData.eqv; rw [Bool.beq_eq_decide_eq]
instance : PyEq Bool where
  d := .bool
  dep := 0
  dp := fun _ h => by rw [show _ = V.bl _ from h]; exact .bl _
  lay := fun _ => by unfold PyData.canLay0; rfl
  depth := fun a => by unfold PyData.depth; exact Nat.le_refl _
  eqv := fun a b => by unfold PyData.eqv; rw [Bool.beq_eq_decide_eq]
instance : PyEq Str where
  d := .str
  dep := 0
  dp := fun _ h => by rw [show _ = V.str _ from h.1]; exact .str _
  lay := fun h => by unfold PyData.canLay0; exact h.2.strOk
  depth := fun a => by unfold PyData.depth; exact Nat.le_refl _
  eqv := fun a b => by unfold PyData.eqv; rfl
section
variable {α β : Type} [Rep α] [DecidableEq α] [PyEq α] [Rep β] [DecidableEq β] [PyEq β]
theorem dpAll {wd : Wd} {K : PySem.W.Frag} {H G : Hp} (s : Same G H) : ∀ {vs : List V} {as : List α}, reps wd G vs as → DpAll K H vs (as.map PyEq.d)
  | [], [], _ => .nil
  | _ :: _, _ :: _, ⟨h, t⟩ => .cons (PyEq.dp s h) (dpAll s t)
  | [], _ :: _, h => h.elim
  | _ :: _, [], h => h.elim
theorem layAll {wd : Wd} {G : Hp} : ∀ {vs : List V} {as : List α}, reps wd G vs as → PyData.canLayAll0 (as.map PyEq.d) = true
  | [], [], _ => by unfold PyData.canLayAll0; rfl
  | _ :: _, _ :: _, ⟨h, t⟩ => by
    show PyData.canLayAll0 (PyEq.d _ :: _) = true
    unfold PyData.canLayAll0
    rw [PyEq.lay h, layAll t]
    rfl
  | [], _ :: _, h => h.elim
  | _ :: _, [], h => h.elim
theorem depthAll_le : ∀ as : List α, PyData.depthAll (as.map PyEq.d) ≤ PyEq.dep α
  | [] => by show PyData.depthAll [] ≤ _; unfold PyData.depthAll; exact Nat.zero_le _
  | a :: as => by
    show PyData.depthAll (PyEq.d a :: as.map PyEq.d) ≤ _
    unfold PyData.depthAll
    exact Nat.max_le.mpr ⟨PyEq.depth a, depthAll_le as⟩
theorem eqvAll_of : ∀ as bs : List α, PyData.eqvAll (as.map PyEq.d) (bs.map PyEq.d) = decide (as = bs)
  | [], [] => by show PyData.eqvAll [] [] = _; unfold PyData.eqvAll; rfl
  | [], b :: bs => by show PyData.eqvAll [] (_ :: _) = _; unfold PyData.eqvAll; rfl
  | a :: as, [] => by show PyData.eqvAll (_ :: _) [] = _; unfold PyData.eqvAll; rfl
  | a :: as, b :: bs => by
    show PyData.eqvAll (PyEq.d a :: as.map PyEq.d) (PyEq.d b :: bs.map PyEq.d) = _
    unfold PyData.eqvAll
    rw [PyEq.eqv, eqvAll_of as bs]
    by_cases h1 : a = b
    · by_cases h2 : as = bs
      · rw [decide_eq_true h1, decide_eq_true h2, decide_eq_true (by rw [h1, h2])]; rfl
      · rw [decide_eq_true h1, decide_eq_false h2, decide_eq_false fun z => h2 (List.cons.inj z).2]; rfl
    · rw [decide_eq_false h1, decide_eq_false fun z => h1 (List.cons.inj z).1]; rfl
instance : PyEq (List α) where
  d := fun as => .list (as.map PyEq.d)
  dep := PyEq.dep α + 1
  dp := fun s ⟨p, o, e1, e2, vs, e3, e4, r⟩ => by
    subst e1; subst e3
    exact .lst (.of (s _ _ e2)) (dpAll s r)
  lay := fun ⟨p, o, e1, e2, vs, e3, e4, r⟩ => by unfold PyData.canLay0; exact layAll r
  depth := fun as => by unfold PyData.depth; exact Nat.succ_le_succ (depthAll_le as)
  eqv := fun as bs => by unfold PyData.eqv; exact eqvAll_of as bs
instance {α : Type} [DecidableEq α] : DecidableEq (Tup α) := fun a b => if h : a.items = b.items then .isTrue (by cases a; cases b; congr) else .isFalse fun z => h (by rw [z])
instance : PyEq (Tup α) where
  d := fun as => .tuple (as.items.map PyEq.d)
  dep := PyEq.dep α + 1
  dp := fun s ⟨p, o, e1, e2, vs, e3, e4, r⟩ => by
    subst e1; subst e3
    exact .tup (.of (s _ _ e2)) (dpAll s r)
  lay := fun ⟨p, o, e1, e2, vs, e3, e4, r⟩ => by unfold PyData.canLay0; exact layAll r
  depth := fun as => by unfold PyData.depth; exact Nat.succ_le_succ (depthAll_le as.items)
  eqv := fun as bs => by
    unfold PyData.eqv
    rw [eqvAll_of]
    by_cases h : as.items = bs.items
    · rw [decide_eq_true h, decide_eq_true (by cases as; cases bs; congr)]
    · rw [decide_eq_false h, decide_eq_false fun z => h (by rw [z])]
instance : PyEq (α × β) where
  d := fun x => .tuple [PyEq.d x.1, PyEq.d x.2]
  dep := max (PyEq.dep α) (PyEq.dep β) + 1
  dp := fun s ⟨p, o, e1, e2, v, w, e3, r1, r2⟩ => by
    subst e1; subst e3
    exact .tup (.of (s _ _ e2)) (.cons (PyEq.dp s r1) (.cons (PyEq.dp s r2) .nil))
  lay := fun ⟨p, o, e1, e2, v, w, e3, r1, r2⟩ => by
    unfold PyData.canLay0 PyData.canLayAll0 PyData.canLayAll0 PyData.canLayAll0
    rw [PyEq.lay r1, PyEq.lay r2]; rfl
  depth := fun x => by
    unfold PyData.depth PyData.depthAll PyData.depthAll PyData.depthAll
    have h1 := PyEq.depth x.1
    have h2 := PyEq.depth x.2
    omega
  eqv := fun x y => by
    unfold PyData.eqv PyData.eqvAll PyData.eqvAll PyData.eqvAll
    rw [PyEq.eqv, PyEq.eqv]
    obtain ⟨a, b⟩ := x
    obtain ⟨a', b'⟩ := y
    by_cases h1 : a = a'
    · by_cases h2 : b = b'
      · rw [decide_eq_true h1, decide_eq_true h2, decide_eq_true (by rw [h1, h2])]; rfl
      · rw [decide_eq_true h1, decide_eq_false h2, decide_eq_false fun z => h2 (Prod.mk.inj z).2]; rfl
    · rw [decide_eq_false h1, decide_eq_false fun z => h1 (Prod.mk.inj z).1]; rfl
theorem shaped_of {wd : Wd} {G : Hp} {v : V} {a : α} (h : rep wd G v a) (hd : PyEq.dep α ≤ 64) : SeqAt.shaped (PyEq.d a) = true := by
  unfold SeqAt.shaped
  rw [PyEq.lay h, decide_eq_true (Nat.le_trans (PyEq.depth a) hd)]
  rfl
theorem m_eqD {wd : Wd} {K : PySem.W.Frag} (hd : PyEq.dep α ≤ 64 := by decide) : Sem2 (wd := wd) (α := α) (β := α) kF kF kF (rEqD K) (fun a b => .ok (decide (a = b))) := by
  intro W σ B1 B2 H G x y a b Q gh hx hy p
  refine ⟨_, _, PyEq.dp gh hx, PyEq.dp gh hy, shaped_of hx hd, shaped_of hy hd, ?_⟩
  rw [PyEq.eqv]
  exact p H G _ (Fr.refl gh) rfl
theorem m_neD {wd : Wd} {K : PySem.W.Frag} (hd : PyEq.dep α ≤ 64 := by decide) : Sem2 (wd := wd) (α := α) (β := α) kF kF kF (rNeD K) (fun a b => .ok (!decide (a = b))) := by
  intro W σ B1 B2 H G x y a b Q gh hx hy p
  refine ⟨_, _, PyEq.dp gh hx, PyEq.dp gh hy, shaped_of hx hd, shaped_of hy hd, ?_⟩
  rw [PyEq.eqv]
  exact p H G _ (Fr.refl gh) rfl
/-- lists that are only read: the cells in the heap, the items frozen -/
theorem dpB {wd : Wd} {K : PySem.W.Frag} {B H G : Hp} {v : V} {as : List α} (s : Same G H) (h : (kB (wd := wd)).rel B H G v as) : Dp K H v (PyEq.d as) ∧ (PyEq.d as).canLay0 = true := by
  obtain ⟨p, o, e1, e2, vs, e3, e4, r⟩ := h
  subst e1; subst e3
  exact ⟨.lst (.of e2) (dpAll s r), by show PyData.canLay0 (.list _) = true; unfold PyData.canLay0; exact layAll r⟩
theorem shapedB {as : List α} (h : (PyEq.d as).canLay0 = true) (hd : PyEq.dep (List α) ≤ 64) : SeqAt.shaped (PyEq.d as) = true := by
  unfold SeqAt.shaped
  rw [h, decide_eq_true (Nat.le_trans (PyEq.depth as) hd)]
  rfl
theorem m_eqB {wd : Wd} {K : PySem.W.Frag} (hd : PyEq.dep (List α) ≤ 64 := by decide) : Sem2 (wd := wd) (α := List α) (β := List α) kB kB kF (rEqD K) (fun a b => .ok (decide (a = b))) := by
  intro W σ B1 B2 H G x y a b Q gh hx hy p
  obtain ⟨h1, h2⟩ := dpB (K := K) gh hx
  obtain ⟨h3, h4⟩ := dpB (K := K) gh hy
  refine ⟨_, _, h1, h3, shapedB h2 hd, shapedB h4 hd, ?_⟩
  rw [PyEq.eqv]
  exact p H G _ (Fr.refl gh) rfl
theorem m_neB {wd : Wd} {K : PySem.W.Frag} (hd : PyEq.dep (List α) ≤ 64 := by decide) : Sem2 (wd := wd) (α := List α) (β := List α) kB kB kF (rNeD K) (fun a b => .ok (!decide (a = b))) := by
  intro W σ B1 B2 H G x y a b Q gh hx hy p
  obtain ⟨h1, h2⟩ := dpB (K := K) gh hx
  obtain ⟨h3, h4⟩ := dpB (K := K) gh hy
  refine ⟨_, _, h1, h3, shapedB h2 hd, shapedB h4 hd, ?_⟩
  rw [PyEq.eqv]
  exact p H G _ (Fr.refl gh) rfl
end
/-! ### ints, bools, texts -/
section
variable {wd : Wd} {K : PySem.W.Frag} {α β : Type}
theorem m_eqI : Sem2 (wd := wd) kF kF kF rEq (fun (a b : Int) => .ok (decide (a = b))) := by
  intro W σ B1 B2 H G x y a b Q gh hx hy p
  rw [show x = .int a from hx, show y = .int b from hy]
  refine ⟨rfl, ?_⟩
  rw [dec_int, Bool.beq_eq_decide_eq]
  exact p H G _ (Fr.refl gh) rfl
theorem m_neI : Sem2 (wd := wd) kF kF kF rNe (fun (a b : Int) => .ok (!decide (a = b))) := by
  intro W σ B1 B2 H G x y a b Q gh hx hy p
  rw [show x = .int a from hx, show y = .int b from hy]
  refine ⟨rfl, ?_⟩
  rw [dec_int, Bool.beq_eq_decide_eq]
  exact p H G _ (Fr.refl gh) rfl
theorem m_eqL : Sem2 (wd := wd) kF kF kF rEq (fun (a b : Bool) => .ok (decide (a = b))) := by
  intro W σ B1 B2 H G x y a b Q gh hx hy p
  rw [show x = .bl a from hx, show y = .bl b from hy]
  refine ⟨rfl, ?_⟩
  rw [dec_bl, Bool.beq_eq_decide_eq]
  exact p H G _ (Fr.refl gh) rfl
theorem m_neL : Sem2 (wd := wd) kF kF kF rNe (fun (a b : Bool) => .ok (!decide (a = b))) := by
  intro W σ B1 B2 H G x y a b Q gh hx hy p
  rw [show x = .bl a from hx, show y = .bl b from hy]
  refine ⟨rfl, ?_⟩
  rw [dec_bl, Bool.beq_eq_decide_eq]
  exact p H G _ (Fr.refl gh) rfl
theorem m_eqS : Sem2 (wd := wd) kF kF kF rEq (fun (a b : Str) => .ok (decide (a = b))) := by
  intro W σ B1 B2 H G x y a b Q gh hx hy p
  rw [show x = .str a from hx.1, show y = .str b from hy.1]
  refine ⟨rfl, ?_⟩
  rw [dec_str, show (a == b) = decide (a = b) from rfl]
  exact p H G _ (Fr.refl gh) rfl
theorem m_neS : Sem2 (wd := wd) kF kF kF rNe (fun (a b : Str) => .ok (!decide (a = b))) := by
  intro W σ B1 B2 H G x y a b Q gh hx hy p
  rw [show x = .str a from hx.1, show y = .str b from hy.1]
  refine ⟨rfl, ?_⟩
  rw [dec_str, show (a == b) = decide (a = b) from rfl]
  exact p H G _ (Fr.refl gh) rfl
theorem m_lt : Sem2 (wd := wd) kF kF kF (rI0 fun i j => .bl (decide (i < j))) (fun (a b : Int) => .ok (decide (a < b))) := m_I0 (f := fun a b => decide (a < b)) fun _ _ _ => rfl
theorem m_le : Sem2 (wd := wd) kF kF kF (rI0 fun i j => .bl (decide (i ≤ j))) (fun (a b : Int) => .ok (decide (a ≤ b))) := m_I0 (f := fun a b => decide (a ≤ b)) fun _ _ _ => rfl
theorem m_gt : Sem2 (wd := wd) kF kF kF (rI0 fun i j => .bl (decide (j < i))) (fun (a b : Int) => .ok (decide (b < a))) := m_I0 (f := fun a b => decide (b < a)) fun _ _ _ => rfl
theorem m_ge : Sem2 (wd := wd) kF kF kF (rI0 fun i j => .bl (decide (j ≤ i))) (fun (a b : Int) => .ok (decide (b ≤ a))) := m_I0 (f := fun a b => decide (b ≤ a)) fun _ _ _ => rfl
theorem m_add : Sem2 (wd := wd) kF kF kF (rI0 fun i j => .int (i + j)) (fun (a b : Int) => .ok (a + b)) := m_I0 fun _ _ _ => rfl
theorem m_sub : Sem2 (wd := wd) kF kF kF (rI0 fun i j => .int (i - j)) (fun (a b : Int) => .ok (a - b)) := m_I0 fun _ _ _ => rfl
theorem m_mul : Sem2 (wd := wd) kF kF kF (rI CMul fun i j => .int (i * j)) (fun (a b : Int) => if CMul a b then .ok (a * b) else .no) := m_I fun _ _ _ => rfl
theorem m_mulW : Sem2 (wd := wd) kF kF kF (rI CMulW fun i j => .int (i * j)) (fun (a b : Int) => if CMulW a b then .ok (a * b) else .no) := m_I fun _ _ _ => rfl
theorem m_div : Sem2 (wd := wd) kF kF kF (rI CDiv fun i j => .int (i / j)) (fun (a b : Int) => if CDiv a b then .ok (a / b) else .no) := m_I fun _ _ _ => rfl
theorem m_divW : Sem2 (wd := wd) kF kF kF (rI CDivW fun i j => .int (i / j)) (fun (a b : Int) => if CDivW a b then .ok (a / b) else .no) := m_I fun _ _ _ => rfl
theorem m_mod : Sem2 (wd := wd) kF kF kF (rI (fun _ j => 0 < j) fun i j => .int (i % j)) (fun (a b : Int) => if 0 < b then .ok (a % b) else .no) := m_I (C := fun _ j => 0 < j) (f := fun a b => a % b) fun _ _ _ => rfl
theorem m_pow : Sem2 (wd := wd) kF kF kF (rI CPow fun i j => .int (i ^ j.toNat)) (fun (a b : Int) => if CPow a b then .ok (a ^ b.toNat) else .no) := m_I (f := fun a b => a ^ b.toNat) fun _ _ _ => rfl
theorem m_and : Sem2 (wd := wd) kF kF kF (rI0 fun i j => .int (Builtin.bitAnd i j)) (fun (a b : Int) => .ok (Builtin.bitAnd a b)) := m_I0 fun _ _ _ => rfl
theorem m_neg : Sem1 (wd := wd) kF kF (rU fun i => .int (-i)) (fun (a : Int) => .ok (-a)) := m_U fun _ _ => rfl
theorem m_isN [Rep α] (h : ∀ {G v} {a : α}, rep wd G v a → v ≠ .non) : Sem2 (wd := wd) kF kF kF (fun x y H Q => y = .non ∧ Q (.bl (decide (x = .non))) H) (fun (a : Option α) (_ : Unit) => .ok a.isNone) := by
  intro W σ B1 B2 H G x y a b Q gh hx hy p
  refine ⟨hy, ?_⟩
  have e : decide (x = .non) = a.isNone := by
    cases a with
    | none => exact decide_eq_true hx
    | some a => exact decide_eq_false (h (a := a) hx)
  rw [e]
  exact p H G _ (Fr.refl gh) rfl
theorem m_notN [Rep α] (h : ∀ {G v} {a : α}, rep wd G v a → v ≠ .non) : Sem2 (wd := wd) kF kF kF (fun x y H Q => y = .non ∧ Q (.bl (!decide (x = .non))) H) (fun (a : Option α) (_ : Unit) => .ok a.isSome) := by
  intro W σ B1 B2 H G x y a b Q gh hx hy p
  refine ⟨hy, ?_⟩
  have e : (!decide (x = .non)) = a.isSome := by
    cases a with
    | none => rw [decide_eq_true (show x = .non from hx)]; rfl
    | some a => rw [decide_eq_false (h (a := a) hx)]; rfl
  rw [e]
  exact p H G _ (Fr.refl gh) rfl
theorem nn_int {G v} {a : Int} (h : rep wd G v a) : v ≠ .non := by rw [show v = .int a from h]; exact nofun
theorem nn_str {G v} {a : Str} (h : rep wd G v a) : v ≠ .non := by rw [show v = .str a from h.1]; exact nofun
theorem nn_own [Own α] {G v} {a : α} (h : rep wd G v a) : v ≠ .non := by
  obtain ⟨p, o, e, _⟩ := h
  rw [e]; exact nofun
/-- int(..), bool(..), len(..) -/
theorem m_int : Sem1 (wd := wd) kF kF (fun x => (fun xs H Q => (∃ i, xs = [V.int i] ∧ Q (.int i) H) ∨ ∃ k, xs = [V.bl k] ∧ Q (.int (if k then 1 else 0)) H : List V → Hp → VK → Prop) [x]) (fun (a : Int) => .ok a) := by
  intro W σ B H G x a Q gh hx p
  rw [show x = .int a from hx]
  exact .inl ⟨a, rfl, p H G _ (Fr.refl gh) rfl⟩
theorem m_intB : Sem1 (wd := wd) kF kF (fun x => (fun xs H Q => (∃ i, xs = [V.int i] ∧ Q (.int i) H) ∨ ∃ k, xs = [V.bl k] ∧ Q (.int (if k then 1 else 0)) H : List V → Hp → VK → Prop) [x]) (fun (a : Bool) => .ok (if a = true then (1 : Int) else 0)) := by
  intro W σ B H G x a Q gh hx p
  rw [show x = .bl a from hx]
  exact .inr ⟨a, rfl, p H G _ (Fr.refl gh) (by cases a <;> rfl)⟩
theorem m_boolB : Sem1 (wd := wd) kF kF (fun x => (fun xs H Q => (∃ i, xs = [V.int i] ∧ Q (.bl (i != 0)) H) ∨ ∃ k, xs = [V.bl k] ∧ Q (.bl k) H : List V → Hp → VK → Prop) [x]) (fun (a : Bool) => .ok a) := by
  intro W σ B H G x a Q gh hx p
  rw [show x = .bl a from hx]
  exact .inr ⟨a, rfl, p H G _ (Fr.refl gh) rfl⟩
theorem m_lenL [Rep α] : Sem1 (wd := wd) kB kF (fun x => (fun xs H Q => ∃ p ys, xs = [V.ref p] ∧ (SqL K H p ys ∨ SqT K H p ys) ∧ Q (.int ys.length) H : List V → Hp → VK → Prop) [x]) (fun (a : List α) => .ok (a.length : Int)) := by
  intro W σ B H G x a Q gh ⟨q, o, e1, e2, vs, e3, e4, r⟩ p
  subst e1; subst e3
  exact ⟨q, vs, rfl, .inl (.of e2), p H G _ (Fr.refl gh) (by show V.int _ = V.int _; rw [r.len])⟩
theorem m_lenT [Rep α] : Sem1 (wd := wd) kF kF (fun x => (fun xs H Q => ∃ p ys, xs = [V.ref p] ∧ (SqL K H p ys ∨ SqT K H p ys) ∧ Q (.int ys.length) H : List V → Hp → VK → Prop) [x]) (fun (a : Tup α) => .ok (a.items.length : Int)) := by
  intro W σ B H G x a Q gh ⟨q, o, e1, e2, vs, e3, e4, r⟩ p
  subst e1; subst e3
  exact ⟨q, vs, rfl, .inr (.of (gh _ _ e2)), p H G _ (Fr.refl gh) (by show V.int _ = V.int _; rw [r.len])⟩
theorem m_lenS : Sem1 (wd := wd) kF kF (fun x => (fun xs H Q => ∃ z : Str, xs = [V.str z] ∧ z.length ≤ sizeLine ∧ Q (.int z.length) H : List V → Hp → VK → Prop) [x]) (fun (a : Str) => .ok (a.length : Int)) := by
  intro W σ B H G x a Q gh hx p
  rw [show x = .str a from hx.1]
  exact ⟨a, rfl, hx.2.len, p H G _ (Fr.refl gh) rfl⟩
theorem m_lenScript {cm : String → Addr} : Sem1 (wd := ⟨K, cm⟩) kF kF (fun x => (fun xs H Q => ∃ p ys, xs = [V.ref p] ∧ (SqL K H p ys ∨ SqT K H p ys) ∧ Q (.int ys.length) H : List V → Hp → VK → Prop) [x]) (fun (a : Script) => .ok (a.ns.length : Int)) := by
  intro W σ B H G x a Q gh ⟨q, e1, e2⟩ p
  subst e1
  exact ⟨q, _, rfl, .inl (gh.seq e2), p H G _ (Fr.refl gh) (by show V.int _ = V.int _; rw [List.length_map])⟩
/-! ### items -/
def getI (xs : List α) (k : Int) : Rs α := match atI xs k with
  | some a => .ok a
  | none => .no
theorem atI_rep [Rep α] {G : Hp} {vs : List V} {as : List α} {k : Int} {a : α} (r : reps wd G vs as) (h : atI as k = some a) : ∃ v, atI vs k = some v ∧ rep wd G v a := by
  unfold atI at h ⊢
  rw [r.len]
  cases e : ixN as.length k with
  | none => rw [e] at h; cases h
  | some j =>
    rw [e] at h
    obtain ⟨v, h1, h2⟩ := r.get h
    exact ⟨v, h1, h2⟩
theorem m_ixL [Rep α] : Sem2 (wd := wd) kB kF kF (rIxL K) (fun (a : List α) (k : Int) => getI a k) := by
  intro W σ B1 B2 H G x y a k Q gh ⟨q, o, e1, e2, vs, e3, e4, r⟩ hy p
  subst e1; subst e3
  have p' : Post W kF σ H G Q (getI a k) := p
  unfold getI at p'
  cases e : atI a k with
  | none => rw [e] at p'; exact p'.elim
  | some z =>
    rw [e] at p'
    obtain ⟨v, h1, h2⟩ := atI_rep r e
    exact ⟨q, vs, k, v, rfl, hy, .of e2, h1, p' H G _ (Fr.refl gh) h2⟩
theorem m_ixT [Rep α] : Sem2 (wd := wd) kF kF kF (rIxT K) (fun (a : Tup α) (k : Int) => getI a.items k) := by
  intro W σ B1 B2 H G x y a k Q gh ⟨q, o, e1, e2, vs, e3, e4, r⟩ hy p
  subst e1; subst e3
  have p' : Post W kF σ H G Q (getI a.items k) := p
  unfold getI at p'
  cases e : atI a.items k with
  | none => rw [e] at p'; exact p'.elim
  | some z =>
    rw [e] at p'
    obtain ⟨v, h1, h2⟩ := atI_rep r e
    exact ⟨q, vs, k, v, rfl, hy, .of (gh _ _ e2), h1, p' H G _ (Fr.refl gh) h2⟩
theorem m_ixScript {cm : String → Addr} : Sem2 (wd := ⟨K, cm⟩) kF kF kF (rIxL K) (fun (a : Script) (k : Int) => getI a.ns k) := by
  intro W σ B1 B2 H G x y a k Q gh ⟨q, e1, e2⟩ hy p
  subst e1
  have p' : Post W kF σ H G Q (getI a.ns k) := p
  unfold getI at p'
  cases e : atI a.ns k with
  | none => rw [e] at p'; exact p'.elim
  | some z =>
    rw [e] at p'
    obtain ⟨v, h1, h2⟩ := atI_rep (wd := ⟨K, cm⟩) (G := G) (reps.of_ints (as := a.ns)) e
    exact ⟨q, _, k, v, rfl, hy, gh.seq e2, h1, p' H G _ (Fr.refl gh) h2⟩
theorem m_ixS : Sem2 (wd := wd) kF kF kF rIxS (fun (a : Str) (k : Int) => getI (chars a) k) := by
  intro W σ B1 B2 H G x y a k Q gh hx hy p
  have p' : Post W kF σ H G Q (getI (chars a) k) := p
  unfold getI at p'
  cases e : atI (chars a) k with
  | none => rw [e] at p'; exact p'.elim
  | some z =>
    rw [e] at p'
    unfold chars atI at e
    rw [List.length_map] at e
    cases e2 : ixN a.cps.toList.length k with
    | none => rw [e2] at e; cases e
    | some j =>
      rw [e2] at e
      have e' : (a.cps.toList.map fun c => (⟨#[c]⟩ : Str))[j]? = some z := e
      rw [List.getElem?_map] at e'
      cases e3 : a.cps.toList[j]? with
      | none => rw [e3] at e'; cases e'
      | some ch =>
        rw [e3] at e'
        have ez : z = ⟨#[ch]⟩ := (Option.some.inj e').symm
        refine ⟨a, k, ch, hx.1, hy, hx.2.len, ?_, p' H G _ (Fr.refl gh) ?_⟩
        · unfold atI
          rw [e2]
          exact e3
        · rw [ez]
          exact ⟨rfl, SOk.one (hx.2.2 ch (List.mem_of_getElem? e3))⟩
end
end Wm
set_option Elab.async false
set_option linter.all false
set_option maxRecDepth 100000
set_option maxHeartbeats 4000000
namespace Wm
open PySem PySem.Spec PyProof.Rows L2
open Rep (rep)
open Own (own)
theorem SOk.app {a b : Str} (h : SOk a) (k : SOk b) (l : a.length + b.length ≤ 16777216) : SOk (a ++ b) := by
  have e : (a ++ b).cps.toList = a.cps.toList ++ b.cps.toList := by show (a.cps ++ b.cps).toList = _; simp
  refine ⟨?_, ?_⟩
  · rw [e, List.length_append, ← Str.len_toList, ← Str.len_toList]; exact l
  · rw [e]
    intro c hc
    rcases List.mem_append.mp hc with z | z
    · exact h.2 c z
    · exact k.2 c z
theorem SOk.cut {a : Str} (h : SOk a) (lo hi : Option Int) : SOk (cutS a lo hi) := by
  unfold cutS
  refine ⟨?_, fun c hc => ?_⟩
  · show (List.toArray _).toList.length ≤ _
    rw [List.toList_toArray, List.length_take, List.length_drop]
    have := h.1
    omega
  · have hc' : c ∈ (List.toArray _).toList := hc
    rw [List.toList_toArray] at hc'
    exact h.2 c (List.mem_of_mem_drop (List.mem_of_mem_take hc'))
def oneCp (a : Str) : Option Nat := match a.cps.toList with
  | [c] => some c
  | _ => none
theorem oneCp_eq {a : Str} {c : Nat} (h : oneCp a = some c) : a = ⟨#[c]⟩ := by
  unfold oneCp at h
  split at h
  · rename_i d e
    cases h
    obtain ⟨x⟩ := a
    have : x = #[c] := by
      apply Array.ext'
      exact e
    rw [this]
  · cases h
/-! ### slices -/
def cutI {α : Type} (xs : List α) (lo hi : Option Int) : List α := (xs.drop (HT.sIx xs.length 0 lo)).take (HT.sIx xs.length xs.length hi - HT.sIx xs.length 0 lo)
def tP (F : Fx) (c : Ctx) (m : Ctx.T c → Rs (Option Int)) : TO := fun σ H Q => ∃ H0 G0 G os γ, Stt F.wd F.n H0 G0 σ H G os c γ ∧ match m γ with
  | .ok a => ∀ H' G', Fr H G H' G' → Q a H'
  | .ex x => ∀ d H', Same H H' → RepX H' d x → F.W (.ref (F.wd.cm x.cls)) d σ H'
  | .no => False
theorem po_mono {X : Cx} {e : Option Expr} {t t' : TO} (h : PO X e t) (i : ∀ σ H Q, t' σ H Q → t σ H Q) : PO X e t' := ⟨fun pins s σ H Q I q => h.run pins s σ H Q I (i σ H Q q)⟩
section
variable {X : Cx} {F : Fx} {c : Ctx} {α β δ : Type} {e : Expr} {pos : Pos}
theorem p_none : PO X none (tP F c fun _ => .ok none) := po_mono po_none fun σ H Q ⟨H0, G0, G, os, γ, st, p⟩ => p H G (Fr.refl st.f.gh)
theorem p_some {m : Ctx.T c → Rs Int} (h : PE X e (tX F kF c m)) : PO X (some e) (tP F c fun γ => (m γ).bind fun i => .ok (some i)) :=
  po_mono (po_some h) fun σ H Q ⟨H0, G0, G, os, γ, st, p⟩ => ⟨H0, G0, G, os, γ, st, by
    dsimp only at p
    cases e : m γ with
    | no => rw [e] at p; exact p
    | ex x => rw [e] at p; exact p
    | ok a => rw [e] at p; exact fun H' G' v f r => ⟨a, r, p H' G' f⟩⟩
theorem e_sl {k1 : Kd F.wd α} {k3 : Kd F.wd δ} {r : V → Option Int → Option Int → Hp → VK → Prop} {f : α → Option Int → Option Int → Rs δ} {lo hi : Option Expr} {m : Ctx.T c → Rs α} {ml mh : Ctx.T c → Rs (Option Int)} {p2 : Pos} (hr : SlR X r)
    (hs : ∀ {W : WX} {σ : L2.St} {B H G : Hp} {x : V} {a : α} {l h : Option Int} {Q : VK}, Same G H → k1.rel B H G x a → Post W k3 σ H G Q (f a l h) → r x l h H Q) (he : PE X e (tX F k1 c m)) (hl : PO X lo (tP F c ml)) (hu : PO X hi (tP F c mh)) :
    PE X (.Subscript e (.Slice lo hi none p2) pos) (tX F k3 c fun γ => (m γ).bind fun x => (ml γ).bind fun l => (mh γ).bind fun h => f x l h) :=
  pe_mono (pe_slice hr he hl hu) fun σ H Q ⟨H0, G0, G, os, γ, st, p⟩ => ⟨H0, G0, G, os, γ, st, p.step k1 fun v H1 G1 a f1 r1 p1 => ⟨H0, G0, G1, os, γ, st.ext f1, by
    cases e : ml γ with
    | no => rw [e] at p1; exact p1
    | ex x => rw [e] at p1; exact p1
    | ok l =>
      rw [e] at p1
      refine fun H2 G2 f2 => ⟨H0, G0, G2, os, γ, (st.ext f1).ext f2, ?_⟩
      have p2 := Post.ext p1 f2
      cases e2 : mh γ with
      | no => rw [e2] at p2; exact p2
      | ex x => rw [e2] at p2; exact p2
      | ok h =>
        rw [e2] at p2
        exact fun H3 G3 f3 => hs f3.gh (k1.stay r1 (f2.trans f3)) (Post.ext p2 f3)⟩⟩
theorem m_slL [Rep α] {K : PySem.W.Frag} {W : WX} {σ : L2.St} {B H G : Hp} {x : V} {a : List α} {l h : Option Int} {Q : VK} (gh : Same G H) (hx : (kB (wd := F.wd)).rel B H G x a) (p : Post W (kO (wd := F.wd)) σ H G Q (.ok (cutI a l h))) : rSlL K x l h H Q := by
  obtain ⟨q, o, e1, e2, vs, e3, e4, r⟩ := hx
  subst e1; subst e3
  refine ⟨q, vs, rfl, .of e2, fun d nd => p _ _ _ (Fr.alloc gh nd) ⟨d, _, rfl, nd, gh.free nd, upd_same, _, rfl, ?_, ?_⟩⟩
  · exact Nat.le_trans (cutV_length vs l h) e4
  · unfold cutV cutI
    rw [r.len]
    exact (r.drop _).take _
theorem e_slL [Rep α] {lo hi : Option Expr} {m : Ctx.T c → Rs (List α)} {ml mh : Ctx.T c → Rs (Option Int)} {p2 : Pos} (he : PE X e (tX F kB c m)) (hl : PO X lo (tP F c ml)) (hu : PO X hi (tP F c mh)) :
    PE X (.Subscript e (.Slice lo hi none p2) pos) (tX F kO c fun γ => (m γ).bind fun x => (ml γ).bind fun l => (mh γ).bind fun h => .ok (cutI x l h)) :=
  e_sl sl_list (fun gh hx p => m_slL gh hx p) he hl hu
theorem m_slS {W : WX} {σ : L2.St} {B H G : Hp} {x : V} {a : Str} {l h : Option Int} {Q : VK} (gh : Same G H) (hx : (kF (wd := F.wd)).rel B H G x a) (p : Post W (kF (wd := F.wd)) σ H G Q (.ok (cutS a l h))) : rSlS x l h H Q :=
  ⟨a, hx.1, hx.2.len, p H G _ (Fr.refl gh) ⟨rfl, hx.2.cut l h⟩⟩
theorem e_slS {lo hi : Option Expr} {m : Ctx.T c → Rs Str} {ml mh : Ctx.T c → Rs (Option Int)} {p2 : Pos} (he : PE X e (tX F kF c m)) (hl : PO X lo (tP F c ml)) (hu : PO X hi (tP F c mh)) :
    PE X (.Subscript e (.Slice lo hi none p2) pos) (tX F kF c fun γ => (m γ).bind fun x => (ml γ).bind fun l => (mh γ).bind fun h => .ok (cutS x l h)) :=
  e_sl sl_str (fun gh hx p => m_slS gh hx p) he hl hu
end
/-! ### further operations -/
def catI {α : Type} (xs ys : List α) : Rs (List α) := if xs.length + ys.length ≤ 16777216 then .ok (xs ++ ys) else .no
def repI {α : Type} (xs : List α) (k : Int) : Rs (List α) := if k < 9223372036854775808 ∧ -9223372036854775808 ≤ k ∧ xs.length * k.toNat ≤ 16777216 then .ok (List.replicate k.toNat xs).flatten else .no
def catS (a b : Str) : Rs Str := if a.length + b.length ≤ 16777216 then .ok (a ++ b) else .no
def joinS (a : Str) (xs : List Str) : Rs Str := if (xs.map (·.length)).sum + xs.length * a.length ≤ 16777216 ∧ SOk (Txt.join a xs) then .ok (Txt.join a xs) else .no
def maxI (xs : List Int) : Rs Int := match xs.max? with | some m => .ok m | none => .no
def minI (xs : List Int) : Rs Int := match xs.min? with | some m => .ok m | none => .no
def inS (a z : Str) : Rs Bool := match oneCp a with | some c => .ok (decide (c ∈ z.cps.toList)) | none => .no
def notInS (a z : Str) : Rs Bool := match oneCp a with | some c => .ok (!decide (c ∈ z.cps.toList)) | none => .no
section
variable {wd : Wd} {K : PySem.W.Frag} {α β : Type}
theorem reps.rep_flat [Rep α] {G : Hp} {vs : List V} {as : List α} (r : reps wd G vs as) : ∀ k : Nat, reps wd G (List.replicate k vs).flatten (List.replicate k as).flatten
  | 0 => trivial
  | k + 1 => by
    rw [List.replicate_succ, List.replicate_succ, List.flatten_cons, List.flatten_cons]
    exact r.app (reps.rep_flat r k)
theorem m_cat [Rep α] : Sem2 (wd := wd) kB kB kO rCat (fun (a b : List α) => catI a b) := by
  intro W σ B1 B2 H G x y a b Q gh ⟨q, o, e1, e2, vs, e3, e4, r⟩ ⟨q', o', d1, d2, ws, d3, d4, r'⟩ p
  subst e1; subst e3; subst d1; subst d3
  have p' : Post W kO σ H G Q (catI a b) := p
  unfold catI at p'
  by_cases h : a.length + b.length ≤ 16777216
  · rw [if_pos h] at p'
    have hz : vs.length + ws.length ≤ sizeLine := by rw [r.len, r'.len, sizeLine_eq]; exact h
    exact ⟨q, q', vs, ws, rfl, rfl, e2, d2, hz, fun d nd => p' _ _ _ (Fr.alloc gh nd) ⟨d, _, rfl, nd, gh.free nd, upd_same, _, rfl, by rw [List.length_append]; exact hz, r.app r'⟩⟩
  · rw [if_neg h] at p'
    exact p'.elim
theorem m_rep [Rep α] : Sem2 (wd := wd) kB kF kO rRep (fun (a : List α) (k : Int) => repI a k) := by
  intro W σ B1 B2 H G x y a k Q gh ⟨q, o, e1, e2, vs, e3, e4, r⟩ hy p
  subst e1; subst e3
  have p' : Post W kO σ H G Q (repI a k) := p
  unfold repI at p'
  by_cases h : k < 9223372036854775808 ∧ -9223372036854775808 ≤ k ∧ a.length * k.toNat ≤ 16777216
  · rw [if_pos h] at p'
    have hz : vs.length * k.toNat ≤ sizeLine := by rw [r.len, sizeLine_eq]; exact h.2.2
    refine ⟨q, k, vs, rfl, hy, e2, by omega, by omega, hz, fun d nd => p' _ _ _ (Fr.alloc gh nd) ⟨d, _, rfl, nd, gh.free nd, upd_same, _, rfl, ?_, r.rep_flat k.toNat⟩⟩
    rw [List.length_flatten, List.map_replicate, List.sum_replicate_nat, Nat.mul_comm]
    exact hz
  · rw [if_neg h] at p'
    exact p'.elim
theorem m_catS : Sem2 (wd := wd) kF kF kF (fun x y H Q => ∃ i j : Str, x = .str i ∧ y = .str j ∧ i.length + j.length ≤ sizeLine ∧ Q (.str (i ++ j)) H) (fun (a b : Str) => catS a b) := by
  intro W σ B1 B2 H G x y a b Q gh hx hy p
  have p' : Post W kF σ H G Q (catS a b) := p
  unfold catS at p'
  by_cases h : a.length + b.length ≤ 16777216
  · rw [if_pos h] at p'
    exact ⟨a, b, hx.1, hy.1, by rw [sizeLine_eq]; exact h, p' H G _ (Fr.refl gh) ⟨rfl, hx.2.app hy.2 h⟩⟩
  · rw [if_neg h] at p'
    exact p'.elim
theorem m_max : Sem1 (wd := wd) kB kF (fun x => rMax K [x]) maxI := by
  intro W σ B H G x a Q gh ⟨q, o, e1, e2, vs, e3, e4, r⟩ p
  subst e1; subst e3
  unfold maxI at p
  cases e : a.max? with
  | none => rw [e] at p; exact p.elim
  | some m =>
    rw [e] at p
    obtain ⟨h1, h2⟩ := List.max?_eq_some_iff.mp e
    refine ⟨q, a, rfl, ?_, ?_, fun m' h3 h4 => ?_⟩
    · rw [← r.ints]; exact .of e2
    · cases a with
      | nil => cases h1
      | cons _ _ => exact Nat.succ_pos _
    · have : m' = m := Int.le_antisymm (h2 m' h3) (h4 m h1)
      rw [this]
      exact p H G _ (Fr.refl gh) rfl
theorem m_min : Sem1 (wd := wd) kB kF (fun x => rMin K [x]) minI := by
  intro W σ B H G x a Q gh ⟨q, o, e1, e2, vs, e3, e4, r⟩ p
  subst e1; subst e3
  unfold minI at p
  cases e : a.min? with
  | none => rw [e] at p; exact p.elim
  | some m =>
    rw [e] at p
    obtain ⟨h1, h2⟩ := List.min?_eq_some_iff.mp e
    refine ⟨q, a, rfl, ?_, ?_, fun m' h3 h4 => ?_⟩
    · rw [← r.ints]; exact .of e2
    · cases a with
      | nil => cases h1
      | cons _ _ => exact Nat.succ_pos _
    · have : m' = m := Int.le_antisymm (h4 m h1) (h2 m' h3)
      rw [this]
      exact p H G _ (Fr.refl gh) rfl
theorem m_sum : Sem1 (wd := wd) kB kF (fun x => rSum K [x]) (fun (a : List Int) => .ok a.sum) := by
  intro W σ B H G x a Q gh ⟨q, o, e1, e2, vs, e3, e4, r⟩ p
  subst e1; subst e3
  exact ⟨q, a, rfl, by rw [← r.ints]; exact .of e2, p H G _ (Fr.refl gh) rfl⟩
theorem m_list [Rep α] : Sem1 (wd := wd) kB kO (fun x => (fun xs H Q => ∃ p ys, xs = [V.ref p] ∧ (SqL K H p ys ∨ SqT K H p ys) ∧ ∀ l, H l = none → Q (.ref l) (upd H l (.lst ys)) : List V → Hp → VK → Prop) [x]) (fun (a : List α) => .ok a) := by
  intro W σ B H G x a Q gh ⟨q, o, e1, e2, vs, e3, e4, r⟩ p
  subst e1; subst e3
  exact ⟨q, vs, rfl, .inl (.of e2), fun d nd => p _ _ _ (Fr.alloc gh nd) ⟨d, _, rfl, nd, gh.free nd, upd_same, _, rfl, e4, r⟩⟩
theorem m_listT [Rep α] : Sem1 (wd := wd) kF kO (fun x => (fun xs H Q => ∃ p ys, xs = [V.ref p] ∧ (SqL K H p ys ∨ SqT K H p ys) ∧ ∀ l, H l = none → Q (.ref l) (upd H l (.lst ys)) : List V → Hp → VK → Prop) [x]) (fun (a : Tup α) => .ok a.items) := by
  intro W σ B H G x a Q gh ⟨q, o, e1, e2, vs, e3, e4, r⟩ p
  subst e1; subst e3
  exact ⟨q, vs, rfl, .inr (.of (gh _ _ e2)), fun d nd => p _ _ _ (Fr.alloc gh nd) ⟨d, _, rfl, nd, gh.free nd, upd_same, _, rfl, e4, r⟩⟩
theorem m_tuple [Rep α] : Sem1 (wd := wd) kB kF (fun x => (fun xs H Q => ∃ p ys, xs = [V.ref p] ∧ ((SqL K H p ys ∧ ∀ l, H l = none → Q (.ref l) (upd H l (.tup ys))) ∨ (SqT K H p ys ∧ Q (.ref p) H)) : List V → Hp → VK → Prop) [x]) (fun (a : List α) => .ok (Tup.mk a)) := by
  intro W σ B H G x a Q gh ⟨q, o, e1, e2, vs, e3, e4, r⟩ p
  subst e1; subst e3
  exact ⟨q, vs, rfl, .inl ⟨.of e2, fun d nd => p _ _ _ ((Fr.alloc gh nd).freeze nd (gh.free nd) upd_same) ⟨d, _, rfl, upd_same, _, rfl, e4, r.mono (Same.upd' (Same.refl _) (gh.free nd))⟩⟩⟩
theorem m_in : Sem2 (wd := wd) kF kF kF (fun x y H Q => ∃ (c : Nat) (z : Str), x = .str ⟨#[c]⟩ ∧ y = .str z ∧ Q (.bl (decide (c ∈ z.cps.toList))) H) inS := by
  intro W σ B1 B2 H G x y a b Q gh hx hy p
  unfold inS at p
  cases e : oneCp a with
  | none => rw [e] at p; exact p.elim
  | some ch =>
    rw [e] at p
    exact ⟨ch, b, by rw [hx.1, oneCp_eq e], hy.1, p H G _ (Fr.refl gh) rfl⟩
theorem m_notin : Sem2 (wd := wd) kF kF kF (fun x y H Q => ∃ (c : Nat) (z : Str), x = .str ⟨#[c]⟩ ∧ y = .str z ∧ Q (.bl (!decide (c ∈ z.cps.toList))) H) notInS := by
  intro W σ B1 B2 H G x y a b Q gh hx hy p
  unfold notInS at p
  cases e : oneCp a with
  | none => rw [e] at p; exact p.elim
  | some ch =>
    rw [e] at p
    exact ⟨ch, b, by rw [hx.1, oneCp_eq e], hy.1, p H G _ (Fr.refl gh) rfl⟩
theorem flat_ints : ∀ as : List Int, (as.map V.int).all flatV = true
  | [] => rfl
  | _ :: as => flat_ints as
theorem inV_ints (a : Int) : ∀ as : List Int, inV (.int a) (as.map V.int) = decide (a ∈ as)
  | [] => rfl
  | b :: as => by
    show ((b == a) || inV (.int a) (as.map V.int)) = _
    rw [inV_ints a as, Bool.beq_eq_decide_eq]
    by_cases h : b = a
    · rw [decide_eq_true h, decide_eq_true (show a ∈ b :: as by rw [← h]; exact List.mem_cons_self)]; rfl
    · rw [decide_eq_false h]
      by_cases h2 : a ∈ as
      · rw [decide_eq_true h2, decide_eq_true (List.mem_cons_of_mem _ h2)]; rfl
      · rw [decide_eq_false h2, decide_eq_false fun z => (List.mem_cons.mp z).elim (fun q => h q.symm) h2]; rfl
theorem flat_strs : ∀ as : List Str, (as.map V.str).all flatV = true
  | [] => rfl
  | _ :: as => flat_strs as
theorem inV_strs (a : Str) : ∀ as : List Str, inV (.str a) (as.map V.str) = decide (a ∈ as)
  | [] => rfl
  | b :: as => by
    show ((b == a) || inV (.str a) (as.map V.str)) = _
    rw [inV_strs a as, show (b == a) = decide (b = a) from rfl]
    by_cases h : b = a
    · rw [decide_eq_true h, decide_eq_true (show a ∈ b :: as by rw [← h]; exact List.mem_cons_self)]; rfl
    · rw [decide_eq_false h]
      by_cases h2 : a ∈ as
      · rw [decide_eq_true h2, decide_eq_true (List.mem_cons_of_mem _ h2)]; rfl
      · rw [decide_eq_false h2, decide_eq_false fun z => (List.mem_cons.mp z).elim (fun q => h q.symm) h2]; rfl
theorem m_inI : Sem2 (wd := wd) kF kB kF (rIn K false) (fun (a : Int) (as : List Int) => .ok (decide (a ∈ as))) := by
  intro W σ B1 B2 H G x y a as Q gh hx ⟨q, o, e1, e2, vs, e3, e4, r⟩ p
  subst e1; subst e3
  rw [r.ints] at e2
  rw [show x = .int a from hx]
  refine ⟨q, _, rfl, .inl (.of e2), rfl, flat_ints as, ?_⟩
  show Q (.bl (inV _ _)) H
  rw [inV_ints]
  exact p H G _ (Fr.refl gh) rfl
theorem m_niI : Sem2 (wd := wd) kF kB kF (rIn K true) (fun (a : Int) (as : List Int) => .ok (!decide (a ∈ as))) := by
  intro W σ B1 B2 H G x y a as Q gh hx ⟨q, o, e1, e2, vs, e3, e4, r⟩ p
  subst e1; subst e3
  rw [r.ints] at e2
  rw [show x = .int a from hx]
  refine ⟨q, _, rfl, .inl (.of e2), rfl, flat_ints as, ?_⟩
  show Q (.bl (!inV _ _)) H
  rw [inV_ints]
  exact p H G _ (Fr.refl gh) rfl
theorem m_inStr : Sem2 (wd := wd) kF kB kF (rIn K false) (fun (a : Str) (as : List Str) => .ok (decide (a ∈ as))) := by
  intro W σ B1 B2 H G x y a as Q gh hx ⟨q, o, e1, e2, vs, e3, e4, r⟩ p
  subst e1; subst e3
  rw [r.strs] at e2
  rw [show x = .str a from hx.1]
  refine ⟨q, _, rfl, .inl (.of e2), rfl, flat_strs as, ?_⟩
  show Q (.bl (inV _ _)) H
  rw [inV_strs]
  exact p H G _ (Fr.refl gh) rfl
theorem m_niStr : Sem2 (wd := wd) kF kB kF (rIn K true) (fun (a : Str) (as : List Str) => .ok (!decide (a ∈ as))) := by
  intro W σ B1 B2 H G x y a as Q gh hx ⟨q, o, e1, e2, vs, e3, e4, r⟩ p
  subst e1; subst e3
  rw [r.strs] at e2
  rw [show x = .str a from hx.1]
  refine ⟨q, _, rfl, .inl (.of e2), rfl, flat_strs as, ?_⟩
  show Q (.bl (!inV _ _)) H
  rw [inV_strs]
  exact p H G _ (Fr.refl gh) rfl
end
section
variable {X : Cx} {F : Fx} {c : Ctx} {α : Type} {e : Expr} {pos : Pos}
theorem e_join {s : Expr} {ms : Ctx.T c → Rs Str} {m : Ctx.T c → Rs (List Str)} {apos : Pos} (ho : PE X s (tX F kF c ms)) (h : PE X e (tX F kB c m)) (hs : starEach [e] X.env = [(false, eval e X.env)] := by rfl) (hbase : attributeBase s "join" X.env (eval s X.env) = eval s X.env := by rfl) (hline : (apos.endLine == pos.line) = true := by rfl) :
    PE X (.Call (.Attribute s "join" apos) [e] [] pos) (tX F kF c fun γ => (ms γ).bind fun a => (m γ).bind fun xs => joinS a xs) :=
  pe_mono (pe_join ho h hs hbase hline) fun σ H Q ⟨H0, G0, G, os, γ, st, p⟩ => ⟨H0, G0, G, os, γ, st, p.step kF fun v H1 G1 a f1 r1 p1 => ⟨⟨a, r1.1⟩, H0, G0, G1, os, γ, st.ext f1, p1.step kB fun w H2 G2 xs f2 ⟨q, o, e1, e2, vs, e3, e4, r⟩ p2 => by
    subst e1; subst e3
    rw [r.strs] at e2
    unfold joinS at p2
    by_cases hz : (xs.map (·.length)).sum + xs.length * a.length ≤ 16777216 ∧ SOk (Txt.join a xs)
    · rw [if_pos hz] at p2
      exact ⟨a, q, xs, r1.1, rfl, .inl (.of e2), hz.1, p2 _ _ _ (Fr.refl f2.gh) ⟨rfl, hz.2⟩⟩
    · rw [if_neg hz] at p2
      exact p2.elim⟩⟩
/-- list(range(..)) -/
def RngL (lo hi : Int) : Rs (List Int) := if -4611686018427387904 ≤ lo ∧ lo ≤ 4611686018427387903 ∧ -4611686018427387904 ≤ hi ∧ hi ≤ 4611686018427387903 ∧ (hi - lo).toNat ≤ 16777216 then .ok (rng lo hi) else .no
theorem rgV_rng (a b : Int) : rgV a b = (rng a b).map V.int := by
  unfold rgV rng
  rw [List.map_map]
  rfl
theorem e_listR2 {a b : Expr} {ma mb : Ctx.T c → Rs Int} {p p2 pos2 : Pos} (hc : X.calm = true) (hl : X.mg "list" = none) (hm : X.mg "range" = none) (ha : PE X a (tX F kF c ma)) (hb : PE X b (tX F kF c mb)) (hgl : Gl X "list" := by rfl) (hg : Gl X "range" := by rfl)
    (na : starEach [a, b] X.env = (false, eval a X.env) :: starEach [b] X.env := by rfl) (nb : starEach [b] X.env = (false, eval b X.env) :: starEach [] X.env := by rfl) (hp : (backTo pos2 (starEach [b] X.env)).any (·.1) = false := by rfl) (ne : starEach [.Call (.Name "range" p2) [a, b] [] pos2] X.env = (false, eval (.Call (.Name "range" p2) [a, b] [] pos2) X.env) :: starEach [] X.env := by rfl) :
    PE X (.Call (.Name "list" p) [.Call (.Name "range" p2) [a, b] [] pos2] [] pos) (tX F kO c fun γ => (ma γ).bind fun x => (mb γ).bind fun y => RngL x y) :=
  pe_mono (pe_listRg hc hgl hl (prg_2 hg hm ha hb na nb hp) ne) fun σ H Q ⟨H0, G0, G, os, γ, st, p⟩ => ⟨H0, G0, G, os, γ, st, p.step kF fun v H1 G1 x f1 r1 p1 => ⟨H0, G0, G1, os, γ, st.ext f1, p1.step kF fun w H2 G2 y f2 r2 p2 => by
    unfold RngL at p2
    by_cases hz : -4611686018427387904 ≤ x ∧ x ≤ 4611686018427387903 ∧ -4611686018427387904 ≤ y ∧ y ≤ 4611686018427387903 ∧ (y - x).toNat ≤ 16777216
    · rw [if_pos hz] at p2
      refine ⟨x, y, r1, r2, ⟨by omega, by omega, by omega, by omega, by omega⟩, fun d nd => p2 _ _ _ (Fr.alloc f2.gh nd) ⟨d, _, rfl, nd, f2.gh.free nd, upd_same, _, rfl, by rw [rgV_length, sizeLine_eq]; exact hz.2.2.2.2, ?_⟩⟩
      rw [rgV_rng]
      exact reps.of_ints
    · rw [if_neg hz] at p2
      exact p2.elim⟩⟩
theorem e_listR1 {a : Expr} {ma : Ctx.T c → Rs Int} {p p2 pos2 : Pos} (hc : X.calm = true) (hl : X.mg "list" = none) (hm : X.mg "range" = none) (ha : PE X a (tX F kF c ma)) (hgl : Gl X "list" := by rfl) (hg : Gl X "range" := by rfl)
    (na : starEach [a] X.env = (false, eval a X.env) :: starEach [] X.env := by rfl) (ne : starEach [.Call (.Name "range" p2) [a] [] pos2] X.env = (false, eval (.Call (.Name "range" p2) [a] [] pos2) X.env) :: starEach [] X.env := by rfl) :
    PE X (.Call (.Name "list" p) [.Call (.Name "range" p2) [a] [] pos2] [] pos) (tX F kO c fun γ => (ma γ).bind fun y => RngL 0 y) :=
  pe_mono (pe_listRg hc hgl hl (prg_1 hg hm ha na) ne) fun σ H Q ⟨H0, G0, G, os, γ, st, p⟩ => ⟨H0, G0, G, os, γ, st, p.step kF fun v H1 G1 y f1 r1 p1 => by
    unfold RngL at p1
    by_cases hz : -4611686018427387904 ≤ (0 : Int) ∧ (0 : Int) ≤ 4611686018427387903 ∧ -4611686018427387904 ≤ y ∧ y ≤ 4611686018427387903 ∧ (y - 0).toNat ≤ 16777216
    · rw [if_pos hz] at p1
      refine ⟨y, r1, ⟨by omega, by omega, by omega, by omega, by omega⟩, fun d nd => p1 _ _ _ (Fr.alloc f1.gh nd) ⟨d, _, rfl, nd, f1.gh.free nd, upd_same, _, rfl, by rw [rgV_length, sizeLine_eq]; exact hz.2.2.2.2, ?_⟩⟩
      rw [rgV_rng]
      exact reps.of_ints
    · rw [if_neg hz] at p1
      exact p1.elim⟩
/-! ### built-ins -/
theorem bt_len : bootBuiltins "len" = some (.builtin "len") := by decide +kernel
theorem bt_max : bootBuiltins "max" = some (.builtin "max") := by decide +kernel
theorem bt_min : bootBuiltins "min" = some (.builtin "min") := by decide +kernel
theorem bt_sum : bootBuiltins "sum" = some (.builtin "sum") := by decide +kernel
theorem bt_int : bootBuiltins "int" = some (.type "int") := by decide +kernel
theorem bt_bool : bootBuiltins "bool" = some (.type "bool") := by decide +kernel
theorem bt_str : bootBuiltins "str" = some (.type "str") := by decide +kernel
theorem bt_list : bootBuiltins "list" = some (.type "list") := by decide +kernel
theorem bt_tuple : bootBuiltins "tuple" = some (.type "tuple") := by decide +kernel
theorem bt_dict : bootBuiltins "dict" = some (.type "dict") := by decide +kernel
/-! ### isinstance -/
theorem e_isi {k : Kd F.wd α} {m : Ctx.T c → Rs α} {t : α → Value} {b : α → Bool} {x y : Str} {u : Value} {cv : V} {p p2 : Pos} (hm : X.mg x = none) (ha : PE X e (tX F k c m)) (hc : PE X (.Name y p2) (tC cv)) (hu : ClsV cv u) (ht : ∀ {B H G v a}, Same G H → k.rel B H G v a → TyX X.K H v (t a)) (hb : ∀ a, PySem.W.kitOne X.K (t a) u = some (b a)) (hx : x = "isinstance" := by rfl) (hg : Gl X x := by rfl) (hv : bootBuiltins x = some (.builtin "isinstance") := by decide +kernel) (hn : x ≠ "__name__" := by decide) (hdb : (x == ("__debug__" : Str)) = false := by decide)
    (he : starEach (e :: .Name y p2 :: []) X.env = (false, eval e X.env) :: starEach (.Name y p2 :: []) X.env := by rfl) (he2 : starEach (.Name y p2 :: []) X.env = (false, eval (.Name y p2) X.env) :: starEach [] X.env := by rfl) (hpl : (backTo pos (starEach (.Name y p2 :: []) X.env)).any (·.1) = false := by rfl) :
    PE X (.Call (.Name x p) [e, .Name y p2] [] pos) (tX F kF c fun γ => (m γ).bind fun a => .ok (b a)) :=
  pe_mono (pe_callB call_isi hg hm hv (pa_cons ha (pa_cons hc pa_nil he2) he) hn hdb he hpl) fun σ H Q ⟨H0, G0, G, os, γ, st, p⟩ => ⟨H0, G0, G, os, γ, st, p.step k fun v H1 G1 a f1 r1 p1 =>
    ⟨v, cv, t a, u, b a, rfl, hu, ht f1.gh r1, hb a, p1 _ _ _ (Fr.refl f1.gh) rfl⟩⟩
theorem ty_int {wd : Wd} {K : PySem.W.Frag} {B H G : Hp} {v : V} {a : Int} (_ : Same G H) (h : (kF (wd := wd)).rel B H G v a) : TyX K H v (.type "int") := by rw [show v = .int a from h]; exact .base (.int a)
theorem ty_bool {wd : Wd} {K : PySem.W.Frag} {B H G : Hp} {v : V} {a : Bool} (_ : Same G H) (h : (kF (wd := wd)).rel B H G v a) : TyX K H v (.type "bool") := by rw [show v = .bl a from h]; exact .base (.bl a)
theorem ty_str {wd : Wd} {K : PySem.W.Frag} {B H G : Hp} {v : V} {a : Str} (_ : Same G H) (h : (kF (wd := wd)).rel B H G v a) : TyX K H v (.type "str") := by rw [show v = .str a from h.1]; exact .base (.str a)
theorem ty_listB {wd : Wd} {K : PySem.W.Frag} [Rep α] {B H G : Hp} {v : V} {a : List α} (_ : Same G H) (h : (kB (wd := wd)).rel B H G v a) : TyX K H v (.type "list") := by
  obtain ⟨q, o, e1, e2, vs, e3, e4, r⟩ := h
  subst e1; subst e3
  exact .base (.lst e2)
theorem ty_tup {wd : Wd} {K : PySem.W.Frag} [Rep α] {B H G : Hp} {v : V} {a : Tup α} (s : Same G H) (h : (kF (wd := wd)).rel B H G v a) : TyX K H v (.type "tuple") := by
  obtain ⟨q, o, e1, e2, vs, e3, e4, r⟩ := h
  subst e1; subst e3
  exact .base (.tup (s _ _ e2))
theorem ty_pair {wd : Wd} {K : PySem.W.Frag} {β : Type} [Rep α] [Rep β] {B H G : Hp} {v : V} {a : α × β} (s : Same G H) (h : (kF (wd := wd)).rel B H G v a) : TyX K H v (.type "tuple") := by
  obtain ⟨q, o, e1, e2, v1, v2, e3, r1, r2⟩ := h
  subst e1; subst e3
  exact .base (.tup (s _ _ e2))
end
end Wm
set_option Elab.async false
set_option linter.all false
set_option maxRecDepth 100000
set_option maxHeartbeats 4000000
namespace Wm
open PySem PySem.Spec PyProof.Rows L2
/-! ### plain laws of the mirrors' words -/
section
variable {α β γ ρ : Type}
/-- not a rfl-law: simp then builds its proof by congruence, and the kernel never unfolds a Rng -/
theorem Rs.bo (a : α) (f : α → Rs β) : (Rs.ok a).bind f = f a := Eq.trans (Eq.refl _) (Eq.refl _)
theorem Rs.bind_is {r : Rs α} {a : α} {f : α → Rs β} (h : r = .ok a) : r.bind f = f a := by rw [h]; rfl
theorem fold_inv {f : γ → α → Rs γ} {xs : List α} {g : γ} (I : Nat → γ → Prop) (h0 : I 0 g) (hs : ∀ i a g, xs[i]? = some a → I i g → ∃ g', f g a = .ok g' ∧ I (i + 1) g') : ∃ g', Rs.fold f g xs = .ok g' ∧ I xs.length g' := by
  induction xs generalizing g I with
  | nil => exact ⟨g, rfl, h0⟩
  | cons x xs ih =>
    obtain ⟨g1, e1, i1⟩ := hs 0 x g rfl h0
    obtain ⟨g2, e2, i2⟩ := ih (fun i g => I (i + 1) g) i1 fun i a g ha hi => hs (i + 1) a g ha hi
    exact ⟨g2, by show (f g x).bind _ = _; rw [e1]; exact e2, i2⟩
theorem foldR_inv {f : γ → α → Rs (γ ⊕ ρ)} {xs : List α} {g : γ} (I : Nat → γ → Prop) (h0 : I 0 g) (hs : ∀ i a g, xs[i]? = some a → I i g → ∃ g', f g a = .ok (.inl g') ∧ I (i + 1) g') : ∃ g', Rs.foldR f g xs = .ok (.inl g') ∧ I xs.length g' := by
  induction xs generalizing g I with
  | nil => exact ⟨g, rfl, h0⟩
  | cons x xs ih =>
    obtain ⟨g1, e1, i1⟩ := hs 0 x g rfl h0
    obtain ⟨g2, e2, i2⟩ := ih (fun i g => I (i + 1) g) i1 fun i a g ha hi => hs (i + 1) a g ha hi
    exact ⟨g2, by simp only [Rs.foldR]; rw [e1]; exact e2, i2⟩
/-- a loop that looks for the first item at which it returns -/
theorem foldR_find {f : γ → α → Rs (γ ⊕ ρ)} {xs : List α} {g : γ} {p : α → Bool} {r : α → ρ} (ht : ∀ x ∈ xs, p x = true → f g x = .ok (.inr (r x))) (hf : ∀ x ∈ xs, p x = false → f g x = .ok (.inl g)) :
    Rs.foldR f g xs = .ok (match xs.find? p with | some x => .inr (r x) | none => .inl g) := by
  induction xs with
  | nil => rfl
  | cons x xs ih =>
    simp only [Rs.foldR]
    cases e : p x with
    | true => rw [ht x List.mem_cons_self e, List.find?_cons_of_pos e]; rfl
    | false =>
      rw [hf x List.mem_cons_self e, List.find?_cons_of_neg (by rw [e]; exact Bool.false_ne_true)]
      exact ih (fun y hy => ht y (List.mem_cons_of_mem _ hy)) fun y hy => hf y (List.mem_cons_of_mem _ hy)
theorem comp_map {t : α → Rs Bool} {f : α → Rs β} {g : α → β} : ∀ {xs : List α}, (∀ x ∈ xs, t x = .ok true) → (∀ x ∈ xs, f x = .ok (g x)) → Rs.comp t f xs = .ok (xs.map g)
  | [], _, _ => rfl
  | x :: xs, ht, hf => by
    simp only [Rs.comp]
    rw [ht x List.mem_cons_self, hf x List.mem_cons_self, comp_map (fun y hy => ht y (List.mem_cons_of_mem _ hy)) fun y hy => hf y (List.mem_cons_of_mem _ hy)]
    rfl
theorem comp_filter {t : α → Rs Bool} {f : α → Rs β} {p : α → Bool} {g : α → β} : ∀ {xs : List α}, (∀ x ∈ xs, t x = .ok (p x)) → (∀ x ∈ xs, p x = true → f x = .ok (g x)) → Rs.comp t f xs = .ok ((xs.filter p).map g)
  | [], _, _ => rfl
  | x :: xs, ht, hf => by
    have ih := comp_filter (xs := xs) (fun y hy => ht y (List.mem_cons_of_mem _ hy)) fun y hy => hf y (List.mem_cons_of_mem _ hy)
    simp only [Rs.comp]
    rw [ht x List.mem_cons_self]
    cases e : p x with
    | true => rw [hf x List.mem_cons_self e, ih, List.filter_cons_of_pos e]; rfl
    | false => rw [List.filter_cons_of_neg (by rw [e]; exact Bool.false_ne_true)]; exact ih
theorem comp_ex {t : α → Rs Bool} {f : α → Rs β} (P : Nat → β → Prop) : ∀ {xs : List α} (ht : ∀ x ∈ xs, t x = .ok true) (hf : ∀ i x, xs[i]? = some x → ∃ y, f x = .ok y ∧ P i y), ∃ ys, Rs.comp t f xs = .ok ys ∧ ys.length = xs.length ∧ ∀ i y, ys[i]? = some y → P i y
  | [], _, _ => ⟨[], rfl, rfl, fun i y h => by simp at h⟩
  | x :: xs, ht, hf => by
    obtain ⟨y, e, hy⟩ := hf 0 x rfl
    obtain ⟨ys, e2, l, h⟩ := comp_ex (fun i => P (i + 1)) (xs := xs) (fun z hz => ht z (List.mem_cons_of_mem _ hz)) fun i z hz => hf (i + 1) z hz
    refine ⟨y :: ys, ?_, congrArg (· + 1) l, fun i z hz => ?_⟩
    · simp only [Rs.comp]
      rw [ht x List.mem_cons_self, e, e2]
      rfl
    · cases i with
      | zero => cases hz; exact hy
      | succ i => exact h i z hz
theorem ixN_nat {n i : Nat} (h : i < n) : ixN n (i : Int) = some i := by
  unfold ixN
  rw [if_pos (by omega), if_pos (by omega)]
  simp
theorem getI_nat {xs : List α} {i : Nat} {a : α} (h : xs[i]? = some a) : getI xs (i : Int) = .ok a := by
  unfold getI
  rw [atI_nat h]
theorem getI_int {xs : List α} {k : Int} {a : α} (h0 : 0 ≤ k) (h : xs[k.toNat]? = some a) : getI xs k = .ok a := by
  have : k = ((k.toNat : Nat) : Int) := by omega
  rw [this]
  exact getI_nat h
theorem getI_ex {xs : List α} {k : Int} (h0 : 0 ≤ k) (h : k < xs.length) : ∃ a, xs[k.toNat]? = some a ∧ getI xs k = .ok a :=
  ⟨xs[k.toNat]'(by omega), List.getElem?_eq_getElem (by omega), getI_int h0 (List.getElem?_eq_getElem (by omega))⟩
theorem setI_nat {xs : List α} {i : Nat} {a : α} (h : i < xs.length) : setI xs (i : Int) a = .ok (xs.set i a) := by
  unfold setI
  rw [ixN_nat h]
theorem appI_ok {xs : List α} {a : α} (h : xs.length < 16777216) : appI xs a = .ok (xs ++ [a]) := if_pos h
theorem catI_ok {xs ys : List α} (h : xs.length + ys.length ≤ 16777216) : catI xs ys = .ok (xs ++ ys) := if_pos h
theorem repI_ok {xs : List α} {k : Int} (h0 : 0 ≤ k) (h1 : k ≤ 16777216) (h : xs.length * k.toNat ≤ 16777216) : repI xs k = .ok (List.replicate k.toNat xs).flatten := if_pos ⟨by omega, by omega, h⟩
theorem repI_one {a : α} {k : Int} (h0 : 0 ≤ k) (h1 : k ≤ 16777216) : repI [a] k = .ok (List.replicate k.toNat a) := by
  rw [repI_ok h0 h1 (by show 1 * k.toNat ≤ _; omega)]
  congr 1
  induction k.toNat with
  | zero => rfl
  | succ n ih => rw [List.replicate_succ, List.replicate_succ, List.flatten_cons, ih]; rfl
theorem Rng_ok {lo hi : Int} (h0 : -4611686018427387904 ≤ lo) (h1 : lo ≤ 4611686018427387903) (h2 : -4611686018427387904 ≤ hi) (h3 : hi ≤ 4611686018427387903) : Rng lo hi = .ok (rng lo hi) := if_pos ⟨h0, h1, h2, h3⟩
theorem Rng_nat {n : Nat} (h : n ≤ 16777216) : Rng 0 (n : Int) = .ok (rng 0 n) := Rng_ok (by decide) (by decide) (by omega) (by omega)
theorem RngL_ok {lo hi : Int} (h0 : -4611686018427387904 ≤ lo) (h1 : lo ≤ 4611686018427387903) (h2 : -4611686018427387904 ≤ hi) (h3 : hi ≤ 4611686018427387903) (h : (hi - lo).toNat ≤ 16777216) : RngL lo hi = .ok (rng lo hi) := if_pos ⟨h0, h1, h2, h3, h⟩
theorem rng0_len (n : Nat) : (rng 0 (n : Int)).length = n := by rw [rng_len]; omega
theorem rng_at {lo hi : Int} {i : Nat} (h : i < (hi - lo).toNat) : (rng lo hi)[i]? = some (lo + i) := by
  unfold rng
  rw [List.getElem?_map, List.getElem?_range h]
  rfl
theorem mem_rng {lo hi a : Int} : a ∈ rng lo hi ↔ lo ≤ a ∧ a < hi := by
  unfold rng
  rw [List.mem_map]
  constructor
  · rintro ⟨i, hi', rfl⟩
    rw [List.mem_range] at hi'
    omega
  · rintro ⟨h1, h2⟩
    exact ⟨(a - lo).toNat, by rw [List.mem_range]; omega, by omega⟩
theorem CMul_l {i j : Int} (h0 : -1000000000000 ≤ i) (h1 : i ≤ 1000000000000) : CMul i j := .inl ⟨by omega, by omega⟩
theorem CMul_r {i j : Int} (h0 : -1000000000000 ≤ j) (h1 : j ≤ 1000000000000) : CMul i j := .inr ⟨by omega, by omega⟩
theorem CDiv_of {i j : Int} (h0 : 0 < j) (h1 : j < 1000000000) : CDiv i j := ⟨h0, by omega⟩
theorem chars_get {z : Str} {i : Nat} {c : Nat} (h : z.cps.toList[i]? = some c) : (chars z)[i]? = some ⟨#[c]⟩ := by
  unfold chars
  rw [List.getElem?_map, h]
  rfl
theorem chars_len (z : Str) : (chars z).length = z.length := by unfold chars; rw [List.length_map, Str.len_toList]
theorem oneCp_one (c : Nat) : oneCp ⟨#[c]⟩ = some c := rfl
theorem left_inl {r : Rs (γ ⊕ ρ)} {g : γ} {f : γ → Rs ρ} (h : r = .ok (.inl g)) : Rs.left r f = f g := by rw [h]; rfl
theorem left_inr {r : Rs (γ ⊕ ρ)} {x : ρ} {f : γ → Rs ρ} (h : r = .ok (.inr x)) : Rs.left r f = .ok x := by rw [h]; rfl
theorem leftG_inl {δ : Type} {r : Rs (γ ⊕ ρ)} {g : γ} {f : γ → Rs (δ ⊕ ρ)} (h : r = .ok (.inl g)) : Rs.leftG r f = f g := by rw [h]; rfl
theorem Str.ext' {a b : Str} (h : a.cps.toList = b.cps.toList) : a = b := by
  obtain ⟨x⟩ := a
  obtain ⟨y⟩ := b
  congr 1
  exact Array.ext' h
theorem app_list (a b : Str) : (a ++ b).cps.toList = a.cps.toList ++ b.cps.toList := by
  show (a.cps ++ b.cps).toList = _
  exact Array.toList_append
theorem app_len (a b : Str) : (a ++ b).length = a.length + b.length := by
  rw [Str.len_toList, Str.len_toList, Str.len_toList, app_list, List.length_append]
theorem join_e : ∀ xs : List Str, (Str.join "" xs).cps.toList = xs.flatMap fun x => x.cps.toList
  | [] => rfl
  | [x] => by rw [List.flatMap_cons, List.flatMap_nil, List.append_nil]; rfl
  | x :: y :: r => by
    rw [show Str.join "" (x :: y :: r) = x ++ "" ++ Str.join "" (y :: r) from rfl, app_list, app_list, join_e (y :: r), List.flatMap_cons (x := x)]
    rw [show ("" : Str).cps.toList = [] from rfl, List.append_nil]
theorem flat_len (xs : List Str) : (xs.flatMap fun x => x.cps.toList).length = (xs.map (·.length)).sum := by
  rw [List.length_flatMap]
  congr 1
theorem joinS_e {xs : List Str} (h : ∀ x ∈ xs, SOk x) (hl : (xs.map (·.length)).sum ≤ 16777216) : joinS "" xs = .ok ⟨(xs.flatMap fun x => x.cps.toList).toArray⟩ := by
  have e : Txt.join "" xs = ⟨(xs.flatMap fun x => x.cps.toList).toArray⟩ := by
    apply Str.ext'
    rw [TL.join_eq, join_e]
  unfold joinS
  rw [e, if_pos]
  refine ⟨?_, ?_, fun c hc => ?_⟩
  · rw [show ("" : Str).length = 0 from rfl]; omega
  · show (List.toArray _).toList.length ≤ _
    rw [List.toList_toArray, flat_len]; exact hl
  · have hc' : c ∈ (List.toArray _).toList := hc
    rw [List.toList_toArray, List.mem_flatMap] at hc'
    obtain ⟨x, hx, hcx⟩ := hc'
    exact (h x hx).2 c hcx
/-- one sign each -/
def One (x : Str) : Prop := ∃ c : Nat, x = ⟨#[c]⟩ ∧ c < 1114112
theorem one_chars {z : Str} (hz : ∀ c ∈ z.cps.toList, c < 1114112) {x : Str} (h : x ∈ chars z) : One x := by
  unfold chars at h
  rw [List.mem_map] at h
  obtain ⟨c, hc, rfl⟩ := h
  exact ⟨c, rfl, hz c hc⟩
theorem sum_ones : ∀ xs : List Str, (∀ x ∈ xs, One x) → (xs.map (·.length)).sum = xs.length
  | [], _ => rfl
  | x :: xs, h => by
    obtain ⟨c, e, _⟩ := h x List.mem_cons_self
    rw [List.map_cons, List.sum_cons, sum_ones xs fun y hy => h y (List.mem_cons_of_mem _ hy), e, List.length_cons]
    show 1 + _ = _
    omega
theorem joinS_ones {xs : List Str} (h : ∀ x ∈ xs, One x) (hl : xs.length ≤ 16777216) : ∃ t, joinS "" xs = .ok t ∧ t.length = xs.length ∧ t.cps.toList = xs.flatMap (fun x => x.cps.toList) ∧ SOk t := by
  have hs : ∀ x ∈ xs, SOk x := fun x hx => by
    obtain ⟨c, rfl, hc⟩ := h x hx
    exact SOk.one hc
  have hn := sum_ones xs h
  have e1 := flat_len xs
  rw [hn] at e1
  refine ⟨_, joinS_e hs (by rw [hn]; exact hl), ?_, ?_, ?_⟩
  · rw [Str.len_toList]
    show (List.toArray _).toList.length = _
    rw [List.toList_toArray]; exact e1
  · show (List.toArray _).toList = _
    rw [List.toList_toArray]
  · refine ⟨?_, fun c hc => ?_⟩
    · show (List.toArray _).toList.length ≤ _
      rw [List.toList_toArray]; omega
    · have hc' : c ∈ (List.toArray _).toList := hc
      rw [List.toList_toArray, List.mem_flatMap] at hc'
      obtain ⟨x, hx, hcx⟩ := hc'
      exact (hs x hx).2 c hcx
theorem cut_len (a : Str) (lo hi : Option Int) : (cutS a lo hi).length ≤ a.length := by
  rw [Str.len_toList, Str.len_toList]
  unfold cutS
  show (List.toArray _).toList.length ≤ _
  rw [List.toList_toArray, List.length_take, List.length_drop]
  omega
theorem catS_ok {a b : Str} (h : a.length + b.length ≤ 16777216) : catS a b = .ok (a ++ b) := if_pos h
theorem foldR_test {f : γ → α → Rs (γ ⊕ ρ)} {xs : List α} {g : γ} (p : α → Bool) {r : ρ} (h : ∀ x ∈ xs, f g x = .ok (if p x = true then .inr r else .inl g)) :
    Rs.foldR f g xs = .ok (if xs.any p = true then .inr r else .inl g) := by
  induction xs with
  | nil => rfl
  | cons x xs ih =>
    simp only [Rs.foldR]
    rw [h x List.mem_cons_self]
    cases e : p x with
    | true => simp [Rs.bind, e]
    | false => simpa [Rs.bind, e] using ih fun y hy => h y (List.mem_cons_of_mem _ hy)
theorem notInS_one (c : Nat) (z : Str) : notInS ⟨#[c]⟩ z = .ok (!decide (c ∈ z.cps.toList)) := rfl
theorem inS_one (c : Nat) (z : Str) : inS ⟨#[c]⟩ z = .ok (decide (c ∈ z.cps.toList)) := rfl
/-- is some sign of x missing in z? -/
def misses (z : Str) (x : Str) : Bool := match oneCp x with | some c => !decide (c ∈ z.cps.toList) | none => false
theorem misses_chars {t z x : Str} (h : x ∈ chars t) : notInS x z = .ok (misses z x) := by
  unfold chars at h
  rw [List.mem_map] at h
  obtain ⟨c, hc, rfl⟩ := h
  rfl
theorem left_if {b : Bool} {r : ρ} {g : γ} {f : γ → Rs ρ} : Rs.left (.ok (if b = true then .inr r else .inl g)) f = if b = true then .ok r else f g := by cases b <;> rfl
theorem ok_if {b : Bool} {x y : α} : (if b = true then Rs.ok x else Rs.ok y) = Rs.ok (if b = true then x else y) := by cases b <;> rfl
end
end Wm
set_option Elab.async false
set_option linter.all false
set_option maxRecDepth 100000
set_option maxHeartbeats 4000000
namespace Wm
open PySem PySem.Spec PyProof.Rows L2
open Rep (rep)
open Own (own)
/-! ### none, or an object of one's own -/
def kQ {wd : Wd} {β : Type} [Own β] : Kd wd (Option β) :=
  ⟨fun B H G v b => match b with | none => v = .non | some b => ∃ p o, v = .ref p ∧ B p = none ∧ G p = none ∧ H p = some o ∧ own wd G o b,
   fun {B H G H' G' v a} h f => by
     cases a with
     | none => exact h
     | some b =>
       obtain ⟨p, o, e, n, g, h, w⟩ := h
       exact ⟨p, o, e, n, f.out h g, f.h _ _ h, Own.mono f.g w⟩,
   fun {B B' H G v a} s h => by
     cases a with
     | none => exact h
     | some b =>
       obtain ⟨p, o, e, n, g, h, w⟩ := h
       exact ⟨p, o, e, s.free n, g, h, w⟩⟩
def kN {wd : Wd} {β : Type} [Own β] : Kd wd (Option β) :=
  ⟨fun _ H G v b => match b with | none => v = .non | some b => ∃ p o, v = .ref p ∧ H p = some o ∧ own wd G o b,
   fun {B H G H' G' v a} h f => by
     cases a with
     | none => exact h
     | some b =>
       obtain ⟨p, o, e, h, w⟩ := h
       exact ⟨p, o, e, f.h _ _ h, Own.mono f.g w⟩,
   fun _ h => h⟩
def theI {α : Type} (o : Option α) : Rs α := match o with | some a => .ok a | none => .no
section
variable {X : Cx} {F : Fx} {c c' : Ctx} {α β ρ : Type} {e : Expr} {pos : Pos}
/-- from one kind to another, where the results agree -/
theorem e_kk {k1 : Kd F.wd α} {k2 : Kd F.wd α} {m : Ctx.T c → Rs α} (i : ∀ {H' G' H G : Hp} {v a}, Fr H G H' G' → k1.rel H H' G' v a → ∃ G2, Fr H G H' G2 ∧ k2.rel H H' G2 v a) (h : PE X e (tX F k1 c m)) : PE X e (tX F k2 c m) :=
  pe_mono h fun σ H Q ⟨H0, G0, G, os, γ, st, p⟩ => ⟨H0, G0, G, os, γ, st, by
    cases e : m γ with
    | no => rw [e] at p; exact p
    | ex x => rw [e] at p; exact p
    | ok b =>
      rw [e] at p
      exact fun H' G' v f r => by
        obtain ⟨G2, f2, r2⟩ := i f r
        exact p H' G2 v f2 r2⟩
theorem e_qn [Own β] {m : Ctx.T c → Rs (Option β)} (h : PE X e (tX F kQ c m)) : PE X e (tX F kN c m) := e_kk (fun {H' G' H G v a} f r => ⟨G', f, by
  cases a with
  | none => exact r
  | some b =>
    obtain ⟨p, o, e, n, g, h, w⟩ := r
    exact ⟨p, o, e, h, w⟩⟩) h
theorem e_qf [Own β] {m : Ctx.T c → Rs (Option β)} (h : PE X e (tX F kQ c m)) : PE X e (tX F kF c m) := e_kk (fun {H' G' H G v a} f r => by
  cases a with
  | none => exact ⟨G', f, r⟩
  | some b =>
    obtain ⟨q, o, e1, e2, e3, e4, e5⟩ := r
    exact ⟨upd G' q o, f.freeze e2 e3 e4, q, o, e1, upd_same, Own.mono (Same.upd' (Same.refl G') e3) e5⟩) h
theorem e_fn [Own β] {m : Ctx.T c → Rs (Option β)} (h : PE X e (tX F kF c m)) : PE X e (tX F kN c m) := e_kk (fun {H' G' H G v a} f r => ⟨G', f, by
  cases a with
  | none => exact r
  | some b =>
    obtain ⟨p, o, e, h, w⟩ := r
    exact ⟨p, o, e, f.gh _ _ h, w⟩⟩) h
theorem e_nonQ [Own β] {j pos} : PE X (.Constant .none j pos) (tX F kQ c fun _ => .ok (none : Option β)) := pe_mono pe_non fun σ H Q ⟨H0, G0, G, os, γ, st, p⟩ => p H G .non (Fr.refl st.f.gh) rfl
theorem e_someQ [Own β] {m : Ctx.T c → Rs β} (h : PE X e (tX F kO c m)) : PE X e (tX F kQ c fun γ => (m γ).bind fun a => .ok (some a)) :=
  pe_mono h fun σ H Q ⟨H0, G0, G, os, γ, st, p⟩ => ⟨H0, G0, G, os, γ, st, by
    dsimp only at p
    cases e : m γ with
    | no => rw [e] at p; exact p
    | ex x => rw [e] at p; exact p
    | ok b => rw [e] at p; exact fun H' G' v f r => p H' G' v f r⟩
theorem e_varQ [Own β] {i : Nat} (v : Var c (.oo i β)) {x : Str} (hN : X.N[i]? = some x := by rfl) (hv : Vis X.env.scope x := by first | exact Or.inl rfl | exact Or.inr (Or.inl rfl) | exact Or.inr (Or.inr rfl))
    (hd : (x == ("__debug__" : Str)) = false := by decide) (hcd : (x == ("__classdict__" : Str)) = false := by decide) : PE X (.Name x pos) (tX F kN c fun γ => .ok (v.get γ)) :=
  pe_mono (pe_var hN hv hd hcd) fun σ H Q ⟨H0, G0, G, os, γ, st, p⟩ => by
    dsimp only at p
    rcases v.oo st.r with ⟨e, h1⟩ | ⟨b, q, o, e, _, h1, h2, h3⟩
    · rw [e] at p
      exact ⟨.non, h1, p H G _ (Fr.refl st.f.gh) rfl⟩
    · rw [e] at p
      exact ⟨.ref q, h1, p H G _ (Fr.refl st.f.gh) ⟨q, o, rfl, h2, h3⟩⟩
/-- what is there -/
theorem e_nar [Own β] {m : Ctx.T c → Rs (Option β)} (h : PE X e (tX F kN c m)) : PE X e (tX F kB c fun γ => (m γ).bind theI) :=
  pe_mono h fun σ H Q ⟨H0, G0, G, os, γ, st, p⟩ => ⟨H0, G0, G, os, γ, st, p.step kN fun v H1 G1 a fr ra p1 => by
    cases a with
    | none => exact p1.elim
    | some b => exact p1 H1 G1 v (Fr.refl fr.gh) ra⟩
theorem e_narF [Rep α] {m : Ctx.T c → Rs (Option α)} (h : PE X e (tX F kF c m)) : PE X e (tX F kF c fun γ => (m γ).bind theI) :=
  pe_mono h fun σ H Q ⟨H0, G0, G, os, γ, st, p⟩ => ⟨H0, G0, G, os, γ, st, p.step kF fun v H1 G1 a fr ra p1 => by
    cases a with
    | none => exact p1.elim
    | some b => exact p1 H1 G1 v (Fr.refl fr.gh) ra⟩
theorem m_isNN {wd : Wd} [Own β] : Sem2 (wd := wd) kN kF kF (fun x y H Q => y = .non ∧ Q (.bl (decide (x = .non))) H) (fun (a : Option β) (_ : Unit) => .ok a.isNone) := by
  intro W σ B1 B2 H G x y a b Q gh hx hy p
  refine ⟨hy, ?_⟩
  have e : decide (x = .non) = a.isNone := by
    cases a with
    | none => exact decide_eq_true hx
    | some a =>
      obtain ⟨p, o, e, _⟩ := hx
      exact decide_eq_false (by rw [e]; exact nofun)
  rw [e]
  exact p H G _ (Fr.refl gh) rfl
theorem m_notNN {wd : Wd} [Own β] : Sem2 (wd := wd) kN kF kF (fun x y H Q => y = .non ∧ Q (.bl (!decide (x = .non))) H) (fun (a : Option β) (_ : Unit) => .ok a.isSome) := by
  intro W σ B1 B2 H G x y a b Q gh hx hy p
  refine ⟨hy, ?_⟩
  have e : (!decide (x = .non)) = a.isSome := by
    cases a with
    | none => rw [decide_eq_true (show x = .non from hx)]; rfl
    | some a =>
      obtain ⟨p, o, e, _⟩ := hx
      rw [decide_eq_false (by rw [e]; exact nofun)]; rfl
  rw [e]
  exact p H G _ (Fr.refl gh) rfl
theorem ty_optN {wd : Wd} {K : PySem.W.Frag} [Rep α] {B H G : Hp} {v : V} {a : Option (List α)} (_ : Same G H) (h : (kN (wd := wd)).rel B H G v a) : TyX K H v (if a.isSome then .type "list" else .type "NoneType") := by
  cases a with
  | none => rw [show v = .non from h]; exact .base .non
  | some b =>
    obtain ⟨q, o, e1, e2, vs, e3, e4, r⟩ := h
    subst e1; subst e3
    exact .base (.lst e2)
theorem kit_optL {K : PySem.W.Frag} : ∀ o : Option (List α), PySem.W.kitOne K (if o.isSome then .type "list" else .type "NoneType") (.type "list") = some o.isSome
  | none => kit_ty (a := "NoneType") (b := "list") (r := false) (by decide +kernel)
  | some _ => kit_ty (a := "list") (b := "list") (r := true) (by decide +kernel)
theorem R.pushQ {wd : Wd} {H0 H G : Hp} {σ : L2.St} {os : List Addr} {γ : Ctx.T c'} [Own β] {j : Nat} (hn : Ctx.not j c' = true) (l : j < σ.length) (h : R wd H0 σ H G c' γ os) : R wd H0 (σ.set j (some .non)) H G (.oo j β :: c') (none, γ) os :=
  .inl ⟨rfl, List.getElem?_set_self l, h.set hn⟩
theorem s_setTQ [Own β] {st : Stmt} {te : TE} {m : Ctx.T c → Rs (Option β)} {j : Nat} (h : PS X st (tAsg te (gName j))) (he : ∀ σ H Q, tX F kQ c m σ H Q → te σ H Q) (s : Sub c c') (hj : j < F.n) (hn : Ctx.not j c' = true) : PS X st (tS F c (.oo j β :: c') fun γ => (m γ).bind fun a => .ok (a, s.proj γ)) :=
  ps_mono h fun D σ H ⟨H0, G0, G, os, γ, st, p⟩ => he _ _ _ ⟨H0, G0, G, os, γ, st, p.step st.f.h kQ fun v H1 G1 a fr ra p1 => by
    obtain ⟨os', hs, st'⟩ := (st.ext fr).sub s
    cases a with
    | none =>
      rw [show v = .non from ra]
      exact p1 _ _ _ _ ⟨by rw [List.length_set]; exact st'.len, st'.f, st'.nd, st'.fr, R.pushQ hn (by rw [st'.len]; exact hj) st'.r⟩
    | some b =>
      obtain ⟨q, o, ev, n, g, hq, w⟩ := ra
      subst ev
      have nq : q ∉ os' := fun z => by
        obtain ⟨o2, h2⟩ := st.r.there q (hs.subset z)
        rw [n] at h2
        cases h2
      refine p1 _ _ _ (q :: os') ⟨by rw [List.length_set]; exact st'.len, st'.f, List.nodup_cons.mpr ⟨nq, st'.nd⟩, fun r hr => ?_, .inr ⟨b, q, o, os', rfl, rfl, List.getElem?_set_self (by rw [st'.len]; exact hj), hq, w, st'.r.set hn⟩⟩
      rcases List.mem_cons.mp hr with e | e
      · rw [e]; exact ⟨g, st.f.h.free n⟩
      · exact st'.fr r e⟩
theorem s_setQ [Own β] {m : Ctx.T c → Rs (Option β)} {j : Nat} {x : Str} {pos pos' : Pos} (hN : X.N.Nodup) (h : PE X e (tX F kQ c m)) (s : Sub c c') (hj : j < F.n) (hn : Ctx.not j c' = true) (hi : X.N[j]? = some x := by rfl) (hx : Loc X.env.scope x := by first | exact .inl rfl | exact .inr rfl) (hs : swapsWith e (some (.Name x pos')) pos.line X.env = pure false := by rfl) (hf : X.fn x = true ∨ X.env.scope.names.lookup x = some .local := by first | exact .inl rfl | exact .inr rfl) :
    PS X (.Assign [.Name x pos'] e pos) (tS F c (.oo j β :: c') fun γ => (m γ).bind fun a => .ok (a, s.proj γ)) := s_setTQ (ps_set hN hi hx h hs hf) (fun _ _ _ q => q) s hj hn
end
section
variable {X : Cx} {F : Fx} {c c' c1 : Ctx} {ρ : Type} {kr : Kd F.wd ρ} {sts : List Stmt}
theorem Nar.noex : ∀ {c c' : Ctx} (s : Nar c c') {γ : Ctx.T c} {x : Exc}, s.go γ ≠ .ex x
  | _, _, .z, (none, γ), x, e => by cases e
  | _, _, .z, (some b, γ), x, e => by cases e
  | _, _, .s n, γ, x, e => by
    have e' : (n.go γ.2).bind (fun g => .ok (γ.1, g)) = .ex x := e
    cases e2 : n.go γ.2 with
    | no => rw [e2] at e'; cases e'
    | ex y => exact n.noex e2
    | ok g => rw [e2] at e'; cases e'
theorem b_narT {m : Ctx.T c1 → Rs ρ} (s : Nar c c1) (h : PSs X sts (tT F kr c1 m)) : PSs X sts (tT F kr c fun γ => (s.go γ).bind m) :=
  pss_mono h fun D σ H ⟨H0, G0, G, os, γ, st, p⟩ => by
    dsimp only at p
    cases e : s.go γ with
    | no => rw [e] at p; exact p.elim
    | ex x => exact (s.noex e).elim
    | ok g => rw [e] at p; exact ⟨H0, G0, G, os, g, st.nar s e, p⟩
theorem b_narS {m : Ctx.T c1 → Rs (Ctx.T c')} (s : Nar c c1) (h : PSs X sts (tS F c1 c' m)) : PSs X sts (tS F c c' fun γ => (s.go γ).bind m) :=
  pss_mono h fun D σ H ⟨H0, G0, G, os, γ, st, p⟩ => by
    dsimp only at p
    cases e : s.go γ with
    | no => rw [e] at p; exact p.elim
    | ex x => exact (s.noex e).elim
    | ok g => rw [e] at p; exact ⟨H0, G0, G, os, g, st.nar s e, p⟩
theorem b_narG {m : Ctx.T c1 → Rs (Ctx.T c' ⊕ ρ)} (s : Nar c c1) (h : PSs X sts (tG F kr c1 c' m)) : PSs X sts (tG F kr c c' fun γ => (s.go γ).bind m) :=
  pss_mono h fun D σ H ⟨H0, G0, G, os, γ, st, p⟩ => by
    dsimp only at p
    cases e : s.go γ with
    | no => rw [e] at p; exact p.elim
    | ex x => exact (s.noex e).elim
    | ok g => rw [e] at p; exact ⟨H0, G0, G, os, g, st.nar s e, p⟩
theorem t_retWQ {β : Type} [Own β] {i : Nat} {pos pos' : Pos} (v : Var c (.ow i β)) {x : Str} (hN : X.N[i]? = some x := by rfl) (hv : Vis X.env.scope x := by first | exact Or.inl rfl | exact Or.inr (Or.inl rfl) | exact Or.inr (Or.inr rfl))
    (hd : (x == ("__debug__" : Str)) = false := by decide) (hcd : (x == ("__classdict__" : Str)) = false := by decide) : PSs X [.Return (some (.Name x pos')) pos] (tT F kQ c fun γ => .ok (some (v.get γ))) :=
  pss_mono (pss_one (ps_ret (pe_var hN hv hd hcd))) fun D σ H ⟨H0, G0, G, os, γ, st, p⟩ => by
    obtain ⟨q, o, h0, h1, h2, h3⟩ := v.ow st.r
    exact ⟨.ref q, h1, p H G _ st.f ⟨q, o, rfl, (st.fr q h0).2, (st.fr q h0).1, h2, h3⟩⟩
theorem t_retQ {β : Type} [Own β] {i : Nat} {pos pos' : Pos} (v : Var c (.oo i β)) {x : Str} (hN : X.N[i]? = some x := by rfl) (hv : Vis X.env.scope x := by first | exact Or.inl rfl | exact Or.inr (Or.inl rfl) | exact Or.inr (Or.inr rfl))
    (hd : (x == ("__debug__" : Str)) = false := by decide) (hcd : (x == ("__classdict__" : Str)) = false := by decide) : PSs X [.Return (some (.Name x pos')) pos] (tT F kQ c fun γ => .ok (v.get γ)) :=
  pss_mono (pss_one (ps_ret (pe_var hN hv hd hcd))) fun D σ H ⟨H0, G0, G, os, γ, st, p⟩ => by
    dsimp only at p
    rcases v.oo st.r with ⟨e, h1⟩ | ⟨b, q, o, e, h0, h1, h2, h3⟩
    · rw [e] at p
      exact ⟨.non, h1, p H G _ st.f rfl⟩
    · rw [e] at p
      exact ⟨.ref q, h1, p H G _ st.f ⟨q, o, rfl, (st.fr q h0).2, (st.fr q h0).1, h2, h3⟩⟩
end
end Wm
set_option Elab.async false
set_option linter.all false
set_option maxRecDepth 100000
set_option maxHeartbeats 4000000
namespace Wm
open PySem PySem.Spec PyProof.Rows L2
/-! ### more plain laws -/
section
variable {α β γ ρ : Type}
theorem theI_some (a : α) : theI (some a) = .ok a := rfl
theorem getI_last {xs : List α} {a : α} : getI (xs ++ [a]) (-1) = .ok a := by
  unfold getI atI ixN
  rw [if_neg (by decide), if_pos (by rw [List.length_append]; simp only [List.length_cons, List.length_nil]; omega)]
  simp only [List.length_append, List.length_cons, List.length_nil, Option.bind_some]
  rw [show ((-1 : Int) + ((xs.length + (0 + 1) : Nat) : Int)).toNat = xs.length by omega]
  rw [List.getElem?_append_right (Nat.le_refl _), Nat.sub_self]
  rfl
theorem cutI_take {xs : List α} {k : Int} (h : 0 ≤ k) : cutI xs none (some k) = xs.take k.toNat := by
  unfold cutI
  have : k = ((k.toNat : Nat) : Int) := by omega
  rw [this, HT.sIx_nat, HT.sIx_none, List.drop_zero, Nat.sub_zero, Int.toNat_natCast]
  rcases Nat.le_total k.toNat xs.length with h1 | h1
  · rw [Nat.min_eq_left h1]
  · rw [Nat.min_eq_right h1, List.take_of_length_le (Nat.le_refl _), List.take_of_length_le h1]
theorem cutI_drop {xs : List α} {k : Int} (h : 0 ≤ k) : cutI xs (some k) none = xs.drop k.toNat := by
  unfold cutI
  have : k = ((k.toNat : Nat) : Int) := by omega
  rw [this, HT.sIx_nat, HT.sIx_none, Int.toNat_natCast]
  rcases Nat.le_total k.toNat xs.length with h1 | h1
  · rw [Nat.min_eq_left h1, List.take_of_length_le (by rw [List.length_drop]; omega)]
  · rw [Nat.min_eq_right h1, List.drop_of_length_le h1, List.drop_of_length_le (Nat.le_refl _), List.take_nil]
theorem maxI_two (a b : Int) : maxI [a, b] = .ok (max a b) := by
  unfold maxI
  rw [show [a, b].max? = some (max a b) from rfl]
theorem minI_two (a b : Int) : minI [a, b] = .ok (min a b) := by
  unfold minI
  rw [show [a, b].min? = some (min a b) from rfl]
/-- sums of the first ones -/
def pre (xs : List Int) (k : Nat) : Int := (xs.take k).sum
theorem pre_zero (xs : List Int) : pre xs 0 = 0 := rfl
theorem sum_app (xs ys : List Int) : (xs ++ ys).sum = xs.sum + ys.sum := by
  induction xs with
  | nil => simp
  | cons x xs ih => rw [List.cons_append, List.sum_cons, List.sum_cons, ih]; omega
theorem pre_succ {xs : List Int} {k : Nat} {c : Int} (h : xs[k]? = some c) : pre xs (k + 1) = pre xs k + c := by
  unfold pre
  rw [List.take_succ, h, sum_app]
  simp
theorem pre_all (xs : List Int) : pre xs xs.length = xs.sum := by
  unfold pre
  rw [List.take_of_length_le (Nat.le_refl _)]
theorem pre_ge {xs : List Int} {a : Int} (h : ∀ c ∈ xs, a ≤ c) : ∀ k, k ≤ xs.length → a * k ≤ pre xs k
  | 0, _ => by rw [pre_zero]; simp
  | k + 1, hk => by
    have := pre_ge h k (by omega)
    rw [pre_succ (List.getElem?_eq_getElem (show k < xs.length by omega))]
    have h2 := h _ (List.getElem_mem (show k < xs.length by omega))
    rw [Int.natCast_add, Int.mul_add]
    simp only [Int.natCast_one, Int.mul_one]
    omega
theorem pre_le {xs : List Int} {a : Int} (h : ∀ c ∈ xs, c ≤ a) : ∀ k, k ≤ xs.length → pre xs k ≤ a * k
  | 0, _ => by rw [pre_zero]; simp
  | k + 1, hk => by
    have := pre_le h k (by omega)
    rw [pre_succ (List.getElem?_eq_getElem (show k < xs.length by omega))]
    have h2 := h _ (List.getElem_mem (show k < xs.length by omega))
    rw [Int.natCast_add, Int.mul_add]
    simp only [Int.natCast_one, Int.mul_one]
    omega
/-- a comprehension whose test is plain -/
theorem comp_none {t : α → Rs Bool} {f : α → Rs β} {xs : List α} (h : ∀ x ∈ xs, t x = .ok false) : Rs.comp t f xs = .ok [] := by
  induction xs with
  | nil => rfl
  | cons x xs ih =>
    simp only [Rs.comp]
    rw [h x List.mem_cons_self]
    exact ih fun y hy => h y (List.mem_cons_of_mem _ hy)
theorem rng_nil {lo hi : Int} (h : hi ≤ lo) : rng lo hi = [] := by
  unfold rng
  rw [show (hi - lo).toNat = 0 by omega]
  rfl
end
end Wm
set_option Elab.async false
set_option linter.all false
set_option maxRecDepth 100000
set_option maxHeartbeats 4000000
namespace Wk
open PySem PySem.Spec PyProof.Rows L2 Wm
/-! ### the text -/
def topS (i : Nat) : Stmt := PySem.Challenge.pw_wornsheaf_k15_drops_of_kinds.main.body.getD i (.Pass ⟨0, 0, 0, 0⟩)
abbrev s_law_cell : Stmt := topS 4
theorem sc_law_cell : FnScope ["script", "k"] ["script", "k"] (defScope s_law_cell) := ⟨rfl, rfl, rfl, by decide +kernel, rfl, by decide +kernel, by decide +kernel⟩
abbrev s_law_draws : Stmt := topS 5
theorem sc_law_draws : FnScope ["cell", "sizes", "drawn", "left", "packed", "k", "mixed"] ["cell", "sizes"] (defScope s_law_draws) := ⟨rfl, rfl, rfl, by decide +kernel, rfl, by decide +kernel, by decide +kernel⟩
abbrev s_drops : Stmt := topS 1
theorem sc_drops : FnScope ["counts"] ["counts"] (defScope s_drops) := ⟨rfl, rfl, rfl, by decide +kernel, rfl, by decide +kernel, by decide +kernel⟩
abbrev s_law_due : Stmt := topS 7
theorem sc_law_due : FnScope ["counts"] ["counts"] (defScope s_law_due) := ⟨rfl, rfl, rfl, by decide +kernel, rfl, by decide +kernel, by decide +kernel⟩
abbrev s_law_is_integer : Stmt := topS 6
theorem sc_law_is_integer : FnScope ["value"] ["value"] (defScope s_law_is_integer) := ⟨rfl, rfl, rfl, by decide +kernel, rfl, by decide +kernel, by decide +kernel⟩
abbrev s_law_list_is : Stmt := topS 8
theorem sc_law_list_is : FnScope ["told", "due", "k"] ["told", "due"] (defScope s_law_list_is) := ⟨rfl, rfl, rfl, by decide +kernel, rfl, by decide +kernel, by decide +kernel⟩
abbrev s_law_drops_kept : Stmt := topS 10
theorem sc_law_drops_kept : FnScope ["counts", "more", "given", "told"] ["counts", "more"] (defScope s_law_drops_kept) := ⟨rfl, rfl, rfl, by decide +kernel, rfl, by decide +kernel, by decide +kernel⟩
abbrev s_law_low : Stmt := topS 9
theorem sc_law_low : FnScope ["counts", "sharpnesses", "low", "fainter", "k"] ["counts", "sharpnesses"] (defScope s_law_low) := ⟨rfl, rfl, rfl, by decide +kernel, rfl, by decide +kernel, by decide +kernel⟩
abbrev s_law_drop_of_kinds : Stmt := topS 12
theorem sc_law_drop_of_kinds : FnScope ["counts", "steps", "sharpnesses", "k"] ["counts", "steps"] (defScope s_law_drop_of_kinds) := ⟨rfl, rfl, rfl, by decide +kernel, rfl, by decide +kernel, by decide +kernel⟩
abbrev s_kinds_with_drop : Stmt := topS 2
theorem sc_kinds_with_drop : FnScope ["counts", "drop", "place"] ["counts", "drop"] (defScope s_kinds_with_drop) := ⟨rfl, rfl, rfl, by decide +kernel, rfl, by decide +kernel, by decide +kernel⟩
abbrev s_law_kinds_kept : Stmt := topS 11
theorem sc_law_kinds_kept : FnScope ["counts", "drop", "given", "told", "k", "due"] ["counts", "drop"] (defScope s_law_kinds_kept) := ⟨rfl, rfl, rfl, by decide +kernel, rfl, by decide +kernel, by decide +kernel⟩
abbrev s_law : Stmt := topS 13
theorem sc_law : FnScope ["script", "drawn", "kinds", "most", "counts", "k", "asked", "drop", "steps", "one"] ["script"] (defScope s_law) := ⟨rfl, rfl, rfl, by decide +kernel, rfl, by decide +kernel, by decide +kernel⟩
/-- what the top has written -/
structure Txt (K : PySem.W.Frag) (mg : Str → Option Value) where
  a_law_cell : Addr
  d_law_cell : FuncData
  F_law_cell : Fun K "_law_cell" "_law_cell" s_law_cell a_law_cell d_law_cell
  g_law_cell : mg "_law_cell" = some (.ref a_law_cell)
  b_law_cell : Binds K d_law_cell ["script", "k"] []
  a_law_draws : Addr
  d_law_draws : FuncData
  F_law_draws : Fun K "_law_draws" "_law_draws" s_law_draws a_law_draws d_law_draws
  g_law_draws : mg "_law_draws" = some (.ref a_law_draws)
  b_law_draws : Binds K d_law_draws ["cell", "sizes"] []
  a_drops : Addr
  d_drops : FuncData
  F_drops : Fun K "drops" "drops" s_drops a_drops d_drops
  g_drops : mg "drops" = some (.ref a_drops)
  b_drops : Binds K d_drops ["counts"] []
  a_law_due : Addr
  d_law_due : FuncData
  F_law_due : Fun K "_law_due" "_law_due" s_law_due a_law_due d_law_due
  g_law_due : mg "_law_due" = some (.ref a_law_due)
  b_law_due : Binds K d_law_due ["counts"] []
  a_law_is_integer : Addr
  d_law_is_integer : FuncData
  F_law_is_integer : Fun K "_law_is_integer" "_law_is_integer" s_law_is_integer a_law_is_integer d_law_is_integer
  g_law_is_integer : mg "_law_is_integer" = some (.ref a_law_is_integer)
  b_law_is_integer : Binds K d_law_is_integer ["value"] []
  a_law_list_is : Addr
  d_law_list_is : FuncData
  F_law_list_is : Fun K "_law_list_is" "_law_list_is" s_law_list_is a_law_list_is d_law_list_is
  g_law_list_is : mg "_law_list_is" = some (.ref a_law_list_is)
  b_law_list_is : Binds K d_law_list_is ["told", "due"] []
  a_law_drops_kept : Addr
  d_law_drops_kept : FuncData
  F_law_drops_kept : Fun K "_law_drops_kept" "_law_drops_kept" s_law_drops_kept a_law_drops_kept d_law_drops_kept
  g_law_drops_kept : mg "_law_drops_kept" = some (.ref a_law_drops_kept)
  b_law_drops_kept : Binds K d_law_drops_kept ["counts", "more"] []
  a_law_low : Addr
  d_law_low : FuncData
  F_law_low : Fun K "_law_low" "_law_low" s_law_low a_law_low d_law_low
  g_law_low : mg "_law_low" = some (.ref a_law_low)
  b_law_low : Binds K d_law_low ["counts", "sharpnesses"] []
  a_law_drop_of_kinds : Addr
  d_law_drop_of_kinds : FuncData
  F_law_drop_of_kinds : Fun K "_law_drop_of_kinds" "_law_drop_of_kinds" s_law_drop_of_kinds a_law_drop_of_kinds d_law_drop_of_kinds
  g_law_drop_of_kinds : mg "_law_drop_of_kinds" = some (.ref a_law_drop_of_kinds)
  b_law_drop_of_kinds : Binds K d_law_drop_of_kinds ["counts", "steps"] []
  a_kinds_with_drop : Addr
  d_kinds_with_drop : FuncData
  F_kinds_with_drop : Fun K "kinds_with_drop" "kinds_with_drop" s_kinds_with_drop a_kinds_with_drop d_kinds_with_drop
  g_kinds_with_drop : mg "kinds_with_drop" = some (.ref a_kinds_with_drop)
  b_kinds_with_drop : Binds K d_kinds_with_drop ["counts", "drop"] []
  a_law_kinds_kept : Addr
  d_law_kinds_kept : FuncData
  F_law_kinds_kept : Fun K "_law_kinds_kept" "_law_kinds_kept" s_law_kinds_kept a_law_kinds_kept d_law_kinds_kept
  g_law_kinds_kept : mg "_law_kinds_kept" = some (.ref a_law_kinds_kept)
  b_law_kinds_kept : Binds K d_law_kinds_kept ["counts", "drop"] []
  a_law : Addr
  d_law : FuncData
  F_law : Fun K "law" "law" s_law a_law d_law
  g_law : mg "law" = some (.ref a_law)
  b_law : Binds K d_law ["script"] []
  n_bool : mg "bool" = none
  n_int : mg "int" = none
  n_isinstance : mg "isinstance" = none
  n_len : mg "len" = none
  n_list : mg "list" = none
  n_max : mg "max" = none
  n_range : mg "range" = none
  n_sum : mg "sum" = none
def cmOf {K : PySem.W.Frag} {mg : Str → Option Value} (T : Txt K mg) : String → Addr := fun _ => 0
def wdOf {K : PySem.W.Frag} {mg : Str → Option Value} (T : Txt K mg) : Wd := ⟨K, cmOf T⟩
/-! ### the mirrors -/
noncomputable def m_law_cell : Ctx.T [.fz 0 Script, .fz 1 Int] → Rs Int := fun γ => Rs.bind (Rs.bind (Rs.ok γ.2.1) (fun x => Rs.bind (Rs.bind (Rs.ok γ.1) (fun x => Rs.ok (x.ns.length : Int))) (fun y => Rs.ok (decide (x < y))))) (fun b => if b = true then Rs.bind (Rs.bind (Rs.ok γ.1) (fun x => Rs.bind (Rs.ok γ.2.1) (fun y => getI x.ns y))) (fun x => Rs.ok x) else Rs.ok (0 : Int))
noncomputable def m_law_draws_l1 : Ctx.T [.fz 5 Int, .fz 4 Bool, .fz 3 Int, .ow 2 (List Int), .fz 0 Int, .bo 1 (List Int)] → Rs (Ctx.T [.fz 4 Bool, .fz 3 Int, .ow 2 (List Int), .fz 0 Int, .bo 1 (List Int)]) := fun γ => Rs.bind (Rs.bind (Rs.bind (Rs.ok γ.2.1) (fun b => if b = true then Rs.bind (Rs.ok γ.2.2.1) (fun x => Rs.bind (Rs.ok (0 : Int)) (fun y => Rs.ok (decide (y < x)))) else Rs.ok false)) (fun b => if b = true then Rs.bind (Rs.bind (Rs.bind (Rs.bind (Rs.ok γ.2.2.1) (fun x => Rs.ok x)) (fun x => Rs.bind (Rs.bind (Rs.ok γ.2.2.2.2.2.1) (fun x => Rs.bind (Rs.ok γ.1) (fun y => getI x y))) (fun y => if 0 < y then Rs.ok (x % y) else Rs.no))) (fun a => Rs.bind (appI γ.2.2.2.1 a) (fun ys => Rs.ok (γ.1, γ.2.1, γ.2.2.1, ys, γ.2.2.2.2.1, γ.2.2.2.2.2.1, ())))) (fun γ => Rs.bind (Rs.bind (Rs.bind (Rs.bind (Rs.ok γ.2.2.1) (fun x => Rs.ok x)) (fun x => Rs.bind (Rs.bind (Rs.ok γ.2.2.2.2.2.1) (fun x => Rs.bind (Rs.ok γ.1) (fun y => getI x y))) (fun y => if CDiv x y then Rs.ok (x / y) else Rs.no))) (fun a => Rs.ok (γ.1, γ.2.1, a, γ.2.2.2.1, γ.2.2.2.2.1, γ.2.2.2.2.2.1, ()))) (fun γ => Rs.ok (γ.2.1, γ.2.2.1, γ.2.2.2.1, γ.2.2.2.2.1, γ.2.2.2.2.2.1, ()))) else Rs.bind (Rs.bind (Rs.bind (Rs.bind (Rs.bind (Rs.bind (Rs.ok γ.2.2.2.2.1) (fun x => Rs.bind (Rs.bind (Rs.ok (7919 : Int)) (fun x => Rs.bind (Rs.ok γ.1) (fun y => if CMul x y then Rs.ok (x * y) else Rs.no))) (fun y => Rs.ok (x + y)))) (fun x => Rs.bind (Rs.ok (13 : Int)) (fun y => Rs.ok (x + y)))) (fun x => Rs.ok x)) (fun x => Rs.bind (Rs.ok (2147483647 : Int)) (fun y => if 0 < y then Rs.ok (x % y) else Rs.no))) (fun a => Rs.ok (a, γ.1, γ.2.1, γ.2.2.1, γ.2.2.2.1, γ.2.2.2.2.1, γ.2.2.2.2.2.1, ()))) (fun γ => Rs.bind (Rs.bind (Rs.bind (Rs.bind (Rs.bind (Rs.ok γ.1) (fun x => Rs.bind (Rs.bind (Rs.ok γ.1) (fun x => Rs.bind (Rs.ok (48271 : Int)) (fun y => Rs.ok (x + y)))) (fun y => if CMul x y then Rs.ok (x * y) else Rs.no))) (fun x => Rs.ok x)) (fun x => Rs.bind (Rs.ok (2147483629 : Int)) (fun y => if 0 < y then Rs.ok (x % y) else Rs.no))) (fun a => Rs.ok (a, γ.2.1, γ.2.2.1, γ.2.2.2.1, γ.2.2.2.2.1, γ.2.2.2.2.2.1, γ.2.2.2.2.2.2.1, ()))) (fun γ => Rs.bind (Rs.bind (Rs.bind (Rs.bind (Rs.bind (Rs.bind (Rs.ok γ.1) (fun x => Rs.bind (Rs.bind (Rs.ok γ.1) (fun x => Rs.bind (Rs.ok (69621 : Int)) (fun y => Rs.ok (x + y)))) (fun y => if CMul x y then Rs.ok (x * y) else Rs.no))) (fun x => Rs.bind (Rs.bind (Rs.ok (31 : Int)) (fun x => Rs.bind (Rs.ok γ.2.1) (fun y => if CMul x y then Rs.ok (x * y) else Rs.no))) (fun y => Rs.ok (x + y)))) (fun x => Rs.ok x)) (fun x => Rs.bind (Rs.ok (2147483647 : Int)) (fun y => if 0 < y then Rs.ok (x % y) else Rs.no))) (fun a => Rs.ok (a, γ.2.1, γ.2.2.1, γ.2.2.2.1, γ.2.2.2.2.1, γ.2.2.2.2.2.1, γ.2.2.2.2.2.2.1, ()))) (fun γ => Rs.bind (Rs.bind (Rs.bind (Rs.bind (Rs.bind (Rs.ok γ.1) (fun x => Rs.bind (Rs.ok (9 : Int)) (fun y => if CDiv x y then Rs.ok (x / y) else Rs.no))) (fun x => Rs.ok x)) (fun x => Rs.bind (Rs.bind (Rs.ok γ.2.2.2.2.2.2.1) (fun x => Rs.bind (Rs.ok γ.2.1) (fun y => getI x y))) (fun y => if 0 < y then Rs.ok (x % y) else Rs.no))) (fun a => Rs.bind (appI γ.2.2.2.2.1 a) (fun ys => Rs.ok (γ.1, γ.2.1, γ.2.2.1, γ.2.2.2.1, ys, γ.2.2.2.2.2.1, γ.2.2.2.2.2.2.1, ())))) (fun γ => Rs.ok (γ.2.2.1, γ.2.2.2.1, γ.2.2.2.2.1, γ.2.2.2.2.2.1, γ.2.2.2.2.2.2.1, ()))))))) (fun γ => Rs.ok (γ.1, γ.2.1, γ.2.2.1, γ.2.2.2.1, γ.2.2.2.2.1, ()))
noncomputable def m_law_draws : Ctx.T [.fz 0 Int, .bo 1 (List Int)] → Rs (List Int) := fun γ => Rs.bind (Rs.bind (Rs.bind (Rs.ok ([] : List Int)) Rs.ok) (fun a => Rs.ok (a, γ.1, γ.2.1, ()))) (fun γ => Rs.bind (Rs.bind (Rs.bind (Rs.ok γ.2.1) (fun x => Rs.ok x)) (fun a => Rs.ok (a, γ.1, γ.2.1, γ.2.2.1, ()))) (fun γ => Rs.bind (Rs.bind (Rs.bind (Rs.ok γ.1) (fun x => Rs.bind (Rs.bind (Rs.ok (10 : Int)) (fun x => Rs.bind (Rs.ok (18 : Int)) (fun y => if CPow x y then Rs.ok (x ^ y.toNat) else Rs.no))) (fun y => Rs.ok (decide (y ≤ x))))) (fun a => Rs.ok (a, γ.1, γ.2.1, γ.2.2.1, γ.2.2.2.1, ()))) (fun γ => Rs.bind (Rs.bind (Rs.bind (Rs.bind (Rs.ok γ.2.2.2.2.1) (fun x => Rs.ok (x.length : Int))) (fun n => Rng 0 n)) (fun xs => Rs.fold (fun γ x => m_law_draws_l1 (x, γ)) γ xs)) (fun γ => Rs.ok γ.2.2.1))))
noncomputable def m_drops : Ctx.T [.bo 0 (List Int)] → Rs (List Int) := fun γ => Rs.bind (Rs.bind (Rs.bind (Rs.ok γ.1) (fun x => Rs.ok (x.length : Int))) (fun x => Rs.bind (Rs.ok (1 : Int)) (fun y => Rs.ok (x - y)))) (fun x => Rs.bind (Rs.bind (Rs.bind (Rs.bind (Rs.ok γ.1) (fun x => Rs.ok x.sum)) (fun x => Rs.bind (Rs.bind (Rs.ok γ.1) (fun x => Rs.bind (Rs.bind (Rs.ok (1 : Int)) (fun x => Rs.ok (-x))) (fun y => getI x y))) (fun y => Rs.ok (x - y)))) (fun x => Rs.bind (Rs.ok (1 : Int)) (fun y => Rs.ok (x + y)))) (fun y => RngL x y))
noncomputable def m_law_due : Ctx.T [.bo 0 (List Int)] → Rs (List Int) := fun γ => Rs.bind (Rs.bind (Rs.bind (Rs.ok γ.1) (fun x => Rs.ok (x.length : Int))) (fun x => Rs.bind (Rs.ok (1 : Int)) (fun y => Rs.ok (x - y)))) (fun x => Rs.bind (Rs.bind (Rs.bind (Rs.bind (Rs.ok γ.1) (fun x => Rs.bind (Rs.ok none) (fun l => Rs.bind (Rs.bind (Rs.bind (Rs.bind (Rs.ok γ.1) (fun x => Rs.ok (x.length : Int))) (fun x => Rs.bind (Rs.ok (1 : Int)) (fun y => Rs.ok (x - y)))) (fun i => Rs.ok (some i))) (fun h => Rs.ok (cutI x l h))))) (fun x => Rs.ok x.sum)) (fun x => Rs.bind (Rs.ok (1 : Int)) (fun y => Rs.ok (x + y)))) (fun y => RngL x y))
noncomputable def m_law_is_integer : Ctx.T [.fz 0 Int] → Rs Bool := fun γ => Rs.bind (Rs.bind (Rs.ok γ.1) (fun _ => Rs.ok true)) (fun b => if b = true then Rs.bind (Rs.bind (Rs.ok γ.1) (fun _ => Rs.ok false)) (fun b => Rs.ok (!b)) else Rs.ok false)
noncomputable def m_law_list_is_t1 : Ctx.T [.fz 2 Int, .bo 0 (List Int), .bo 1 (List Int)] → Rs Bool := fun γ => Rs.bind (Rs.bind (Rs.bind (Rs.bind (Rs.bind (Rs.ok γ.2.1) (fun x => Rs.bind (Rs.ok γ.1) (fun y => getI x y))) (fun a => Rs.bind (Rs.ok ()) (fun g => Rs.ok (a, g)))) m_law_is_integer) (fun b => Rs.ok (!b))) (fun b => if b = true then Rs.ok true else Rs.bind (Rs.bind (Rs.ok γ.2.1) (fun x => Rs.bind (Rs.ok γ.1) (fun y => getI x y))) (fun x => Rs.bind (Rs.bind (Rs.ok γ.2.2.1) (fun x => Rs.bind (Rs.ok γ.1) (fun y => getI x y))) (fun y => Rs.ok (!decide (x = y)))))
noncomputable def m_law_list_is_e2 : Ctx.T [.fz 2 Int, .bo 0 (List Int), .bo 1 (List Int)] → Rs Int := fun γ => Rs.ok γ.1
noncomputable def m_law_list_is : Ctx.T [.bo 0 (List Int), .bo 1 (List Int)] → Rs Bool := fun γ => Rs.bind (Rs.bind (Rs.bind (Rs.bind (Rs.ok γ.1) (fun _ => Rs.ok true)) (fun b => Rs.ok (!b))) (fun b => if b = true then Rs.ok true else Rs.bind (Rs.bind (Rs.ok γ.1) (fun x => Rs.ok (x.length : Int))) (fun x => Rs.bind (Rs.bind (Rs.ok γ.2.1) (fun x => Rs.ok (x.length : Int))) (fun y => Rs.ok (!decide (x = y)))))) (fun b => if b = true then Rs.ok false else Rs.bind (Rs.bind (Rs.bind (Rs.bind (Rs.bind (Rs.ok γ.2.1) (fun x => Rs.ok (x.length : Int))) (fun n => Rng 0 n)) (fun xs => if xs.length ≤ 16777216 then Rs.comp (fun x => m_law_list_is_t1 (x, (γ.1, γ.2.1, ()))) (fun x => m_law_list_is_e2 (x, (γ.1, γ.2.1, ()))) xs else Rs.no)) (fun x => Rs.ok (x.length : Int))) (fun x => Rs.bind (Rs.ok (0 : Int)) (fun y => Rs.ok (decide (x = y)))))
noncomputable def m_law_drops_kept : Ctx.T [.bo 0 (List Int), .fz 1 Int] → Rs Bool := fun γ => Rs.bind (Rs.bind (Rs.bind (Rs.ok γ.1) (fun x => Rs.ok x)) (fun a => Rs.ok (a, γ.1, γ.2.1, ()))) (fun γ => Rs.bind (Rs.bind (Rs.bind (Rs.bind (Rs.ok γ.1) (fun a => Rs.bind (Rs.ok ()) (fun g => Rs.ok (a, g)))) m_drops) (fun a => Rs.ok (a, γ.1, γ.2.1, γ.2.2.1, ()))) (fun γ => Rs.bind (Rs.bind (Rs.bind (Rs.ok γ.2.1) (fun x => Rs.bind (Rs.ok γ.2.2.1) (fun y => Rs.ok (!decide (x = y))))) (fun b => if b = true then Rs.ok true else Rs.bind (Rs.bind (Rs.bind (Rs.ok γ.1) (fun a => Rs.bind (Rs.bind (Rs.bind (Rs.bind (Rs.ok γ.2.2.1) (fun a => Rs.bind (Rs.ok ()) (fun g => Rs.ok (a, g)))) m_law_due) (fun a => Rs.bind (Rs.ok ()) (fun g => Rs.ok (a, g)))) (fun g => Rs.ok (a, g)))) m_law_list_is) (fun b => Rs.ok (!b)))) (fun b => if b = true then Rs.ok false else Rs.bind (Rs.bind (Rs.bind (Rs.bind (Rs.ok γ.2.2.1) (fun x => Rs.ok (x.length : Int))) (fun x => Rs.bind (Rs.ok (40 : Int)) (fun y => Rs.ok (x + y)))) (fun a => Rs.bind (appI γ.1 a) (fun ys => Rs.ok (ys, γ.2.1, γ.2.2.1, γ.2.2.2.1, ())))) (fun γ => Rs.bind (Rs.bind (Rs.bind (Rs.ok (3 : Int)) (fun x => Rs.ok (-x))) (fun a => Rs.bind (Rs.ok (0 : Int)) (fun k => Rs.bind (setI γ.1 k a) (fun ys => Rs.ok (ys, γ.2.1, γ.2.2.1, γ.2.2.2.1, ()))))) (fun γ => Rs.bind (Rs.bind (Rs.ok γ.2.2.2.1) (fun a => Rs.bind (appI γ.2.1 a) (fun ys => Rs.ok (γ.1, ys, γ.2.2.1, γ.2.2.2.1, ())))) (fun γ => Rs.bind (Rs.bind (Rs.bind (Rs.bind (Rs.bind (Rs.bind (Rs.ok γ.2.1) (fun a => Rs.bind (Rs.ok ()) (fun g => Rs.ok (a, g)))) m_drops) (fun a => Rs.bind (Rs.bind (Rs.bind (Rs.bind (Rs.bind (Rs.ok γ.2.2.1) (fun x => Rs.bind (Rs.bind (Rs.bind (Rs.ok γ.2.2.2.1) (fun a => Rs.bind (Rs.ok ([] : List Int)) (fun g => Rs.ok (a :: g)))) Rs.ok) (fun y => catI x y))) (fun a => Rs.bind (Rs.ok ()) (fun g => Rs.ok (a, g)))) m_law_due) (fun a => Rs.bind (Rs.ok ()) (fun g => Rs.ok (a, g)))) (fun g => Rs.ok (a, g)))) m_law_list_is) (fun b => Rs.ok (!b))) (fun b => if b = true then Rs.ok false else Rs.bind (Rs.bind (Rs.bind (Rs.bind (Rs.bind (Rs.ok γ.2.2.1) (fun x => Rs.ok x)) (fun a => Rs.bind (Rs.ok ()) (fun g => Rs.ok (a, g)))) m_drops) (fun a => Rs.bind (Rs.bind (Rs.bind (Rs.bind (Rs.ok γ.2.2.1) (fun a => Rs.bind (Rs.ok ()) (fun g => Rs.ok (a, g)))) m_law_due) (fun a => Rs.bind (Rs.ok ()) (fun g => Rs.ok (a, g)))) (fun g => Rs.ok (a, g)))) m_law_list_is)))))))
noncomputable def m_law_low_l1 : Ctx.T [.fz 4 Int, .fz 3 Int, .fz 2 Int, .bo 0 (List Int), .bo 1 (List Int)] → Rs (Ctx.T [.fz 3 Int, .fz 2 Int, .bo 0 (List Int), .bo 1 (List Int)]) := fun γ => Rs.bind (Rs.bind (Rs.bind (Rs.bind (Rs.bind (Rs.ok γ.2.2.1) (fun a => Rs.bind (Rs.bind (Rs.bind (Rs.bind (Rs.ok γ.2.2.2.2.1) (fun x => Rs.bind (Rs.ok γ.1) (fun y => getI x y))) (fun x => Rs.bind (Rs.ok γ.2.1) (fun y => Rs.ok (x - y)))) (fun a => Rs.bind (Rs.ok ([] : List Int)) (fun g => Rs.ok (a :: g)))) (fun g => Rs.ok (a :: g)))) Rs.ok) maxI) (fun a => Rs.ok (γ.1, γ.2.1, a, γ.2.2.2.1, γ.2.2.2.2.1, ()))) (fun γ => Rs.bind (Rs.bind (Rs.bind (Rs.ok γ.2.1) (fun x => Rs.bind (Rs.bind (Rs.ok γ.2.2.2.1) (fun x => Rs.bind (Rs.ok γ.1) (fun y => getI x y))) (fun y => Rs.ok (x + y)))) (fun a => Rs.ok (γ.1, a, γ.2.2.1, γ.2.2.2.1, γ.2.2.2.2.1, ()))) (fun γ => Rs.ok (γ.2.1, γ.2.2.1, γ.2.2.2.1, γ.2.2.2.2.1, ())))
noncomputable def m_law_low : Ctx.T [.bo 0 (List Int), .bo 1 (List Int)] → Rs Int := fun γ => Rs.bind (Rs.bind (Rs.bind (Rs.ok γ.2.1) (fun x => Rs.bind (Rs.ok (0 : Int)) (fun y => getI x y))) (fun a => Rs.ok (a, γ.1, γ.2.1, ()))) (fun γ => Rs.bind (Rs.bind (Rs.ok (0 : Int)) (fun a => Rs.ok (a, γ.1, γ.2.1, γ.2.2.1, ()))) (fun γ => Rs.bind (Rs.bind (Rs.bind (Rs.bind (Rs.ok γ.2.2.1) (fun x => Rs.ok (x.length : Int))) (fun n => Rng 0 n)) (fun xs => Rs.fold (fun γ x => m_law_low_l1 (x, γ)) γ xs)) (fun γ => Rs.ok γ.2.1)))
noncomputable def m_law_drop_of_kinds_l1 : Ctx.T [.fz 3 Int, .ow 2 (List Int), .bo 0 (List Int), .bo 1 (List Int)] → Rs (Ctx.T [.ow 2 (List Int), .bo 0 (List Int), .bo 1 (List Int)]) := fun γ => Rs.bind (Rs.bind (Rs.bind (Rs.bind (Rs.bind (Rs.ok γ.2.1) (fun x => Rs.bind (Rs.bind (Rs.ok γ.1) (fun x => Rs.bind (Rs.ok (1 : Int)) (fun y => Rs.ok (x - y)))) (fun y => getI x y))) (fun x => Rs.bind (Rs.ok (1 : Int)) (fun y => Rs.ok (x + y)))) (fun x => Rs.bind (Rs.bind (Rs.ok γ.2.2.2.1) (fun x => Rs.bind (Rs.ok γ.1) (fun y => getI x y))) (fun y => Rs.ok (x + y)))) (fun a => Rs.bind (appI γ.2.1 a) (fun ys => Rs.ok (γ.1, ys, γ.2.2.1, γ.2.2.2.1, ())))) (fun γ => Rs.ok (γ.2.1, γ.2.2.1, γ.2.2.2.1, ()))
noncomputable def m_law_drop_of_kinds : Ctx.T [.bo 0 (List Int), .bo 1 (List Int)] → Rs Int := fun γ => Rs.bind (Rs.bind (Rs.bind (Rs.bind (Rs.ok (0 : Int)) (fun a => Rs.bind (Rs.ok ([] : List Int)) (fun g => Rs.ok (a :: g)))) Rs.ok) (fun a => Rs.ok (a, γ.1, γ.2.1, ()))) (fun γ => Rs.bind (Rs.bind (Rs.bind (Rs.ok (1 : Int)) (fun a => Rs.bind (Rs.bind (Rs.ok γ.2.1) (fun x => Rs.ok (x.length : Int))) (fun b => Rng a b))) (fun xs => Rs.fold (fun γ x => m_law_drop_of_kinds_l1 (x, γ)) γ xs)) (fun γ => Rs.bind (Rs.bind (Rs.ok γ.1) (fun x => Rs.bind (Rs.bind (Rs.bind (Rs.ok γ.2.1) (fun x => Rs.ok (x.length : Int))) (fun x => Rs.bind (Rs.ok (1 : Int)) (fun y => Rs.ok (x - y)))) (fun y => getI x y))) (fun x => Rs.bind (Rs.bind (Rs.bind (Rs.ok γ.2.1) (fun a => Rs.bind (Rs.bind (Rs.ok γ.1) (fun a => Rs.bind (Rs.ok ()) (fun g => Rs.ok (a, g)))) (fun g => Rs.ok (a, g)))) m_law_low) (fun y => Rs.ok (x - y)))))
noncomputable def m_kinds_with_drop_e1 : Ctx.T [.fz 2 Int, .fz 1 Int] → Rs Int := fun γ => Rs.bind (Rs.ok γ.1) (fun x => Rs.bind (Rs.ok γ.2.1) (fun y => Rs.ok (x - y)))
noncomputable def m_kinds_with_drop : Ctx.T [.bo 0 (List Int), .fz 1 Int] → Rs (Option (List Int)) := fun γ => Rs.bind (Rs.bind (Rs.ok γ.2.1) (fun x => Rs.bind (Rs.bind (Rs.bind (Rs.ok γ.1) (fun a => Rs.bind (Rs.ok ()) (fun g => Rs.ok (a, g)))) m_drops) (fun y => Rs.ok (!decide (x ∈ y))))) (fun b => if b = true then Rs.ok (none : (Option (List Int))) else Rs.bind (Rs.bind (Rs.bind (Rs.bind (Rs.bind (Rs.bind (Rs.ok γ.1) (fun x => Rs.ok (x.length : Int))) (fun x => Rs.bind (Rs.ok (1 : Int)) (fun y => Rs.ok (x - y)))) (fun n => Rng 0 n)) (fun xs => if xs.length ≤ 16777216 then Rs.comp (fun x => Rs.ok true) (fun x => m_kinds_with_drop_e1 (x, (γ.2.1, ()))) xs else Rs.no)) (fun x => Rs.bind (Rs.bind (Rs.bind (Rs.ok (0 : Int)) (fun a => Rs.bind (Rs.ok ([] : List Int)) (fun g => Rs.ok (a :: g)))) Rs.ok) (fun y => catI x y))) (fun a => Rs.ok (some a)))
noncomputable def m_law_kinds_kept_l1 : Ctx.T [.fz 4 Int, .oo 3 (List Int), .bo 0 (List Int), .fz 1 Int] → Rs (Ctx.T [.oo 3 (List Int), .bo 0 (List Int), .fz 1 Int] ⊕ Bool) := fun γ => Rs.bind (Rs.bind (Rs.bind (Rs.bind (Rs.bind (Rs.bind (Rs.ok γ.2.1) theI) (fun x => Rs.bind (Rs.ok γ.1) (fun y => getI x y))) (fun a => Rs.bind (Rs.ok ()) (fun g => Rs.ok (a, g)))) m_law_is_integer) (fun b => Rs.ok (!b))) (fun b => if b = true then Rs.bind (Rs.ok false) (fun z => Rs.ok (.inr z)) else Rs.bind (Rs.bind (Rs.bind (Rs.ok γ.1) (fun x => Rs.bind (Rs.ok (0 : Int)) (fun y => Rs.ok (decide (y < x))))) (fun b => if b = true then Rs.bind (Rs.bind (Rs.bind (Rs.ok γ.2.1) theI) (fun x => Rs.bind (Rs.bind (Rs.ok γ.1) (fun x => Rs.bind (Rs.ok (1 : Int)) (fun y => Rs.ok (x - y)))) (fun y => getI x y))) (fun x => Rs.bind (Rs.bind (Rs.bind (Rs.ok γ.2.1) theI) (fun x => Rs.bind (Rs.ok γ.1) (fun y => getI x y))) (fun y => Rs.ok (decide (y ≤ x)))) else Rs.ok false)) (fun b => if b = true then Rs.bind (Rs.ok false) (fun z => Rs.ok (.inr z)) else Rs.ok (.inl (γ.2.1, γ.2.2.1, γ.2.2.2.1, ()))))
noncomputable def m_law_kinds_kept_b2 : Ctx.T [.fz 5 Bool, .ow 3 (List Int)] → Rs Bool := fun γ => Rs.bind (Rs.bind (Rs.ok (1 : Int)) (fun a => Rs.bind (Rs.bind (Rs.bind (Rs.ok γ.2.1) (fun x => Rs.ok (x.length : Int))) (fun x => Rs.bind (Rs.ok (1 : Int)) (fun y => Rs.ok (x - y)))) (fun k => Rs.bind (setI γ.2.1 k a) (fun ys => Rs.ok (γ.1, ys, ()))))) (fun γ => Rs.bind (Rs.bind (Rs.ok (2 : Int)) (fun a => Rs.bind (appI γ.2.1 a) (fun ys => Rs.ok (γ.1, ys, ())))) (fun γ => Rs.ok γ.1))
noncomputable def m_law_kinds_kept_b3 : Ctx.T [.oo 3 (List Int), .bo 0 (List Int), .fz 1 Int] → Rs Bool := fun γ => Rs.bind (Rs.bind (Rs.bind (Rs.bind (Rs.bind (Rs.bind (Rs.ok γ.1) theI) (fun x => Rs.bind (Rs.bind (Rs.bind (Rs.bind (Rs.ok γ.1) theI) (fun x => Rs.ok (x.length : Int))) (fun x => Rs.bind (Rs.ok (1 : Int)) (fun y => Rs.ok (x - y)))) (fun y => getI x y))) (fun x => Rs.bind (Rs.ok (0 : Int)) (fun y => Rs.ok (decide (x = y))))) (fun b => if b = true then Rs.bind (Rs.bind (Rs.ok (0 : Int)) (fun x => Rs.bind (Rs.bind (Rs.bind (Rs.ok γ.2.1) (fun a => Rs.bind (Rs.bind (Rs.bind (Rs.ok γ.1) theI) (fun a => Rs.bind (Rs.ok ()) (fun g => Rs.ok (a, g)))) (fun g => Rs.ok (a, g)))) m_law_low) (fun y => Rs.ok (x - y)))) (fun x => Rs.bind (Rs.ok γ.2.2.1) (fun y => Rs.ok (decide (x = y)))) else Rs.ok false)) (fun a => Rs.ok (a, γ.1, ()))) (fun γ => Rs.bind (Nar.go (c := [.fz 5 Bool, .oo 3 (List Int)]) (c' := [.fz 5 Bool, .ow 3 (List Int)]) (Nar.s (Nar.z)) γ) m_law_kinds_kept_b2)
noncomputable def m_law_kinds_kept_b4 : Ctx.T [.oo 3 (List Int), .bo 0 (List Int), .fz 1 Int] → Rs Bool := fun γ => Rs.left (Rs.bind (Rs.bind (Rs.bind (Rs.bind (Rs.ok γ.1) theI) (fun x => Rs.ok (x.length : Int))) (fun n => Rng 0 n)) (fun xs => Rs.foldR (fun γ x => m_law_kinds_kept_l1 (x, γ)) γ xs)) m_law_kinds_kept_b3
noncomputable def m_law_kinds_kept : Ctx.T [.bo 0 (List Int), .fz 1 Int] → Rs Bool := fun γ => Rs.bind (Rs.bind (Rs.bind (Rs.ok γ.1) (fun x => Rs.ok x)) (fun a => Rs.ok (a, γ.1, γ.2.1, ()))) (fun γ => Rs.bind (Rs.bind (Rs.bind (Rs.bind (Rs.ok γ.1) (fun a => Rs.bind (Rs.bind (Rs.ok γ.2.2.1) (fun a => Rs.bind (Rs.ok ()) (fun g => Rs.ok (a, g)))) (fun g => Rs.ok (a, g)))) m_kinds_with_drop) (fun a => Rs.ok (a, γ.1, γ.2.1, γ.2.2.1, ()))) (fun γ => Rs.bind (Rs.bind (Rs.ok γ.2.1) (fun x => Rs.bind (Rs.ok γ.2.2.1) (fun y => Rs.ok (!decide (x = y))))) (fun b => if b = true then Rs.ok false else Rs.bind (Rs.bind (Rs.ok γ.2.2.2.1) (fun x => Rs.bind (Rs.bind (Rs.bind (Rs.ok γ.2.2.1) (fun a => Rs.bind (Rs.ok ()) (fun g => Rs.ok (a, g)))) m_law_due) (fun y => Rs.ok (!decide (x ∈ y))))) (fun b => if b = true then Rs.bind (Rs.ok γ.1) (fun x => Rs.bind (Rs.ok ()) (fun y => Rs.ok x.isNone)) else Rs.bind (Rs.bind (Rs.bind (Rs.bind (Rs.ok γ.1) (fun o => Rs.ok o.isSome)) (fun b => Rs.ok (!b))) (fun b => if b = true then Rs.ok true else Rs.bind (Rs.bind (Rs.bind (Rs.ok γ.1) theI) (fun x => Rs.ok (x.length : Int))) (fun x => Rs.bind (Rs.bind (Rs.ok γ.2.2.1) (fun x => Rs.ok (x.length : Int))) (fun y => Rs.ok (!decide (x = y)))))) (fun b => if b = true then Rs.ok false else m_law_kinds_kept_b4 (γ.1, γ.2.2.1, γ.2.2.2.1, ()))))))
noncomputable def m_law_e1 : Ctx.T [.fz 9 Int] → Rs Int := fun γ => Rs.bind (Rs.ok (1 : Int)) (fun x => Rs.bind (Rs.ok γ.1) (fun y => Rs.ok (x + y)))
noncomputable def m_law_l2 : Ctx.T [.fz 5 Int, .ow 4 (List Int), .fz 2 Int, .ow 1 (List Int), .fz 0 Script] → Rs (Ctx.T [.ow 4 (List Int), .fz 2 Int, .ow 1 (List Int), .fz 0 Script] ⊕ Bool) := fun γ => Rs.bind (Rs.bind (Rs.bind (Rs.bind (Rs.bind (Rs.bind (Rs.bind (Rs.ok γ.2.2.2.2.1) (fun a => Rs.bind (Rs.bind (Rs.bind (Rs.ok (2 : Int)) (fun x => Rs.bind (Rs.ok γ.1) (fun y => Rs.ok (x + y)))) (fun a => Rs.bind (Rs.ok ()) (fun g => Rs.ok (a, g)))) (fun g => Rs.ok (a, g)))) m_law_cell) (fun x => Rs.bind (Rs.ok γ.1) (fun y => Rs.ok (x + y)))) (fun a => Rs.bind (Rs.bind (Rs.bind (Rs.bind (Rs.bind (Rs.ok (7 : Int)) (fun a => Rs.bind (Rs.ok ([] : List Int)) (fun g => Rs.ok (a :: g)))) Rs.ok) (fun x => Rs.bind (Rs.ok γ.2.2.1) (fun y => repI x y))) (fun a => Rs.bind (Rs.ok ()) (fun g => Rs.ok (a, g)))) (fun g => Rs.ok (a, g)))) m_law_draws) (fun a => Rs.ok (a, γ.2.1, γ.2.2.1, γ.2.2.2.1, γ.2.2.2.2.1, ()))) (fun γ => Rs.bind (Rs.bind (Rs.bind (Rs.bind (Rs.ok γ.2.1) (fun a => Rs.bind (Rs.bind (Rs.ok γ.1) (fun a => Rs.bind (Rs.ok ()) (fun g => Rs.ok (a, g)))) (fun g => Rs.ok (a, g)))) m_law_drop_of_kinds) (fun x => Rs.bind (Rs.bind (Rs.bind (Rs.ok γ.2.1) (fun a => Rs.bind (Rs.ok ()) (fun g => Rs.ok (a, g)))) m_law_due) (fun y => Rs.ok (!decide (x ∈ y))))) (fun b => if b = true then Rs.bind (Rs.ok false) (fun z => Rs.ok (.inr z)) else Rs.ok (.inl (γ.2.1, γ.2.2.1, γ.2.2.2.1, γ.2.2.2.2.1, ()))))
noncomputable def m_law_l3 : Ctx.T [.fz 7 Int, .ow 6 (List Int), .ow 4 (List Int)] → Rs (Ctx.T [.ow 6 (List Int), .ow 4 (List Int)] ⊕ Bool) := fun γ => Rs.bind (Rs.bind (Rs.bind (Rs.bind (Rs.ok γ.2.2.1) (fun a => Rs.bind (Rs.bind (Rs.ok γ.1) (fun a => Rs.bind (Rs.ok ()) (fun g => Rs.ok (a, g)))) (fun g => Rs.ok (a, g)))) m_law_kinds_kept) (fun b => Rs.ok (!b))) (fun b => if b = true then Rs.bind (Rs.ok false) (fun z => Rs.ok (.inr z)) else Rs.ok (.inl (γ.2.1, γ.2.2.1, ())))
noncomputable def m_law_b4 : Ctx.T [.ow 6 (List Int), .ow 4 (List Int)] → Rs Bool := fun γ => Rs.ok true
noncomputable def m_law_b5 : Ctx.T [.ow 4 (List Int), .fz 2 Int, .ow 1 (List Int), .fz 0 Script] → Rs Bool := fun γ => Rs.bind (Rs.bind (Rs.bind (Rs.bind (Rs.bind (Rs.ok (2 : Int)) (fun x => Rs.ok (-x))) (fun x => Rs.bind (Rs.bind (Rs.bind (Rs.ok γ.1) (fun x => Rs.ok x.sum)) (fun x => Rs.bind (Rs.ok (2 : Int)) (fun y => Rs.ok (x + y)))) (fun y => RngL x y))) (fun x => Rs.bind (Rs.bind (Rs.bind (Rs.bind (Rs.bind (Rs.bind (Rs.ok γ.1) (fun x => Rs.ok x.sum)) (fun x => Rs.bind (Rs.ok (2 : Int)) (fun y => Rs.ok (x + y)))) (fun x => Rs.bind (Rs.bind (Rs.ok γ.2.2.1) (fun x => Rs.bind (Rs.ok (3 : Int)) (fun y => getI x y))) (fun y => Rs.ok (x + y)))) (fun a => Rs.bind (Rs.bind (Rs.bind (Rs.bind (Rs.ok (3 : Int)) (fun x => Rs.ok (-x))) (fun x => Rs.bind (Rs.bind (Rs.ok γ.2.2.1) (fun x => Rs.bind (Rs.ok (4 : Int)) (fun y => getI x y))) (fun y => Rs.ok (x - y)))) (fun a => Rs.bind (Rs.ok ([] : List Int)) (fun g => Rs.ok (a :: g)))) (fun g => Rs.ok (a :: g)))) Rs.ok) (fun y => catI x y))) (fun a => Rs.ok (a, γ.1, ()))) (fun γ => Rs.left (Rs.bind (Rs.bind (Rs.bind (Rs.ok γ.1) (fun x => Rs.bind (Rs.ok γ.1) (fun y => catI x y))) Rs.ok) (fun xs => Rs.foldR (fun γ x => m_law_l3 (x, γ)) γ xs)) m_law_b4)
noncomputable def m_law : Ctx.T [.fz 0 Script] → Rs Bool := fun γ => Rs.bind (Rs.bind (Rs.bind (Rs.bind (Rs.bind (Rs.bind (Rs.ok γ.1) (fun a => Rs.bind (Rs.bind (Rs.ok (0 : Int)) (fun a => Rs.bind (Rs.ok ()) (fun g => Rs.ok (a, g)))) (fun g => Rs.ok (a, g)))) m_law_cell) (fun a => Rs.bind (Rs.bind (Rs.bind (Rs.bind (Rs.ok (6 : Int)) (fun a => Rs.bind (Rs.bind (Rs.ok (8 : Int)) (fun a => Rs.bind (Rs.bind (Rs.ok (7 : Int)) (fun a => Rs.bind (Rs.bind (Rs.ok (60 : Int)) (fun a => Rs.bind (Rs.bind (Rs.ok (60 : Int)) (fun a => Rs.bind (Rs.bind (Rs.ok (5 : Int)) (fun a => Rs.bind (Rs.ok ([] : List Int)) (fun g => Rs.ok (a :: g)))) (fun g => Rs.ok (a :: g)))) (fun g => Rs.ok (a :: g)))) (fun g => Rs.ok (a :: g)))) (fun g => Rs.ok (a :: g)))) (fun g => Rs.ok (a :: g)))) Rs.ok) (fun a => Rs.bind (Rs.ok ()) (fun g => Rs.ok (a, g)))) (fun g => Rs.ok (a, g)))) m_law_draws) (fun a => Rs.ok (a, γ.1, ()))) (fun γ => Rs.bind (Rs.bind (Rs.bind (Rs.ok (1 : Int)) (fun x => Rs.bind (Rs.bind (Rs.ok γ.1) (fun x => Rs.bind (Rs.ok (0 : Int)) (fun y => getI x y))) (fun y => Rs.ok (x + y)))) (fun a => Rs.ok (a, γ.1, γ.2.1, ()))) (fun γ => Rs.bind (Rs.bind (Rs.ok (4 : Int)) (fun a => Rs.ok (a, γ.1, γ.2.1, γ.2.2.1, ()))) (fun γ => Rs.bind (Rs.bind (Rs.bind (Rs.bind (Rs.ok γ.2.2.1) (fun x => Rs.bind (Rs.ok (1 : Int)) (fun y => getI x y))) (fun x => Rs.bind (Rs.ok (1 : Int)) (fun y => Rs.ok (decide (x = y))))) (fun b => if b = true then Rs.bind (Rs.bind (Rs.bind (Rs.ok (1 : Int)) (fun x => Rs.bind (Rs.bind (Rs.ok γ.2.2.1) (fun x => Rs.bind (Rs.ok (2 : Int)) (fun y => getI x y))) (fun y => Rs.ok (x + y)))) (fun a => Rs.ok (γ.1, a, γ.2.2.1, γ.2.2.2.1, ()))) (fun γ => Rs.bind (Rs.bind (Rs.ok (5 : Int)) (fun a => Rs.ok (a, γ.2.1, γ.2.2.1, γ.2.2.2.1, ()))) (fun γ => Rs.ok (γ.1, γ.2.1, γ.2.2.1, γ.2.2.2.1, ()))) else Rs.ok (γ.1, γ.2.1, γ.2.2.1, γ.2.2.2.1, ()))) (fun γ => Rs.bind (Rs.bind (Rs.bind (Rs.bind (Rs.ok γ.2.2.1) (fun x => Rs.bind (Rs.ok (1 : Int)) (fun y => getI x y))) (fun x => Rs.bind (Rs.ok (2 : Int)) (fun y => Rs.ok (decide (x = y))))) (fun b => if b = true then Rs.bind (Rs.bind (Rs.bind (Rs.ok (8 : Int)) (fun x => Rs.bind (Rs.bind (Rs.ok γ.2.2.1) (fun x => Rs.bind (Rs.ok (2 : Int)) (fun y => getI x y))) (fun y => Rs.ok (x + y)))) (fun a => Rs.ok (γ.1, a, γ.2.2.1, γ.2.2.2.1, ()))) (fun γ => Rs.bind (Rs.bind (Rs.ok (2 : Int)) (fun a => Rs.ok (a, γ.2.1, γ.2.2.1, γ.2.2.2.1, ()))) (fun γ => Rs.ok (γ.1, γ.2.1, γ.2.2.1, γ.2.2.2.1, ()))) else Rs.ok (γ.1, γ.2.1, γ.2.2.1, γ.2.2.2.1, ()))) (fun γ => Rs.bind (Rs.bind (Rs.bind (Rs.bind (Rs.ok γ.2.2.1) (fun x => Rs.bind (Rs.ok (1 : Int)) (fun y => getI x y))) (fun x => Rs.bind (Rs.ok (3 : Int)) (fun y => Rs.ok (decide (x = y))))) (fun b => if b = true then Rs.bind (Rs.bind (Rs.bind (Rs.ok (1 : Int)) (fun x => Rs.bind (Rs.bind (Rs.bind (Rs.ok γ.2.2.1) (fun x => Rs.bind (Rs.ok (2 : Int)) (fun y => getI x y))) (fun x => Rs.bind (Rs.ok (2 : Int)) (fun y => if CDiv x y then Rs.ok (x / y) else Rs.no))) (fun y => Rs.ok (x + y)))) (fun a => Rs.ok (γ.1, a, γ.2.2.1, γ.2.2.2.1, ()))) (fun γ => Rs.bind (Rs.bind (Rs.ok (8 : Int)) (fun a => Rs.ok (a, γ.2.1, γ.2.2.1, γ.2.2.2.1, ()))) (fun γ => Rs.ok (γ.1, γ.2.1, γ.2.2.1, γ.2.2.2.1, ()))) else Rs.ok (γ.1, γ.2.1, γ.2.2.1, γ.2.2.2.1, ()))) (fun γ => Rs.bind (Rs.bind (Rs.bind (Rs.bind (Rs.bind (Rs.bind (Rs.bind (Rs.bind (Rs.ok γ.2.2.2.1) (fun a => Rs.bind (Rs.bind (Rs.ok (1 : Int)) (fun a => Rs.bind (Rs.ok ()) (fun g => Rs.ok (a, g)))) (fun g => Rs.ok (a, g)))) m_law_cell) (fun a => Rs.bind (Rs.bind (Rs.bind (Rs.bind (Rs.bind (Rs.ok γ.1) (fun a => Rs.bind (Rs.ok ([] : List Int)) (fun g => Rs.ok (a :: g)))) Rs.ok) (fun x => Rs.bind (Rs.ok γ.2.1) (fun y => repI x y))) (fun a => Rs.bind (Rs.ok ()) (fun g => Rs.ok (a, g)))) (fun g => Rs.ok (a, g)))) m_law_draws) Rs.ok) (fun xs => if xs.length ≤ 16777216 then Rs.comp (fun x => Rs.ok true) (fun x => m_law_e1 (x, (()))) xs else Rs.no)) (fun a => Rs.ok (a, γ.2.1, γ.2.2.1, γ.2.2.2.1, ()))) (fun γ => Rs.bind (Rs.bind (Rs.bind (Rs.bind (Rs.ok γ.1) (fun a => Rs.bind (Rs.bind (Rs.bind (Rs.ok (1 : Int)) (fun x => Rs.bind (Rs.bind (Rs.ok γ.2.2.1) (fun x => Rs.bind (Rs.ok (5 : Int)) (fun y => getI x y))) (fun y => Rs.ok (x + y)))) (fun a => Rs.bind (Rs.ok ()) (fun g => Rs.ok (a, g)))) (fun g => Rs.ok (a, g)))) m_law_drops_kept) (fun b => Rs.ok (!b))) (fun b => if b = true then Rs.ok false else Rs.left (Rs.bind (Rs.bind (Rs.ok (8 : Int)) (fun n => Rng 0 n)) (fun xs => Rs.foldR (fun γ x => m_law_l2 (x, γ)) γ xs)) m_law_b5))))))))
end Wk
set_option Elab.async false
set_option linter.all false
set_option maxRecDepth 100000
set_option maxHeartbeats 4000000
namespace Wk
open PySem PySem.Spec PyProof.Rows L2 Wm
/-! ### each def keeps its mirror -/
section
variable {P : Program} {w : World} {K : PySem.W.Frag} {mg : Str → Option Value} {base : Heap}
theorem ok_law_cell (T : Txt K mg) : FnOk P w K mg base (L2.CX P w) 2 T.a_law_cell T.d_law_cell ["script", "k"] (spF (wdOf T) (kF : Kd (wdOf T) Int) [.fz 0 Script, .fz 1 Int] m_law_cell) :=
  fn_ok T.F_law_cell sc_law_cell rfl (fun cdv A outer s H E hr =>
    b_ifT (q_cmp op_lt m_lt (e_var (Var.s (Var.z))) (e_b1 call_len_seq m_lenScript (by rfl) T.n_len bt_len (e_var (Var.z)))) (t_ret (e_t1 call_int1 m_int (by rfl) T.n_int bt_int (e_ix ix_list m_ixScript (e_var (Var.z)) (e_var (Var.s (Var.z)))))) (t_ret (e_int)))
theorem ok_law_draws (T : Txt K mg) : FnOk P w K mg base (L2.CX P w) 2 T.a_law_draws T.d_law_draws ["cell", "sizes"] (spF (wdOf T) (kO : Kd (wdOf T) (List Int)) [.fz 0 Int, .bo 1 (List Int)] m_law_draws) :=
  fn_ok T.F_law_draws sc_law_draws rfl (fun cdv A outer s H E hr =>
    b_consT (c1 := [.ow 2 (List Int), .fz 0 Int, .bo 1 (List Int)]) (s_setO sc_law_draws.nd (e_lst (l_nil (α := Int))) (Sub.keep (Sub.keep (Sub.nil))) (by exact (show 2 < 7 by decide)) rfl) (b_consT (c1 := [.fz 3 Int, .ow 2 (List Int), .fz 0 Int, .bo 1 (List Int)]) (s_set sc_law_draws.nd (e_t1 call_int1 m_int (by rfl) T.n_int bt_int (e_var (Var.s (Var.z)))) (Sub.keep (Sub.keep (Sub.keep (Sub.nil)))) (by exact (show 3 < 7 by decide)) rfl) (b_consT (c1 := [.fz 4 Bool, .fz 3 Int, .ow 2 (List Int), .fz 0 Int, .bo 1 (List Int)]) (s_set sc_law_draws.nd (e_cmp op_ge m_ge (e_var (Var.z)) (e_op op_pow m_pow (e_int) (e_int))) (Sub.keep (Sub.keep (Sub.keep (Sub.keep (Sub.nil))))) (by exact (show 4 < 7 by decide)) rfl) (b_consT (c1 := [.fz 4 Bool, .fz 3 Int, .ow 2 (List Int), .fz 0 Int, .bo 1 (List Int)]) (s_for (mb := m_law_draws_l1) (passes_of rfl) rfl (by first | exact .inl rfl | exact .inr rfl) (i_rng1 (fr := .g) (by rfl) T.n_range (e_b1 call_len_seq m_lenL (by rfl) T.n_len bt_len (e_varB (Var.s (Var.s (Var.s (Var.s (Var.z)))))))) (pg_name (i := 5) sc_law_draws.nd rfl (by first | exact .inl rfl | exact .inr rfl)) (g_name (by exact (show 5 < 7 by decide)) rfl) (b_cons (c1 := [.fz 4 Bool, .fz 3 Int, .ow 2 (List Int), .fz 0 Int, .bo 1 (List Int)]) (s_if (PW.pt (q_and (q_val (e_var (Var.s (Var.z)))) (q_and1 (q_cmp op_gt m_gt (e_var (Var.s (Var.s (Var.z)))) (e_int))))) (b_cons (c1 := [.fz 5 Int, .fz 4 Bool, .fz 3 Int, .ow 2 (List Int), .fz 0 Int, .bo 1 (List Int)]) (s_append (Var.s (Var.s (Var.s (Var.z)))) (e_op op_mod m_mod (e_t1 call_int1 m_int (by rfl) T.n_int bt_int (e_var (Var.s (Var.s (Var.z))))) (e_ix ix_list m_ixL (e_varB (Var.s (Var.s (Var.s (Var.s (Var.s (Var.z))))))) (e_var (Var.z))))) (b_cons (c1 := [.fz 5 Int, .fz 4 Bool, .fz 3 Int, .ow 2 (List Int), .fz 0 Int, .bo 1 (List Int)]) (s_upd sc_law_draws.nd (e_op op_fdiv m_div (e_t1 call_int1 m_int (by rfl) T.n_int bt_int (e_var (Var.s (Var.s (Var.z))))) (e_ix ix_list m_ixL (e_varB (Var.s (Var.s (Var.s (Var.s (Var.s (Var.z))))))) (e_var (Var.z)))) (Var.s (Var.s (Var.z))) (by exact (show 3 < 7 by decide))) (b_nil (Sub.skip (Sub.keep (Sub.keep (Sub.keep (Sub.keep (Sub.keep (Sub.nil)))))))))) (b_cons (c1 := [.fz 6 Int, .fz 5 Int, .fz 4 Bool, .fz 3 Int, .ow 2 (List Int), .fz 0 Int, .bo 1 (List Int)]) (s_set sc_law_draws.nd (e_op op_mod m_mod (e_t1 call_int1 m_int (by rfl) T.n_int bt_int (e_op op_add m_add (e_op op_add m_add (e_var (Var.s (Var.s (Var.s (Var.s (Var.z)))))) (e_op op_mul m_mul (e_int) (e_var (Var.z)))) (e_int))) (e_int)) (Sub.keep (Sub.keep (Sub.keep (Sub.keep (Sub.keep (Sub.keep (Sub.nil))))))) (by exact (show 6 < 7 by decide)) rfl) (b_cons (c1 := [.fz 6 Int, .fz 5 Int, .fz 4 Bool, .fz 3 Int, .ow 2 (List Int), .fz 0 Int, .bo 1 (List Int)]) (s_upd sc_law_draws.nd (e_op op_mod m_mod (e_t1 call_int1 m_int (by rfl) T.n_int bt_int (e_op op_mul m_mul (e_var (Var.z)) (e_op op_add m_add (e_var (Var.z)) (e_int)))) (e_int)) (Var.z) (by exact (show 6 < 7 by decide))) (b_cons (c1 := [.fz 6 Int, .fz 5 Int, .fz 4 Bool, .fz 3 Int, .ow 2 (List Int), .fz 0 Int, .bo 1 (List Int)]) (s_upd sc_law_draws.nd (e_op op_mod m_mod (e_t1 call_int1 m_int (by rfl) T.n_int bt_int (e_op op_add m_add (e_op op_mul m_mul (e_var (Var.z)) (e_op op_add m_add (e_var (Var.z)) (e_int))) (e_op op_mul m_mul (e_int) (e_var (Var.s (Var.z)))))) (e_int)) (Var.z) (by exact (show 6 < 7 by decide))) (b_cons (c1 := [.fz 6 Int, .fz 5 Int, .fz 4 Bool, .fz 3 Int, .ow 2 (List Int), .fz 0 Int, .bo 1 (List Int)]) (s_append (Var.s (Var.s (Var.s (Var.s (Var.z))))) (e_op op_mod m_mod (e_t1 call_int1 m_int (by rfl) T.n_int bt_int (e_op op_fdiv m_div (e_var (Var.z)) (e_int))) (e_ix ix_list m_ixL (e_varB (Var.s (Var.s (Var.s (Var.s (Var.s (Var.s (Var.z)))))))) (e_var (Var.s (Var.z)))))) (b_nil (Sub.skip (Sub.skip (Sub.keep (Sub.keep (Sub.keep (Sub.keep (Sub.keep (Sub.nil)))))))))))))) (b_nil (Sub.keep (Sub.keep (Sub.keep (Sub.keep (Sub.keep (Sub.nil))))))))) (t_retW (Var.s (Var.s (Var.z))))))))
theorem ok_drops (T : Txt K mg) : FnOk P w K mg base (L2.CX P w) 2 T.a_drops T.d_drops ["counts"] (spF (wdOf T) (kO : Kd (wdOf T) (List Int)) [.bo 0 (List Int)] m_drops) :=
  fn_ok T.F_drops sc_drops rfl (fun cdv A outer s H E hr =>
    t_ret (e_listR2 rfl T.n_list T.n_range (e_op op_sub m_sub (e_b1 call_len_seq m_lenL (by rfl) T.n_len bt_len (e_varB (Var.z))) (e_int)) (e_op op_add m_add (e_op op_sub m_sub (e_b1 (cr_sum rfl) m_sum (by rfl) T.n_sum bt_sum (e_varB (Var.z))) (e_ix ix_list m_ixL (e_varB (Var.z)) (e_un un_neg m_neg (e_int)))) (e_int))))
theorem ok_law_due (T : Txt K mg) : FnOk P w K mg base (L2.CX P w) 2 T.a_law_due T.d_law_due ["counts"] (spF (wdOf T) (kO : Kd (wdOf T) (List Int)) [.bo 0 (List Int)] m_law_due) :=
  fn_ok T.F_law_due sc_law_due rfl (fun cdv A outer s H E hr =>
    t_ret (e_listR2 rfl T.n_list T.n_range (e_op op_sub m_sub (e_b1 call_len_seq m_lenL (by rfl) T.n_len bt_len (e_varB (Var.z))) (e_int)) (e_op op_add m_add (e_b1 (cr_sum rfl) m_sum (by rfl) T.n_sum bt_sum (e_ob (e_slL (e_varB (Var.z)) (p_none) (p_some (e_op op_sub m_sub (e_b1 call_len_seq m_lenL (by rfl) T.n_len bt_len (e_varB (Var.z))) (e_int)))))) (e_int))))
theorem ok_law_is_integer (T : Txt K mg) : FnOk P w K mg base (L2.CX P w) 2 T.a_law_is_integer T.d_law_is_integer ["value"] (spF (wdOf T) (kF : Kd (wdOf T) Bool) [.fz 0 Int] m_law_is_integer) :=
  fn_ok T.F_law_is_integer sc_law_is_integer rfl (fun cdv A outer s H E hr =>
    t_ret (e_and (e_isi (t := fun _ => .type "int") (b := fun _ => true) (u := .type "int") T.n_isinstance (e_var (Var.z)) (pe_bltn (v := .ty "int") (by rfl) T.n_int bt_int rfl) (.ty _) ty_int (fun _ => kit_ty (by decide +kernel))) (e_one (e_not (e_isi (t := fun _ => .type "int") (b := fun _ => false) (u := .type "bool") T.n_isinstance (e_var (Var.z)) (pe_bltn (v := .ty "bool") (by rfl) T.n_bool bt_bool rfl) (.ty _) ty_int (fun _ => kit_ty (by decide +kernel)))))))
theorem ok_law_list_is (T : Txt K mg) : FnOk P w K mg base (L2.CX P w) 3 T.a_law_list_is T.d_law_list_is ["told", "due"] (spF (wdOf T) (kF : Kd (wdOf T) Bool) [.bo 0 (List Int), .bo 1 (List Int)] m_law_list_is) :=
  fn_ok T.F_law_list_is sc_law_list_is rfl (fun cdv A outer s H E hr =>
    b_ifT (PW.pt (q_or (q_not (q_val (e_isi (t := fun _ => .type "list") (b := fun _ => true) (u := .type "list") T.n_isinstance (e_varB (Var.z)) (pe_bltn (v := .ty "list") (by rfl) T.n_list bt_list rfl) (.ty _) ty_listB (fun _ => kit_ty (by decide +kernel))))) (q_or1 (q_cmp op_ne m_neI (e_b1 call_len_seq m_lenL (by rfl) T.n_len bt_len (e_varB (Var.z))) (e_b1 call_len_seq m_lenL (by rfl) T.n_len bt_len (e_varB (Var.s (Var.z)))))))) (t_ret (e_bl)) (t_ret (e_cmp op_eq m_eqI (e_b1 call_len_seq m_lenL (by rfl) T.n_len bt_len (e_ob (e_lc (own := [("k", 2)]) (c2 := [.fz 2 Int, .bo 0 (List Int), .bo 1 (List Int)]) (mt := m_law_list_is_t1) (me := m_law_list_is_e2) rfl sc_law_list_is.nd (i_rng1 (fr := .g) (by rfl) T.n_range (e_b1 call_len_seq m_lenL (by rfl) T.n_len bt_len (e_varB (Var.s (Var.z))))) (blkOk_by (N := ["told", "due", "k"]) (sc := defScope s_law_list_is) (by decide +kernel)) (Sub.keep (Sub.keep (Sub.nil))) rfl (gc_name (by exact (show 2 < 3 by decide)) rfl) (fun _ _ _ _ _ => pg_name (i := 2) sc_law_list_is.nd rfl (by first | exact .inl rfl | exact .inr rfl)) (fun _ _ _ _ _ => pts_one (PW.pt (q_or (q_not (q_val (e_call (Γ := [.fz 0 Int]) takes0 (ok_law_is_integer T) (hr.mono (by decide)) T.g_law_is_integer T.F_law_is_integer.kp T.b_law_is_integer (a_cons (e_ix ix_list m_ixL (e_varB (Var.s (Var.z))) (e_var (Var.z))) (a_nil))))) (q_or1 (q_cmp op_ne m_neI (e_ix ix_list m_ixL (e_varB (Var.s (Var.z))) (e_var (Var.z))) (e_ix ix_list m_ixL (e_varB (Var.s (Var.s (Var.z)))) (e_var (Var.z)))))))) (fun _ _ _ _ _ => e_var (Var.z))))) (e_int))))
theorem ok_law_drops_kept (T : Txt K mg) : FnOk P w K mg base (L2.CX P w) 4 T.a_law_drops_kept T.d_law_drops_kept ["counts", "more"] (spF (wdOf T) (kF : Kd (wdOf T) Bool) [.bo 0 (List Int), .fz 1 Int] m_law_drops_kept) :=
  fn_ok T.F_law_drops_kept sc_law_drops_kept rfl (fun cdv A outer s H E hr =>
    b_consT (c1 := [.ow 2 (List Int), .bo 0 (List Int), .fz 1 Int]) (s_setO sc_law_drops_kept.nd (e_t1 call_list_of m_list (by rfl) T.n_list bt_list (e_varB (Var.z))) (Sub.keep (Sub.keep (Sub.nil))) (by exact (show 2 < 4 by decide)) rfl) (b_consT (c1 := [.ow 3 (List Int), .ow 2 (List Int), .bo 0 (List Int), .fz 1 Int]) (s_setO sc_law_drops_kept.nd (e_call (Γ := [.bo 0 (List Int)]) (takes_of rfl rfl rfl rfl) (ok_drops T) (hr.mono (by decide)) T.g_drops T.F_drops.kp T.b_drops (a_consB (e_varW (Var.z)) (a_nil))) (Sub.keep (Sub.keep (Sub.keep (Sub.nil)))) (by exact (show 3 < 4 by decide)) rfl) (b_ifT (PW.pt (q_or (q_cmp (op_neD hr.units) m_neB (e_varW (Var.s (Var.z))) (e_varB (Var.s (Var.s (Var.z))))) (q_or1 (q_not (q_val (e_call (Γ := [.bo 0 (List Int), .bo 1 (List Int)]) (takes_of rfl rfl rfl rfl) (ok_law_list_is T) (hr.mono (by decide)) T.g_law_list_is T.F_law_list_is.kp T.b_law_list_is (a_consB (e_varW (Var.z)) (a_consB (e_ob (e_call (Γ := [.bo 0 (List Int)]) (takes_of rfl rfl rfl rfl) (ok_law_due T) (hr.mono (by decide)) T.g_law_due T.F_law_due.kp T.b_law_due (a_consB (e_varB (Var.s (Var.s (Var.z)))) (a_nil)))) (a_nil))))))))) (t_ret (e_bl)) (b_consT (c1 := [.ow 3 (List Int), .ow 2 (List Int), .bo 0 (List Int), .fz 1 Int]) (s_append (Var.z) (e_op op_add m_add (e_b1 call_len_seq m_lenL (by rfl) T.n_len bt_len (e_varB (Var.s (Var.s (Var.z))))) (e_int))) (b_consT (c1 := [.ow 3 (List Int), .ow 2 (List Int), .bo 0 (List Int), .fz 1 Int]) (s_store (Var.z) (e_un un_neg m_neg (e_int)) (e_int)) (b_consT (c1 := [.ow 3 (List Int), .ow 2 (List Int), .bo 0 (List Int), .fz 1 Int]) (s_append (Var.s (Var.z)) (e_var (Var.s (Var.s (Var.s (Var.z)))))) (b_ifT (q_not (q_val (e_call (Γ := [.bo 0 (List Int), .bo 1 (List Int)]) (takes_of rfl rfl rfl rfl) (ok_law_list_is T) (hr.mono (by decide)) T.g_law_list_is T.F_law_list_is.kp T.b_law_list_is (a_consB (e_ob (e_call (Γ := [.bo 0 (List Int)]) (takes_of rfl rfl rfl rfl) (ok_drops T) (hr.mono (by decide)) T.g_drops T.F_drops.kp T.b_drops (a_consB (e_varW (Var.s (Var.z))) (a_nil)))) (a_consB (e_ob (e_call (Γ := [.bo 0 (List Int)]) (takes_of rfl rfl rfl rfl) (ok_law_due T) (hr.mono (by decide)) T.g_law_due T.F_law_due.kp T.b_law_due (a_consB (e_ob (e_op op_cat m_cat (e_varB (Var.s (Var.s (Var.z)))) (e_ob (e_lst (l_cons (e_var (Var.s (Var.s (Var.s (Var.z))))) (l_nil (α := Int))))))) (a_nil)))) (a_nil)))))) (t_ret (e_bl)) (t_ret (e_call (Γ := [.bo 0 (List Int), .bo 1 (List Int)]) (takes_of rfl rfl rfl rfl) (ok_law_list_is T) (hr.mono (by decide)) T.g_law_list_is T.F_law_list_is.kp T.b_law_list_is (a_consB (e_ob (e_call (Γ := [.bo 0 (List Int)]) (takes_of rfl rfl rfl rfl) (ok_drops T) (hr.mono (by decide)) T.g_drops T.F_drops.kp T.b_drops (a_consB (e_ob (e_t1 call_list_of m_list (by rfl) T.n_list bt_list (e_varB (Var.s (Var.s (Var.z)))))) (a_nil)))) (a_consB (e_ob (e_call (Γ := [.bo 0 (List Int)]) (takes_of rfl rfl rfl rfl) (ok_law_due T) (hr.mono (by decide)) T.g_law_due T.F_law_due.kp T.b_law_due (a_consB (e_varB (Var.s (Var.s (Var.z)))) (a_nil)))) (a_nil))))))))))))
theorem ok_law_low (T : Txt K mg) : FnOk P w K mg base (L2.CX P w) 2 T.a_law_low T.d_law_low ["counts", "sharpnesses"] (spF (wdOf T) (kF : Kd (wdOf T) Int) [.bo 0 (List Int), .bo 1 (List Int)] m_law_low) :=
  fn_ok T.F_law_low sc_law_low rfl (fun cdv A outer s H E hr =>
    b_consT (c1 := [.fz 2 Int, .bo 0 (List Int), .bo 1 (List Int)]) (s_set sc_law_low.nd (e_ix ix_list m_ixL (e_varB (Var.s (Var.z))) (e_int)) (Sub.keep (Sub.keep (Sub.nil))) (by exact (show 2 < 5 by decide)) rfl) (b_consT (c1 := [.fz 3 Int, .fz 2 Int, .bo 0 (List Int), .bo 1 (List Int)]) (s_set sc_law_low.nd (e_int) (Sub.keep (Sub.keep (Sub.keep (Sub.nil)))) (by exact (show 3 < 5 by decide)) rfl) (b_consT (c1 := [.fz 3 Int, .fz 2 Int, .bo 0 (List Int), .bo 1 (List Int)]) (s_for (mb := m_law_low_l1) (passes_of rfl) rfl (by first | exact .inl rfl | exact .inr rfl) (i_rng1 (fr := .g) (by rfl) T.n_range (e_b1 call_len_seq m_lenL (by rfl) T.n_len bt_len (e_varB (Var.s (Var.s (Var.z)))))) (pg_name (i := 4) sc_law_low.nd rfl (by first | exact .inl rfl | exact .inr rfl)) (g_name (by exact (show 4 < 5 by decide)) rfl) (b_cons (c1 := [.fz 4 Int, .fz 3 Int, .fz 2 Int, .bo 0 (List Int), .bo 1 (List Int)]) (s_upd sc_law_low.nd (e_b1 (cr_max rfl) m_max (by rfl) T.n_max bt_max (e_ob (e_lst (l_cons (e_var (Var.s (Var.s (Var.z)))) (l_cons (e_op op_sub m_sub (e_ix ix_list m_ixL (e_varB (Var.s (Var.s (Var.s (Var.s (Var.z)))))) (e_var (Var.z))) (e_var (Var.s (Var.z)))) (l_nil (α := Int))))))) (Var.s (Var.s (Var.z))) (by exact (show 2 < 5 by decide))) (b_cons (c1 := [.fz 4 Int, .fz 3 Int, .fz 2 Int, .bo 0 (List Int), .bo 1 (List Int)]) (s_upd sc_law_low.nd (e_op op_add m_add (e_var (Var.s (Var.z))) (e_ix ix_list m_ixL (e_varB (Var.s (Var.s (Var.s (Var.z))))) (e_var (Var.z)))) (Var.s (Var.z)) (by exact (show 3 < 5 by decide))) (b_nil (Sub.skip (Sub.keep (Sub.keep (Sub.keep (Sub.keep (Sub.nil)))))))))) (t_ret (e_var (Var.s (Var.z)))))))
theorem ok_law_drop_of_kinds (T : Txt K mg) : FnOk P w K mg base (L2.CX P w) 3 T.a_law_drop_of_kinds T.d_law_drop_of_kinds ["counts", "steps"] (spF (wdOf T) (kF : Kd (wdOf T) Int) [.bo 0 (List Int), .bo 1 (List Int)] m_law_drop_of_kinds) :=
  fn_ok T.F_law_drop_of_kinds sc_law_drop_of_kinds rfl (fun cdv A outer s H E hr =>
    b_consT (c1 := [.ow 2 (List Int), .bo 0 (List Int), .bo 1 (List Int)]) (s_setO sc_law_drop_of_kinds.nd (e_lst (l_cons (e_int) (l_nil (α := Int)))) (Sub.keep (Sub.keep (Sub.nil))) (by exact (show 2 < 4 by decide)) rfl) (b_consT (c1 := [.ow 2 (List Int), .bo 0 (List Int), .bo 1 (List Int)]) (s_for (mb := m_law_drop_of_kinds_l1) (passes_of rfl) rfl (by first | exact .inl rfl | exact .inr rfl) (i_rng2 (fr := .g) (by rfl) T.n_range (e_int) (e_b1 call_len_seq m_lenL (by rfl) T.n_len bt_len (e_varB (Var.s (Var.z))))) (pg_name (i := 3) sc_law_drop_of_kinds.nd rfl (by first | exact .inl rfl | exact .inr rfl)) (g_name (by exact (show 3 < 4 by decide)) rfl) (b_cons (c1 := [.fz 3 Int, .ow 2 (List Int), .bo 0 (List Int), .bo 1 (List Int)]) (s_append (Var.s (Var.z)) (e_op op_add m_add (e_op op_add m_add (e_ix ix_list m_ixL (e_varW (Var.s (Var.z))) (e_op op_sub m_sub (e_var (Var.z)) (e_int))) (e_int)) (e_ix ix_list m_ixL (e_varB (Var.s (Var.s (Var.s (Var.z))))) (e_var (Var.z))))) (b_nil (Sub.skip (Sub.keep (Sub.keep (Sub.keep (Sub.nil)))))))) (t_ret (e_op op_sub m_sub (e_ix ix_list m_ixL (e_varW (Var.z)) (e_op op_sub m_sub (e_b1 call_len_seq m_lenL (by rfl) T.n_len bt_len (e_varB (Var.s (Var.z)))) (e_int))) (e_call (Γ := [.bo 0 (List Int), .bo 1 (List Int)]) (takes_of rfl rfl rfl rfl) (ok_law_low T) (hr.mono (by decide)) T.g_law_low T.F_law_low.kp T.b_law_low (a_consB (e_varB (Var.s (Var.z))) (a_consB (e_varW (Var.z)) (a_nil))))))))
theorem ok_kinds_with_drop (T : Txt K mg) : FnOk P w K mg base (L2.CX P w) 3 T.a_kinds_with_drop T.d_kinds_with_drop ["counts", "drop"] (spF (wdOf T) (kQ : Kd (wdOf T) (Option (List Int))) [.bo 0 (List Int), .fz 1 Int] m_kinds_with_drop) :=
  fn_ok T.F_kinds_with_drop sc_kinds_with_drop rfl (fun cdv A outer s H E hr =>
    b_ifT (q_cmp op_notIn_seq m_niI (e_var (Var.s (Var.z))) (e_ob (e_call (Γ := [.bo 0 (List Int)]) (takes_of rfl rfl rfl rfl) (ok_drops T) (hr.mono (by decide)) T.g_drops T.F_drops.kp T.b_drops (a_consB (e_varB (Var.z)) (a_nil))))) (t_ret (e_nonQ)) (t_ret (e_someQ (e_op op_cat m_cat (e_ob (e_lc (own := [("place", 2)]) (c2 := [.fz 2 Int, .fz 1 Int]) (mt := fun _ => Rs.ok true) (me := m_kinds_with_drop_e1) rfl sc_kinds_with_drop.nd (i_rng1 (fr := .g) (by rfl) T.n_range (e_op op_sub m_sub (e_b1 call_len_seq m_lenL (by rfl) T.n_len bt_len (e_varB (Var.z))) (e_int))) (blkOk_by (N := ["counts", "drop", "place"]) (sc := defScope s_kinds_with_drop) (by decide +kernel)) (Sub.skip (Sub.keep (Sub.nil))) rfl (gc_name (by exact (show 2 < 3 by decide)) rfl) (fun _ _ _ _ _ => pg_name (i := 2) sc_kinds_with_drop.nd rfl (by first | exact .inl rfl | exact .inr rfl)) (fun _ _ _ _ _ => pts_yes) (fun _ _ _ _ _ => e_op op_sub m_sub (e_var (Var.z)) (e_var (Var.s (Var.z)))))) (e_ob (e_lst (l_cons (e_int) (l_nil (α := Int)))))))))
theorem ok_law_kinds_kept (T : Txt K mg) : FnOk P w K mg base (L2.CX P w) 4 T.a_law_kinds_kept T.d_law_kinds_kept ["counts", "drop"] (spF (wdOf T) (kF : Kd (wdOf T) Bool) [.bo 0 (List Int), .fz 1 Int] m_law_kinds_kept) :=
  fn_ok T.F_law_kinds_kept sc_law_kinds_kept rfl (fun cdv A outer s H E hr =>
    b_consT (c1 := [.ow 2 (List Int), .bo 0 (List Int), .fz 1 Int]) (s_setO sc_law_kinds_kept.nd (e_t1 call_list_of m_list (by rfl) T.n_list bt_list (e_varB (Var.z))) (Sub.keep (Sub.keep (Sub.nil))) (by exact (show 2 < 6 by decide)) rfl) (b_consT (c1 := [.oo 3 (List Int), .ow 2 (List Int), .bo 0 (List Int), .fz 1 Int]) (s_setQ sc_law_kinds_kept.nd (e_call (Γ := [.bo 0 (List Int), .fz 1 Int]) (takes_of rfl rfl rfl rfl) (ok_kinds_with_drop T) (hr.mono (by decide)) T.g_kinds_with_drop T.F_kinds_with_drop.kp T.b_kinds_with_drop (a_consB (e_varW (Var.z)) (a_cons (e_var (Var.s (Var.s (Var.z)))) (a_nil)))) (Sub.keep (Sub.keep (Sub.keep (Sub.nil)))) (by exact (show 3 < 6 by decide)) rfl) (b_ifT (q_cmp (op_neD hr.units) m_neB (e_varW (Var.s (Var.z))) (e_varB (Var.s (Var.s (Var.z))))) (t_ret (e_bl)) (b_ifT (q_cmp op_notIn_seq m_niI (e_var (Var.s (Var.s (Var.s (Var.z))))) (e_ob (e_call (Γ := [.bo 0 (List Int)]) (takes_of rfl rfl rfl rfl) (ok_law_due T) (hr.mono (by decide)) T.g_law_due T.F_law_due.kp T.b_law_due (a_consB (e_varB (Var.s (Var.s (Var.z)))) (a_nil))))) (t_ret (e_cmp op_isN m_isNN (e_varQ (Var.z)) (e_non))) (b_ifT (PW.pt (q_or (q_not (q_val (e_isi (t := fun o => if o.isSome then .type "list" else .type "NoneType") (b := fun o => o.isSome) (u := .type "list") T.n_isinstance (e_varQ (Var.z)) (pe_bltn (v := .ty "list") (by rfl) T.n_list bt_list rfl) (.ty _) ty_optN kit_optL))) (q_or1 (q_cmp op_ne m_neI (e_b1 call_len_seq m_lenL (by rfl) T.n_len bt_len (e_nar (e_varQ (Var.z)))) (e_b1 call_len_seq m_lenL (by rfl) T.n_len bt_len (e_varB (Var.s (Var.s (Var.z))))))))) (t_ret (e_bl)) (b_subT (m := m_law_kinds_kept_b4) (Sub.keep (Sub.skip (Sub.keep (Sub.keep (Sub.nil))))) (b_goT (c1 := [.oo 3 (List Int), .bo 0 (List Int), .fz 1 Int]) (m2 := m_law_kinds_kept_b3) (s_forG (mb := m_law_kinds_kept_l1) (passes_of rfl) rfl (by first | exact .inl rfl | exact .inr rfl) (i_rng1 (fr := .g) (by rfl) T.n_range (e_b1 call_len_seq m_lenL (by rfl) T.n_len bt_len (e_nar (e_varQ (Var.z))))) (pg_name (i := 4) sc_law_kinds_kept.nd rfl (by first | exact .inl rfl | exact .inr rfl)) (g_name (by exact (show 4 < 6 by decide)) rfl) (b_ifG (q_not (q_val (e_call (Γ := [.fz 0 Int]) (takes_of rfl rfl rfl rfl) (ok_law_is_integer T) (hr.mono (by decide)) T.g_law_is_integer T.F_law_is_integer.kp T.b_law_is_integer (a_cons (e_ix ix_list m_ixL (e_nar (e_varQ (Var.s (Var.z)))) (e_var (Var.z))) (a_nil))))) (t_ret (e_bl)) (b_ifG (PW.pt (q_and (q_cmp op_gt m_gt (e_var (Var.z)) (e_int)) (q_and1 (q_cmp op_ge m_ge (e_ix ix_list m_ixL (e_nar (e_varQ (Var.s (Var.z)))) (e_op op_sub m_sub (e_var (Var.z)) (e_int))) (e_ix ix_list m_ixL (e_nar (e_varQ (Var.s (Var.z)))) (e_var (Var.z))))))) (t_ret (e_bl)) (b_nilG (Sub.skip (Sub.keep (Sub.keep (Sub.keep (Sub.nil))))))))) (b_consT (c1 := [.fz 5 Bool, .oo 3 (List Int)]) (s_set sc_law_kinds_kept.nd (e_and (e_cmp op_eq m_eqI (e_ix ix_list m_ixL (e_nar (e_varQ (Var.z))) (e_op op_sub m_sub (e_b1 call_len_seq m_lenL (by rfl) T.n_len bt_len (e_nar (e_varQ (Var.z)))) (e_int))) (e_int)) (e_one (e_cmp op_eq m_eqI (e_op op_sub m_sub (e_int) (e_call (Γ := [.bo 0 (List Int), .bo 1 (List Int)]) (takes_of rfl rfl rfl rfl) (ok_law_low T) (hr.mono (by decide)) T.g_law_low T.F_law_low.kp T.b_law_low (a_consB (e_varB (Var.s (Var.z))) (a_consB (e_nar (e_varQ (Var.z))) (a_nil))))) (e_var (Var.s (Var.s (Var.z))))))) (Sub.keep (Sub.skip (Sub.skip (Sub.nil)))) (by exact (show 5 < 6 by decide)) rfl) (b_narT (m := m_law_kinds_kept_b2) (Nar.s (Nar.z)) (b_consT (c1 := [.fz 5 Bool, .ow 3 (List Int)]) (s_store (Var.s (Var.z)) (e_int) (e_op op_sub m_sub (e_b1 call_len_seq m_lenL (by rfl) T.n_len bt_len (e_varW (Var.s (Var.z)))) (e_int))) (b_consT (c1 := [.fz 5 Bool, .ow 3 (List Int)]) (s_append (Var.s (Var.z)) (e_int)) (t_ret (e_var (Var.z))))))))))))))
theorem ok_law (T : Txt K mg) : FnOk P w K mg base (L2.CX P w) 5 T.a_law T.d_law ["script"] (spF (wdOf T) (kF : Kd (wdOf T) Bool) [.fz 0 Script] m_law) :=
  fn_ok T.F_law sc_law rfl (fun cdv A outer s H E hr =>
    b_consT (c1 := [.ow 1 (List Int), .fz 0 Script]) (s_setO sc_law.nd (e_call (Γ := [.fz 0 Int, .bo 1 (List Int)]) (takes_of rfl rfl rfl rfl) (ok_law_draws T) (hr.mono (by decide)) T.g_law_draws T.F_law_draws.kp T.b_law_draws (a_cons (e_call (Γ := [.fz 0 Script, .fz 1 Int]) (takes_of rfl rfl rfl rfl) (ok_law_cell T) (hr.mono (by decide)) T.g_law_cell T.F_law_cell.kp T.b_law_cell (a_cons (e_var (Var.z)) (a_cons (e_int) (a_nil)))) (a_consB (e_ob (e_lst (l_cons (e_int) (l_cons (e_int) (l_cons (e_int) (l_cons (e_int) (l_cons (e_int) (l_cons (e_int) (l_nil (α := Int)))))))))) (a_nil)))) (Sub.keep (Sub.nil)) (by exact (show 1 < 10 by decide)) rfl) (b_consT (c1 := [.fz 2 Int, .ow 1 (List Int), .fz 0 Script]) (s_set sc_law.nd (e_op op_add m_add (e_int) (e_ix ix_list m_ixL (e_varW (Var.z)) (e_int))) (Sub.keep (Sub.keep (Sub.nil))) (by exact (show 2 < 10 by decide)) rfl) (b_consT (c1 := [.fz 3 Int, .fz 2 Int, .ow 1 (List Int), .fz 0 Script]) (s_set sc_law.nd (e_int) (Sub.keep (Sub.keep (Sub.keep (Sub.nil)))) (by exact (show 3 < 10 by decide)) rfl) (b_consT (c1 := [.fz 3 Int, .fz 2 Int, .ow 1 (List Int), .fz 0 Script]) (s_if (q_cmp op_eq m_eqI (e_ix ix_list m_ixL (e_varW (Var.s (Var.s (Var.z)))) (e_int)) (e_int)) (b_cons (c1 := [.fz 3 Int, .fz 2 Int, .ow 1 (List Int), .fz 0 Script]) (s_upd sc_law.nd (e_op op_add m_add (e_int) (e_ix ix_list m_ixL (e_varW (Var.s (Var.s (Var.z)))) (e_int))) (Var.s (Var.z)) (by exact (show 2 < 10 by decide))) (b_cons (c1 := [.fz 3 Int, .fz 2 Int, .ow 1 (List Int), .fz 0 Script]) (s_upd sc_law.nd (e_int) (Var.z) (by exact (show 3 < 10 by decide))) (b_nil (Sub.keep (Sub.keep (Sub.keep (Sub.keep (Sub.nil)))))))) (b_nil (Sub.keep (Sub.keep (Sub.keep (Sub.keep (Sub.nil))))))) (b_consT (c1 := [.fz 3 Int, .fz 2 Int, .ow 1 (List Int), .fz 0 Script]) (s_if (q_cmp op_eq m_eqI (e_ix ix_list m_ixL (e_varW (Var.s (Var.s (Var.z)))) (e_int)) (e_int)) (b_cons (c1 := [.fz 3 Int, .fz 2 Int, .ow 1 (List Int), .fz 0 Script]) (s_upd sc_law.nd (e_op op_add m_add (e_int) (e_ix ix_list m_ixL (e_varW (Var.s (Var.s (Var.z)))) (e_int))) (Var.s (Var.z)) (by exact (show 2 < 10 by decide))) (b_cons (c1 := [.fz 3 Int, .fz 2 Int, .ow 1 (List Int), .fz 0 Script]) (s_upd sc_law.nd (e_int) (Var.z) (by exact (show 3 < 10 by decide))) (b_nil (Sub.keep (Sub.keep (Sub.keep (Sub.keep (Sub.nil)))))))) (b_nil (Sub.keep (Sub.keep (Sub.keep (Sub.keep (Sub.nil))))))) (b_consT (c1 := [.fz 3 Int, .fz 2 Int, .ow 1 (List Int), .fz 0 Script]) (s_if (q_cmp op_eq m_eqI (e_ix ix_list m_ixL (e_varW (Var.s (Var.s (Var.z)))) (e_int)) (e_int)) (b_cons (c1 := [.fz 3 Int, .fz 2 Int, .ow 1 (List Int), .fz 0 Script]) (s_upd sc_law.nd (e_op op_add m_add (e_int) (e_op op_fdiv m_div (e_ix ix_list m_ixL (e_varW (Var.s (Var.s (Var.z)))) (e_int)) (e_int))) (Var.s (Var.z)) (by exact (show 2 < 10 by decide))) (b_cons (c1 := [.fz 3 Int, .fz 2 Int, .ow 1 (List Int), .fz 0 Script]) (s_upd sc_law.nd (e_int) (Var.z) (by exact (show 3 < 10 by decide))) (b_nil (Sub.keep (Sub.keep (Sub.keep (Sub.keep (Sub.nil)))))))) (b_nil (Sub.keep (Sub.keep (Sub.keep (Sub.keep (Sub.nil))))))) (b_consT (c1 := [.ow 4 (List Int), .fz 2 Int, .ow 1 (List Int), .fz 0 Script]) (s_lc (own := [("one", 9)]) (c2 := [.fz 9 Int]) (mt := fun _ => Rs.ok true) (me := m_law_e1) rfl sc_law.nd rfl rfl (sw_true rfl rfl rfl (by decide +kernel)) (i_listB rfl (e_ob (e_call (Γ := [.fz 0 Int, .bo 1 (List Int)]) (takes_of rfl rfl rfl rfl) (ok_law_draws T) (hr.mono (by decide)) T.g_law_draws T.F_law_draws.kp T.b_law_draws (a_cons (e_call (Γ := [.fz 0 Script, .fz 1 Int]) (takes_of rfl rfl rfl rfl) (ok_law_cell T) (hr.mono (by decide)) T.g_law_cell T.F_law_cell.kp T.b_law_cell (a_cons (e_var (Var.s (Var.s (Var.s (Var.z))))) (a_cons (e_int) (a_nil)))) (a_consB (e_ob (e_op op_rep m_rep (e_ob (e_lst (l_cons (e_var (Var.z)) (l_nil (α := Int))))) (e_var (Var.s (Var.z))))) (a_nil)))))) (blkOk_by (N := ["script", "drawn", "kinds", "most", "counts", "k", "asked", "drop", "steps", "one"]) (sc := defScope s_law) (by decide +kernel)) (Sub.skip (Sub.skip (Sub.skip (Sub.skip (Sub.nil))))) rfl (gc_name (by exact (show 9 < 10 by decide)) rfl) (fun _ _ _ _ _ => pg_name (i := 9) sc_law.nd rfl (by first | exact .inl rfl | exact .inr rfl)) (fun _ _ _ _ _ => pts_yes) (fun _ _ _ _ _ => e_op op_add m_add (e_int) (e_var (Var.z))) (Sub.skip (Sub.keep (Sub.keep (Sub.keep (Sub.nil))))) (by exact (show 4 < 10 by decide)) rfl) (b_ifT (q_not (q_val (e_call (Γ := [.bo 0 (List Int), .fz 1 Int]) (takes_of rfl rfl rfl rfl) (ok_law_drops_kept T) (hr.mono (by decide)) T.g_law_drops_kept T.F_law_drops_kept.kp T.b_law_drops_kept (a_consB (e_varW (Var.z)) (a_cons (e_op op_add m_add (e_int) (e_ix ix_list m_ixL (e_varW (Var.s (Var.s (Var.z)))) (e_int))) (a_nil)))))) (t_ret (e_bl)) (b_goT (c1 := [.ow 4 (List Int), .fz 2 Int, .ow 1 (List Int), .fz 0 Script]) (m2 := m_law_b5) (s_forG (mb := m_law_l2) (passes_of rfl) rfl (by first | exact .inl rfl | exact .inr rfl) (i_rng1 (fr := .g) (by rfl) T.n_range (e_int)) (pg_name (i := 5) sc_law.nd rfl (by first | exact .inl rfl | exact .inr rfl)) (g_name (by exact (show 5 < 10 by decide)) rfl) (b_consG (c1 := [.ow 8 (List Int), .ow 4 (List Int), .fz 2 Int, .ow 1 (List Int), .fz 0 Script]) (s_setO sc_law.nd (e_call (Γ := [.fz 0 Int, .bo 1 (List Int)]) (takes_of rfl rfl rfl rfl) (ok_law_draws T) (hr.mono (by decide)) T.g_law_draws T.F_law_draws.kp T.b_law_draws (a_cons (e_op op_add m_add (e_call (Γ := [.fz 0 Script, .fz 1 Int]) (takes_of rfl rfl rfl rfl) (ok_law_cell T) (hr.mono (by decide)) T.g_law_cell T.F_law_cell.kp T.b_law_cell (a_cons (e_var (Var.s (Var.s (Var.s (Var.s (Var.z)))))) (a_cons (e_op op_add m_add (e_int) (e_var (Var.z))) (a_nil)))) (e_var (Var.z))) (a_consB (e_ob (e_op op_rep m_rep (e_ob (e_lst (l_cons (e_int) (l_nil (α := Int))))) (e_var (Var.s (Var.s (Var.z)))))) (a_nil)))) (Sub.skip (Sub.keep (Sub.keep (Sub.keep (Sub.keep (Sub.nil)))))) (by exact (show 8 < 10 by decide)) rfl) (b_ifG (q_cmp op_notIn_seq m_niI (e_call (Γ := [.bo 0 (List Int), .bo 1 (List Int)]) (takes_of rfl rfl rfl rfl) (ok_law_drop_of_kinds T) (hr.mono (by decide)) T.g_law_drop_of_kinds T.F_law_drop_of_kinds.kp T.b_law_drop_of_kinds (a_consB (e_varW (Var.s (Var.z))) (a_consB (e_varW (Var.z)) (a_nil)))) (e_ob (e_call (Γ := [.bo 0 (List Int)]) (takes_of rfl rfl rfl rfl) (ok_law_due T) (hr.mono (by decide)) T.g_law_due T.F_law_due.kp T.b_law_due (a_consB (e_varW (Var.s (Var.z))) (a_nil))))) (t_ret (e_bl)) (b_nilG (Sub.skip (Sub.keep (Sub.keep (Sub.keep (Sub.keep (Sub.nil)))))))))) (b_consT (c1 := [.ow 6 (List Int), .ow 4 (List Int)]) (s_setO sc_law.nd (e_op op_cat m_cat (e_ob (e_listR2 rfl T.n_list T.n_range (e_un un_neg m_neg (e_int)) (e_op op_add m_add (e_b1 (cr_sum rfl) m_sum (by rfl) T.n_sum bt_sum (e_varW (Var.z))) (e_int)))) (e_ob (e_lst (l_cons (e_op op_add m_add (e_op op_add m_add (e_b1 (cr_sum rfl) m_sum (by rfl) T.n_sum bt_sum (e_varW (Var.z))) (e_int)) (e_ix ix_list m_ixL (e_varW (Var.s (Var.s (Var.z)))) (e_int))) (l_cons (e_op op_sub m_sub (e_un un_neg m_neg (e_int)) (e_ix ix_list m_ixL (e_varW (Var.s (Var.s (Var.z)))) (e_int))) (l_nil (α := Int))))))) (Sub.keep (Sub.skip (Sub.skip (Sub.skip (Sub.nil))))) (by exact (show 6 < 10 by decide)) rfl) (b_goT (c1 := [.ow 6 (List Int), .ow 4 (List Int)]) (m2 := m_law_b4) (s_forG (mb := m_law_l3) (passes_of rfl) rfl (by first | exact .inl rfl | exact .inr rfl) (i_list rfl (e_of (e_op op_cat m_cat (e_varW (Var.z)) (e_varW (Var.z))))) (pg_name (i := 7) sc_law.nd rfl (by first | exact .inl rfl | exact .inr rfl)) (g_name (by exact (show 7 < 10 by decide)) rfl) (b_ifG (q_not (q_val (e_call (Γ := [.bo 0 (List Int), .fz 1 Int]) (takes_of rfl rfl rfl rfl) (ok_law_kinds_kept T) (hr.mono (by decide)) T.g_law_kinds_kept T.F_law_kinds_kept.kp T.b_law_kinds_kept (a_consB (e_varW (Var.s (Var.s (Var.z)))) (a_cons (e_var (Var.z)) (a_nil)))))) (t_ret (e_bl)) (b_nilG (Sub.skip (Sub.keep (Sub.keep (Sub.nil))))))) (t_ret (e_bl)))))))))))))
end
end Wk
set_option Elab.async false
set_option linter.all false
set_option maxRecDepth 100000
set_option maxHeartbeats 400000
namespace Wk
open PySem PySem.Spec PyProof.Rows L2 Wm
theorem cell_ok (ns : List Int) (k : Nat) : ∃ v : Int, m_law_cell (⟨ns⟩, (k : Int), ()) = .ok v := by
  unfold m_law_cell
  simp only [Rs.bo]
  by_cases h : (k : Int) < (ns.length : Int)
  · rw [if_pos (by simpa using h)]
    have h' : k < ns.length := by omega
    rw [getI_nat (List.getElem?_eq_getElem h')]
    exact ⟨_, rfl⟩
  · rw [if_neg (by simpa using h)]
    exact ⟨_, rfl⟩
/-- each draw stands under its size -/
structure Drawn (sizes ds : List Int) : Prop where
  len : ds.length = sizes.length
  at' : ∀ (i : Nat) (s : Int), sizes[i]? = some s → ∃ d : Int, ds[i]? = some d ∧ 0 ≤ d ∧ d < s
theorem draws_step (sizes : List Int) (hs : ∀ s ∈ sizes, 0 < s ∧ s < 1000000) (hl : sizes.length ≤ 1000000) (cell : Int) (packed : Bool) (left : Int) (drawn : List Int) (i : Nat) (s : Int) (hi : sizes[i]? = some s) (hd : drawn.length = i) :
    ∃ left' d, m_law_draws_l1 ((i : Int), packed, left, drawn, cell, sizes, ()) = .ok (packed, left', drawn ++ [d], cell, sizes, ()) ∧ 0 ≤ d ∧ d < s := by
  obtain ⟨h0, h1⟩ := hs s (List.mem_of_getElem? hi)
  have hil : i < sizes.length := (List.getElem?_eq_some_iff.mp hi).1
  unfold m_law_draws_l1
  simp only [Rs.bo, getI_nat hi, if_pos h0, if_pos (CDiv_of h0 (show s < 1000000000 by omega)), appI_ok (show drawn.length < 16777216 by omega)]
  have ht : (if packed = true then Rs.ok (decide (0 < left)) else Rs.ok false) = Rs.ok (packed && decide (0 < left)) := by cases packed <;> rfl
  rw [ht]
  simp only [Rs.bo]
  split
  · exact ⟨_, _, rfl, Int.emod_nonneg _ (by omega), Int.emod_lt_of_pos _ h0⟩
  · rw [if_pos (CMul_l (by decide) (by decide))]
    simp only [Rs.bo]
    rw [if_pos (by decide)]
    simp only [Rs.bo]
    generalize hm1 : (cell + 7919 * (i : Int) + 13) % 2147483647 = m1
    have b1 := Int.emod_nonneg (cell + 7919 * (i : Int) + 13) (show (2147483647 : Int) ≠ 0 by decide)
    have b2 := Int.emod_lt_of_pos (cell + 7919 * (i : Int) + 13) (show (0 : Int) < 2147483647 by decide)
    rw [hm1] at b1 b2
    rw [if_pos (CMul_l (by omega) (by omega))]
    simp only [Rs.bo]
    rw [if_pos (by decide)]
    simp only [Rs.bo]
    generalize hm2 : (m1 * (m1 + 48271)) % 2147483629 = m2
    have c1 := Int.emod_nonneg (m1 * (m1 + 48271)) (show (2147483629 : Int) ≠ 0 by decide)
    have c2 := Int.emod_lt_of_pos (m1 * (m1 + 48271)) (show (0 : Int) < 2147483629 by decide)
    rw [hm2] at c1 c2
    rw [if_pos (CMul_l (by omega) (by omega))]
    simp only [Rs.bo]
    rw [if_pos (CMul_l (by decide) (by decide))]
    simp only [Rs.bo]
    rw [if_pos (by decide)]
    simp only [Rs.bo]
    rw [if_pos (CDiv_of (by decide) (by decide))]
    simp only [Rs.bo, getI_nat hi, if_pos h0, appI_ok (show drawn.length < 16777216 by omega)]
    exact ⟨_, _, rfl, Int.emod_nonneg _ (by omega), Int.emod_lt_of_pos _ h0⟩
theorem draws_ok (cell : Int) (sizes : List Int) (hs : ∀ s ∈ sizes, 0 < s ∧ s < 1000000) (hl : sizes.length ≤ 1000000) : ∃ ds, m_law_draws (cell, sizes, ()) = .ok ds ∧ Drawn sizes ds := by
  unfold m_law_draws
  simp only [Rs.bo]
  rw [if_pos (by decide)]
  simp only [Rs.bo]
  rw [Rng_nat (by omega)]
  simp only [Rs.bo]
  obtain ⟨g, e, packed, left, drawn, rfl, hd, hv⟩ := fold_inv (f := fun γ x => m_law_draws_l1 (x, γ)) (xs := rng 0 (sizes.length : Int)) (g := (decide ((10 : Int) ^ (Int.toNat 18) ≤ cell), cell, ([] : List Int), cell, sizes, ()))
    (fun i g => ∃ packed left drawn, g = (packed, left, drawn, cell, sizes, ()) ∧ drawn.length = i ∧ ∀ j s, j < i → sizes[j]? = some s → ∃ d, drawn[j]? = some d ∧ 0 ≤ d ∧ d < s)
    ⟨_, _, _, rfl, rfl, fun j s hj => absurd hj (Nat.not_lt_zero j)⟩ (by
      rintro i g a ha ⟨packed, left, drawn, rfl, hd, hv⟩
      obtain ⟨hi, rfl⟩ := rng_get ha
      have hi' : i < sizes.length := by omega
      obtain ⟨left', d, e, h0, h1⟩ := draws_step sizes hs hl cell packed left drawn i _ (List.getElem?_eq_getElem hi') hd
      refine ⟨_, by rw [show (0 : Int) + (i : Int) = (i : Int) by omega]; exact e, packed, left', drawn ++ [d], rfl, by simp [hd], fun j s hj hjs => ?_⟩
      by_cases hji : j < i
      · obtain ⟨d', k1, k2, k3⟩ := hv j s hji hjs
        exact ⟨d', by rw [List.getElem?_append_left (by omega)]; exact k1, k2, k3⟩
      · have : j = i := by omega
        subst this
        rw [List.getElem?_eq_getElem hi'] at hjs
        cases hjs
        exact ⟨d, by rw [List.getElem?_append_right (by omega), hd]; simp, h0, h1⟩)
  rw [e]
  refine ⟨drawn, rfl, by rw [hd, rng0_len], fun i s hi => hv i s ?_ hi⟩
  rw [rng0_len]
  exact (List.getElem?_eq_some_iff.mp hi).1
theorem Drawn.get {sizes ds : List Int} (h : Drawn sizes ds) {i : Nat} {s : Int} (hi : sizes[i]? = some s) : ∃ d : Int, getI ds (i : Int) = .ok d ∧ ds[i]? = some d ∧ 0 ≤ d ∧ d < s := by
  obtain ⟨d, e, h0, h1⟩ := h.at' i s hi
  exact ⟨d, getI_nat e, e, h0, h1⟩
structure Cnt (c : List Int) : Prop where
  ne : 1 ≤ c.length
  le : c.length ≤ 40
  at' : ∀ x ∈ c, 1 ≤ x ∧ x ≤ 100
/-- the sum of all but the last -/
def ini (c : List Int) : Int := pre c (c.length - 1)
def due (c : List Int) : List Int := rng ((c.length : Int) - 1) (ini c + 1)
theorem Cnt.lo {c : List Int} (h : Cnt c) : (c.length : Int) - 1 ≤ ini c := by
  have := pre_ge (a := 1) (fun x hx => (h.at' x hx).1) (c.length - 1) (by omega)
  have := h.ne
  unfold ini
  omega
theorem Cnt.hi {c : List Int} (h : Cnt c) : ini c ≤ 4000 := by
  have := pre_le (a := 100) (fun x hx => (h.at' x hx).2) (c.length - 1) (by omega)
  have := h.le
  unfold ini
  omega
theorem Cnt.split {c : List Int} (h : Cnt c) : ∃ i l, c = i ++ [l] ∧ ini c = i.sum := by
  have hn : c ≠ [] := by intro e; have := h.ne; rw [e] at this; simp at this
  refine ⟨c.dropLast, c.getLast hn, (List.dropLast_concat_getLast hn).symm, ?_⟩
  unfold ini pre
  rw [List.dropLast_eq_take]
theorem due_is {c : List Int} (h : Cnt c) : m_law_due (c, ()) = .ok (due c) := by
  have h1 := h.lo
  have h2 := h.hi
  have h3 := h.ne
  unfold m_law_due
  simp only [Rs.bo]
  rw [cutI_take (by omega)]
  rw [show ((c.length : Int) - 1).toNat = c.length - 1 by omega]
  rw [show (c.take (c.length - 1)).sum = ini c from rfl]
  rw [RngL_ok (by omega) (by omega) (by omega) (by omega) (by omega)]
  rfl
theorem drops_is {c : List Int} (h : Cnt c) : m_drops (c, ()) = .ok (due c) := by
  have h1 := h.lo
  have h2 := h.hi
  have h3 := h.ne
  obtain ⟨i, l, e, hi⟩ := h.split
  unfold m_drops
  simp only [Rs.bo]
  have e1 : getI c (-1) = .ok l := by rw [e]; exact getI_last
  have e2 : c.sum - l = ini c := by rw [hi, e, sum_app]; simp
  rw [e1]
  simp only [Rs.bo]
  rw [e2, RngL_ok (by omega) (by omega) (by omega) (by omega) (by omega)]
  rfl
theorem isint_is (x : Int) : m_law_is_integer (x, ()) = .ok true := rfl
theorem list_is {d : List Int} (hl : d.length ≤ 16777216) : m_law_list_is (d, d, ()) = .ok true := by
  unfold m_law_list_is
  simp only [Rs.bo, Bool.not_true, Bool.false_eq_true, if_false, decide_true]
  rw [Rng_nat hl]
  simp only [Rs.bo]
  rw [if_pos (by rw [rng0_len]; exact hl)]
  rw [comp_none (by
    intro x hx
    show m_law_list_is_t1 (x, d, d, ()) = _
    rw [mem_rng] at hx
    obtain ⟨a, -, ha⟩ := getI_ex (xs := d) hx.1 hx.2
    unfold m_law_list_is_t1
    simp only [Rs.bo, ha]
    rw [isint_is]
    simp only [Rs.bo, Bool.not_true, Bool.false_eq_true, if_false, decide_true])]
  rfl
theorem due_len {c : List Int} (h : Cnt c) : (due c).length ≤ 5000 := by
  have := h.hi
  have := h.ne
  unfold due
  rw [rng_len]
  omega
theorem drops_kept {c : List Int} {more : Int} (h : Cnt c) (hl : c.length ≤ 30) (hm : 1 ≤ more ∧ more ≤ 100) : m_law_drops_kept (c, more, ()) = .ok true := by
  have h1 := h.lo
  have h2 := h.hi
  have h3 := h.ne
  have hd := due_len h
  have h' : Cnt (c ++ [more]) := ⟨by rw [List.length_append]; omega, by rw [List.length_append]; simp; omega, fun x hx => by
    rcases List.mem_append.mp hx with e | e
    · exact h.at' x e
    · rw [List.mem_singleton.mp e]; exact hm⟩
  have hd' := due_len h'
  unfold m_law_drops_kept
  simp only [Rs.bo, drops_is h, due_is h]
  rw [list_is (by omega)]
  simp only [Rs.bo, decide_true, Bool.not_true, Bool.false_eq_true, if_false]
  rw [appI_ok (by omega)]
  simp only [Rs.bo]
  have hs : setI (due c ++ [(c.length : Int) + 40]) (0 : Int) (-3) = .ok ((due c ++ [(c.length : Int) + 40]).set 0 (-3)) := setI_nat (i := 0) (by rw [List.length_append]; simp)
  rw [hs]
  simp only [Rs.bo]
  rw [appI_ok (by omega)]
  simp only [Rs.bo, drops_is h']
  rw [catI_ok (by simp; omega)]
  simp only [Rs.bo, due_is h']
  rw [list_is (by omega)]
  simp only [Rs.bo, drops_is h, due_is h, Bool.not_true, Bool.false_eq_true, if_false]
  rw [list_is (by omega)]
/-- the low end of such kinds -/
theorem low_is {c s : List Int} (h : Cnt c) (hs : s.length = c.length) : ∃ m, m_law_low (c, s, ()) = .ok m ∧ (∀ k x, s[k]? = some x → x - pre c k ≤ m) ∧ ∃ k x, s[k]? = some x ∧ m = x - pre c k := by
  have h3 := h.ne
  have h4 := h.le
  unfold m_law_low
  obtain ⟨s0, e0⟩ : ∃ s0, s[0]? = some s0 := ⟨_, List.getElem?_eq_getElem (by omega)⟩
  have g0 : getI s (0 : Int) = .ok s0 := getI_nat e0
  simp only [Rs.bo, g0]
  rw [Rng_nat (by omega)]
  simp only [Rs.bo]
  obtain ⟨g, e, low, rfl, hb, hx⟩ := fold_inv (f := fun (γ : Ctx.T [.fz 3 Int, .fz 2 Int, .bo 0 (List Int), .bo 1 (List Int)]) x => m_law_low_l1 (x, γ)) (xs := rng 0 (c.length : Int)) (g := ((0 : Int), s0, c, s, ()))
    (fun i g => ∃ low : Int, g = (pre c i, low, c, s, ()) ∧ (∀ (k : Nat) (x : Int), k < i → s[k]? = some x → x - pre c k ≤ low) ∧ ∃ (k : Nat) (x : Int), s[k]? = some x ∧ low = x - pre c k)
    ⟨s0, rfl, fun k x hk => absurd hk (Nat.not_lt_zero k), 0, s0, e0, by rw [pre_zero]; exact (Int.sub_zero s0).symm⟩ (by
      rintro i a g ha ⟨low, rfl, hb, hx⟩
      obtain ⟨hi, rfl⟩ := rng_get ha
      have hi' : i < c.length := by omega
      obtain ⟨si, ei⟩ : ∃ si, s[i]? = some si := ⟨_, List.getElem?_eq_getElem (by omega)⟩
      obtain ⟨ci, ec⟩ : ∃ ci, c[i]? = some ci := ⟨_, List.getElem?_eq_getElem hi'⟩
      refine ⟨(pre c (i + 1), max low (si - pre c i), c, s, ()), ?_, _, rfl, fun k x hk hkx => ?_, ?_⟩
      · show m_law_low_l1 ((0 : Int) + (i : Int), pre c i, low, c, s, ()) = _
        rw [Int.zero_add]
        unfold m_law_low_l1
        simp only [Rs.bo, getI_nat ei, getI_nat ec, maxI_two]
        rw [pre_succ ec]
      · by_cases hki : k < i
        · have := hb k x hki hkx
          omega
        · have : k = i := by omega
          subst this
          rw [ei] at hkx
          cases hkx
          omega
      · obtain ⟨k, x, q1, q2⟩ := hx
        by_cases hm : si - pre c i ≤ low
        · exact ⟨k, x, q1, by omega⟩
        · exact ⟨i, si, ei, by omega⟩)
  rw [e]
  refine ⟨low, rfl, fun k x hkx => hb k x ?_ hkx, hx⟩
  have := (List.getElem?_eq_some_iff.mp hkx).1
  rw [rng0_len]
  omega
/-- the kinds with a drop -/
def kin (c : List Int) (d : Int) : List Int := (rng 0 ((c.length : Int) - 1)).map (fun p => p - d) ++ [0]
theorem kin_len {c : List Int} (h : Cnt c) (d : Int) : (kin c d).length = c.length := by
  have := h.ne
  unfold kin
  rw [List.length_append, List.length_map, rng_len]
  simp
  omega
theorem kin_at {c : List Int} (h : Cnt c) (d : Int) {k : Nat} (hk : k < c.length - 1) : (kin c d)[k]? = some ((k : Int) - d) := by
  unfold kin
  rw [List.getElem?_append_left (by rw [List.length_map, rng_len]; omega), List.getElem?_map, rng_at (by omega)]
  simp
theorem kin_end {c : List Int} (h : Cnt c) (d : Int) : (kin c d)[c.length - 1]? = some 0 := by
  have := h.ne
  unfold kin
  rw [List.getElem?_append_right (by rw [List.length_map, rng_len]; omega), List.length_map, rng_len]
  rw [show c.length - 1 - ((c.length : Int) - 1 - 0).toNat = 0 by omega]
  rfl
theorem kinds_is {c : List Int} (h : Cnt c) (d : Int) : m_kinds_with_drop (c, d, ()) = .ok (if d ∈ due c then some (kin c d) else none) := by
  have h3 := h.ne
  have h4 := h.le
  unfold m_kinds_with_drop
  simp only [Rs.bo, drops_is h]
  by_cases hd : d ∈ due c
  · rw [if_pos hd, decide_eq_true hd]
    simp only [Bool.not_true, Bool.false_eq_true, if_false]
    rw [Rng_ok (by decide) (by decide) (by omega) (by omega)]
    simp only [Rs.bo]
    rw [if_pos (by rw [rng_len]; omega)]
    rw [comp_map (g := fun p => p - d) (fun _ _ => rfl) (fun x _ => by
      show m_kinds_with_drop_e1 (x, d, ()) = _
      rfl)]
    simp only [Rs.bo]
    rw [catI_ok (by rw [List.length_map, rng_len]; simp; omega)]
    rfl
  · rw [if_neg hd, decide_eq_false hd]
    simp
theorem kin_low {c : List Int} (h : Cnt c) {d : Int} (hd : d ∈ due c) : m_law_low (c, kin c d, ()) = .ok (-d) := by
  have h3 := h.ne
  unfold due at hd
  rw [mem_rng] at hd
  obtain ⟨m, e, hb, k, x, hk, hm⟩ := low_is h (kin_len h d)
  rw [e]
  congr 1
  have up : m ≤ -d := by
    rw [hm]
    by_cases hk' : k < c.length - 1
    · rw [kin_at h d hk'] at hk
      cases hk
      have := pre_ge (a := 1) (fun x hx => (h.at' x hx).1) k (by omega)
      omega
    · have hlt := (List.getElem?_eq_some_iff.mp hk).1
      rw [kin_len h d] at hlt
      have : k = c.length - 1 := by omega
      subst this
      rw [kin_end h d] at hk
      cases hk
      have : ini c = pre c (c.length - 1) := rfl
      omega
  have lo : -d ≤ m := by
    by_cases h1 : 0 < c.length - 1
    · have := hb 0 _ (kin_at h d h1)
      rw [pre_zero] at this
      omega
    · have e1 : c.length - 1 = 0 := by omega
      have e2 := kin_end h d
      rw [e1] at e2
      have := hb 0 _ e2
      have e3 : ini c = 0 := by unfold ini; rw [e1]; rfl
      rw [pre_zero] at this
      omega
  omega
theorem kinds_kept {c : List Int} (h : Cnt c) (d : Int) : m_law_kinds_kept (c, d, ()) = .ok true := by
  have h3 := h.ne
  have h4 := h.le
  unfold m_law_kinds_kept
  simp only [Rs.bo, due_is h]
  rw [kinds_is h]
  simp only [Rs.bo, decide_true, Bool.not_true, Bool.false_eq_true, if_false, due_is h]
  by_cases hd : d ∈ due c
  · have hd' := hd
    unfold due at hd'
    rw [mem_rng] at hd'
    rw [if_pos hd, decide_eq_true hd]
    have hl : ((kin c d).length : Int) = (c.length : Int) := by rw [kin_len h d]
    simp only [Bool.not_true, Bool.false_eq_true, if_false, Option.isSome_some, theI_some, Rs.bo, hl, decide_true]
    unfold m_law_kinds_kept_b4
    simp only [Rs.bo, theI_some, hl]
    rw [Rng_nat (by omega)]
    simp only [Rs.bo]
    obtain ⟨g, e, hg⟩ := foldR_inv (f := fun (γ : Ctx.T [.oo 3 (List Int), .bo 0 (List Int), .fz 1 Int]) x => m_law_kinds_kept_l1 (x, γ)) (xs := rng 0 (c.length : Int)) (g := (some (kin c d), c, d, ())) (fun _ g => g = (some (kin c d), c, d, ())) rfl (by
      intro i a g ha hg
      rw [hg]
      refine ⟨_, ?_, rfl⟩
      obtain ⟨hi, rfl⟩ := rng_get ha
      have hi' : i < c.length := by omega
      show m_law_kinds_kept_l1 ((0 : Int) + (i : Int), some (kin c d), c, d, ()) = _
      rw [Int.zero_add]
      obtain ⟨ki, ek⟩ : ∃ x, (kin c d)[i]? = some x := ⟨_, List.getElem?_eq_getElem (by rw [kin_len h d]; exact hi')⟩
      unfold m_law_kinds_kept_l1
      simp only [Rs.bo, theI_some, getI_nat ek]
      rw [isint_is]
      simp only [Rs.bo, Bool.not_true, Bool.false_eq_true, if_false]
      by_cases h0 : 0 < i
      · rw [if_pos (by simpa using h0)]
        obtain ⟨kp, ep⟩ : ∃ x, (kin c d)[i - 1]? = some x := ⟨_, List.getElem?_eq_getElem (by rw [kin_len h d]; omega)⟩
        rw [show ((i : Int) - 1) = ((i - 1 : Nat) : Int) by omega, getI_nat ep]
        simp only [Rs.bo]
        have hlt : kp < ki := by
          rw [kin_at h d (show i - 1 < c.length - 1 by omega)] at ep
          cases ep
          by_cases hi2 : i < c.length - 1
          · rw [kin_at h d hi2] at ek
            cases ek
            omega
          · have : i = c.length - 1 := by omega
            rw [this, kin_end h d] at ek
            cases ek
            omega
        rw [decide_eq_false (by omega)]
        rfl
      · rw [if_neg (by simpa using h0)]
        rfl)
    rw [left_inl e, hg]
    unfold m_law_kinds_kept_b3
    have ge : getI (kin c d) ((c.length : Int) - 1) = .ok 0 := by
      rw [show ((c.length : Int) - 1) = ((c.length - 1 : Nat) : Int) by omega]
      exact getI_nat (kin_end h d)
    simp only [Rs.bo, theI_some, hl, ge, kin_low h hd, decide_true, if_true]
    rw [show ((0 : Int) - -d) = d by omega]
    simp only [decide_true, Nar.go, Rs.bo]
    unfold m_law_kinds_kept_b2
    simp only [Rs.bo, hl]
    rw [show ((c.length : Int) - 1) = ((c.length - 1 : Nat) : Int) by omega, setI_nat (by rw [kin_len h d]; omega)]
    simp only [Rs.bo]
    rw [appI_ok (by rw [List.length_set, kin_len h d]; omega)]
    rfl
  · rw [if_neg hd, decide_eq_false hd]
    rfl

theorem dok_is {c st : List Int} (h : Cnt c) (hs : st.length = c.length) (h0 : ∀ x ∈ st, 0 ≤ x) : ∃ d, m_law_drop_of_kinds (c, st, ()) = .ok d ∧ d ∈ due c := by
  have h3 := h.ne
  have h4 := h.le
  unfold m_law_drop_of_kinds
  simp only [Rs.bo]
  rw [Rng_ok (by decide) (by decide) (by omega) (by omega)]
  simp only [Rs.bo]
  obtain ⟨g, e, s, rfl, hl, hd⟩ := fold_inv (f := fun (γ : Ctx.T [.ow 2 (List Int), .bo 0 (List Int), .bo 1 (List Int)]) x => m_law_drop_of_kinds_l1 (x, γ)) (xs := rng 1 (c.length : Int)) (g := ([(0 : Int)], c, st, ()))
    (fun i g => ∃ s : List Int, g = (s, c, st, ()) ∧ s.length = i + 1 ∧ ∀ (k : Nat) (x y : Int), s[k]? = some x → s[k + 1]? = some y → x + 1 ≤ y)
    ⟨_, rfl, rfl, fun k x y _ hy => by simp at hy⟩ (by
      rintro i a g ha ⟨s, rfl, hl, hd⟩
      obtain ⟨hi, rfl⟩ := rng_get ha
      obtain ⟨si, es⟩ : ∃ x, s[i]? = some x := ⟨_, List.getElem?_eq_getElem (by omega)⟩
      obtain ⟨ti, et⟩ : ∃ x, st[i + 1]? = some x := ⟨_, List.getElem?_eq_getElem (by omega)⟩
      have ht := h0 ti (List.mem_of_getElem? et)
      refine ⟨(s ++ [si + 1 + ti], c, st, ()), ?_, _, rfl, by rw [List.length_append]; simp; omega, fun k x y hx hy => ?_⟩
      · show m_law_drop_of_kinds_l1 ((1 : Int) + (i : Int), s, c, st, ()) = _
        unfold m_law_drop_of_kinds_l1
        simp only [Rs.bo]
        rw [show ((1 : Int) + (i : Int) - 1) = (i : Int) by omega, show ((1 : Int) + (i : Int)) = ((i + 1 : Nat) : Int) by omega, getI_nat es, getI_nat et]
        simp only [Rs.bo]
        rw [appI_ok (by omega)]
        rfl
      · by_cases hk : k + 1 < s.length
        · rw [List.getElem?_append_left (by omega)] at hx
          rw [List.getElem?_append_left hk] at hy
          exact hd k x y hx hy
        · have hy' := (List.getElem?_eq_some_iff.mp hy).1
          rw [List.length_append] at hy'
          simp only [List.length_cons, List.length_nil] at hy'
          have : k = i := by omega
          subst this
          rw [List.getElem?_append_left (by omega), es] at hx
          rw [List.getElem?_append_right (by omega), show k + 1 - s.length = 0 by omega] at hy
          cases hx
          cases hy
          omega)
  rw [e]
  rw [rng_len] at hl
  have hl' : s.length = c.length := by omega
  obtain ⟨z, ez⟩ : ∃ x, s[c.length - 1]? = some x := ⟨_, List.getElem?_eq_getElem (by omega)⟩
  obtain ⟨m, em, hb, k, x, hk, hm⟩ := low_is h hl'
  simp only [Rs.bo]
  rw [show ((c.length : Int) - 1) = ((c.length - 1 : Nat) : Int) by omega, getI_nat ez]
  simp only [Rs.bo, em]
  refine ⟨_, rfl, ?_⟩
  have b1 := hb _ _ ez
  have up : ∀ (j : Nat) (x : Int), s[c.length - 1 - j]? = some x → j ≤ c.length - 1 → x + j ≤ z := by
    intro j
    induction j with
    | zero =>
      intro x hx _
      rw [Nat.sub_zero, ez] at hx
      cases hx
      simp
    | succ j ih =>
      intro x hx hj
      obtain ⟨y, ey⟩ : ∃ y, s[c.length - 1 - j]? = some y := ⟨_, List.getElem?_eq_getElem (by omega)⟩
      have q1 := ih y ey (by omega)
      have q2 := hd (c.length - 1 - (j + 1)) x y hx (by rw [show c.length - 1 - (j + 1) + 1 = c.length - 1 - j by omega]; exact ey)
      omega
  have hk' := (List.getElem?_eq_some_iff.mp hk).1
  have b2 := up (c.length - 1 - k) x (by rw [show c.length - 1 - (c.length - 1 - k) = k by omega]; exact hk) (by omega)
  have b3 := pre_ge (a := 1) (fun x hx => (h.at' x hx).1) k (by omega)
  unfold due
  rw [mem_rng]
  have : ini c = pre c (c.length - 1) := rfl
  omega
theorem rep_draws (cell : Int) (sz : Int) (n : Nat) (h0 : 0 < sz) (h1 : sz < 1000000) (hn : n ≤ 1000000) : ∃ ds, m_law_draws (cell, List.replicate n sz, ()) = .ok ds ∧ ds.length = n ∧ ∀ d ∈ ds, 0 ≤ d ∧ d < sz := by
  obtain ⟨ds, e, h⟩ := draws_ok cell (List.replicate n sz) (fun s hs => by rw [(List.mem_replicate.mp hs).2]; exact ⟨h0, h1⟩) (by rw [List.length_replicate]; exact hn)
  have hl := h.len
  rw [List.length_replicate] at hl
  refine ⟨ds, e, hl, fun d hd => ?_⟩
  obtain ⟨i, hi⟩ := List.mem_iff_getElem?.mp hd
  have hlt : i < ds.length := (List.getElem?_eq_some_iff.mp hi).1
  obtain ⟨d', q1, q2, q3⟩ := h.at' i sz (by rw [List.getElem?_replicate, if_pos (by omega)])
  rw [hi] at q1
  cases q1
  exact ⟨q2, q3⟩
theorem law_true (ns : List Int) (hl : ns.length ≤ 63) : m_law (⟨ns⟩, ()) = .ok true := by
  unfold m_law
  obtain ⟨c0, hc0⟩ := cell_ok ns 0
  obtain ⟨c1, hc1⟩ := cell_ok ns 1
  obtain ⟨ds, hds, hD⟩ := draws_ok c0 [6, 8, 7, 60, 60, 5] (by decide) (by decide)
  obtain ⟨d0, g0, -, l0, u0⟩ := hD.get (i := 0) rfl
  obtain ⟨d1, g1, -, l1, u1⟩ := hD.get (i := 1) rfl
  obtain ⟨d2, g2, -, l2, u2⟩ := hD.get (i := 2) rfl
  obtain ⟨d3, g3, -, l3, u3⟩ := hD.get (i := 3) rfl
  obtain ⟨d4, g4, -, l4, u4⟩ := hD.get (i := 4) rfl
  obtain ⟨d5, g5, -, l5, u5⟩ := hD.get (i := 5) rfl
  have hc0' : m_law_cell (⟨ns⟩, (0 : Int), ()) = .ok c0 := hc0
  have hc1' : m_law_cell (⟨ns⟩, (1 : Int), ()) = .ok c1 := hc1
  have g0' : getI ds (0 : Int) = .ok d0 := g0
  have g1' : getI ds (1 : Int) = .ok d1 := g1
  have g2' : getI ds (2 : Int) = .ok d2 := g2
  have g3' : getI ds (3 : Int) = .ok d3 := g3
  have g4' : getI ds (4 : Int) = .ok d4 := g4
  have g5' : getI ds (5 : Int) = .ok d5 := g5
  simp only [Rs.bo, hc0', hds, g0', g1', g2', if_pos (CDiv_of (show (0 : Int) < 2 by decide) (by decide))]
  have step : ∀ (b : Bool) (m1 k1 m2 k2 : Int) (P : Int → Int → Prop), P m1 k1 → P m2 k2 → ∃ m k, (if b = true then Rs.ok (m1, k1, ds, (⟨ns⟩ : Script), ()) else Rs.ok (m2, k2, ds, (⟨ns⟩ : Script), ())) = (Rs.ok (m, k, ds, (⟨ns⟩ : Script), ()) : Rs (Ctx.T [.fz 3 Int, .fz 2 Int, .ow 1 (List Int), .fz 0 Script])) ∧ P m k := by
    intro b m1 k1 m2 k2 P p1 p2
    cases b
    · exact ⟨m2, k2, rfl, p2⟩
    · exact ⟨m1, k1, rfl, p1⟩
  obtain ⟨ma, ka, ea, pa⟩ := step (decide (d1 = 1)) 5 (1 + d2) 4 (1 + d0) (fun m k => 1 ≤ m ∧ m ≤ 8 ∧ 1 ≤ k ∧ k ≤ 20) (by omega) (by omega)
  rw [ea]
  simp only [Rs.bo, g1', g2', if_pos (CDiv_of (show (0 : Int) < 2 by decide) (by decide))]
  obtain ⟨mb, kb, eb, pb⟩ := step (decide (d1 = 2)) 2 (8 + d2) ma ka (fun m k => 1 ≤ m ∧ m ≤ 8 ∧ 1 ≤ k ∧ k ≤ 20) (by omega) (by omega)
  rw [eb]
  simp only [Rs.bo, g1', g2', if_pos (CDiv_of (show (0 : Int) < 2 by decide) (by decide))]
  obtain ⟨mc, kc, ec, pc⟩ := step (decide (d1 = 3)) 8 (1 + d2 / 2) mb kb (fun m k => 1 ≤ m ∧ m ≤ 8 ∧ 1 ≤ k ∧ k ≤ 20) (by omega) (by omega)
  rw [ec]
  simp only [Rs.bo, hc1']
  rw [repI_one (by omega) (by omega)]
  obtain ⟨es, hes, hel, heb⟩ := rep_draws c1 mc kc.toNat (by omega) (by omega) (by omega)
  simp only [Rs.bo, hes]
  rw [if_pos (by omega)]
  have hcm : Rs.comp (fun (_ : Int) => Rs.ok true) (fun x => m_law_e1 (x, ())) es = .ok (es.map fun x => 1 + x) := Wm.comp_map (fun _ _ => rfl) (fun x _ => by
    show m_law_e1 (x, ()) = _
    rfl)
  rw [show Rs.comp (fun x => Rs.ok true) (fun x => m_law_e1 (x, ())) es = _ from hcm]
  have hc : Cnt (es.map fun x => 1 + x) := ⟨by rw [List.length_map]; omega, by rw [List.length_map]; omega, fun x hx => by
    obtain ⟨y, hy, rfl⟩ := List.mem_map.mp hx
    have := heb y hy
    omega⟩
  have hcl : (es.map fun x => 1 + x).length = kc.toNat := by rw [List.length_map]; exact hel
  generalize (es.map fun x => 1 + x) = c at hc hcl
  simp only [Rs.bo, g5']
  rw [drops_kept hc (by omega) (by omega)]
  simp only [Rs.bo, Bool.not_true, Bool.false_eq_true, if_false]
  rw [Rng_ok (by decide) (by decide) (by decide) (by decide)]
  simp only [Rs.bo]
  obtain ⟨g, e, hg⟩ := foldR_inv (f := fun (γ : Ctx.T [.ow 4 (List Int), .fz 2 Int, .ow 1 (List Int), .fz 0 Script]) x => m_law_l2 (x, γ)) (xs := rng 0 8) (g := (c, kc, ds, (⟨ns⟩ : Script), ())) (fun _ g => g = (c, kc, ds, (⟨ns⟩ : Script), ())) rfl (by
    intro i a g ha hg
    rw [hg]
    refine ⟨_, ?_, rfl⟩
    obtain ⟨hi, rfl⟩ := rng_get ha
    show m_law_l2 ((0 : Int) + (i : Int), c, kc, ds, (⟨ns⟩ : Script), ()) = _
    rw [Int.zero_add]
    obtain ⟨ci, hci⟩ := cell_ok ns (2 + i)
    have hci' : m_law_cell (⟨ns⟩, (2 : Int) + (i : Int), ()) = .ok ci := by rw [← hci]; congr 3
    unfold m_law_l2
    simp only [Rs.bo, hci']
    rw [repI_one (by omega) (by omega)]
    obtain ⟨st, hst, hsl, hsb⟩ := rep_draws (ci + (i : Int)) 7 kc.toNat (by decide) (by decide) (by omega)
    simp only [Rs.bo, hst]
    obtain ⟨d, hd, hdm⟩ := dok_is hc (hsl.trans hcl.symm) fun x hx => (hsb x hx).1
    rw [hd]
    simp only [Rs.bo, due_is hc]
    rw [decide_eq_true hdm]
    rfl)
  rw [left_inl e, hg]
  unfold m_law_b5
  have b1 : c.sum ≤ 4000 ∧ 0 ≤ c.sum := by
    have q1 := pre_le (a := 100) (fun x hx => (hc.at' x hx).2) c.length (by omega)
    have q2 := pre_ge (a := 1) (fun x hx => (hc.at' x hx).1) c.length (by omega)
    have := hc.le
    rw [pre_all] at q1 q2
    omega
  simp only [Rs.bo, g3', g4']
  rw [RngL_ok (by decide) (by decide) (by omega) (by omega) (by omega)]
  simp only [Rs.bo]
  rw [catI_ok (by rw [rng_len]; simp; omega)]
  simp only [Rs.bo]
  rw [catI_ok (by simp only [List.length_append, rng_len, List.length_cons, List.length_nil]; omega)]
  simp only [Rs.bo]
  generalize hA : (rng (-2) (c.sum + 2) ++ [c.sum + 2 + d3, -3 - d4]) = A
  obtain ⟨g, e, hg⟩ := foldR_inv (f := fun (γ : Ctx.T [.ow 6 (List Int), .ow 4 (List Int)]) x => m_law_l3 (x, γ)) (xs := A ++ A) (g := (A, c, ())) (fun _ g => g = (A, c, ())) rfl (by
    intro i a g ha hg
    rw [hg]
    refine ⟨_, ?_, rfl⟩
    show m_law_l3 (a, A, c, ()) = _
    unfold m_law_l3
    simp only [Rs.bo]
    rw [kinds_kept hc]
    rfl)
  rw [left_inl e]
  rfl
end Wk
set_option Elab.async false
set_option linter.all false
set_option maxRecDepth 100000
set_option maxHeartbeats 4000000
namespace Wk
open PySem PySem.Spec PyProof.Rows L2 Wm
/-! ### the end -/
def spLaw (K : PySem.W.Frag) : Sp := fun vs H Q _ => ∃ (a : Addr) (ns : List Int), vs = [.ref a] ∧ SqL K H a (ns.map V.int) ∧ ns.length ≤ 63 ∧ ∀ H', Q (.bl true) H'
theorem law_sp {K : PySem.W.Frag} {mg : Str → Option Value} (T : Txt K mg) (vs : List V) (H : Hp) (Q : VK) (E : XK) (h : spLaw K vs H Q E) : spF (wdOf T) (kF : Kd (wdOf T) Bool) [.fz 0 Script] m_law vs H Q E := by
  obtain ⟨a, ns, e, hS, hl, q⟩ := h
  subst e
  refine ⟨rfl, H, (⟨ns⟩, ()), Same.refl H, ⟨_, [], rfl, rfl, ⟨a, rfl, hS⟩, rfl⟩, ?_⟩
  rw [law_true ns hl]
  exact fun H' G' v f r => by rw [show v = V.bl true from r]; exact q H'
theorem all_mk {l : PySem.W.OpenLaw} {w : World} {K : PySem.W.Frag} {h : Heap} {mg : Str → Option Value} {fa : Addr} (X : K.In h) (G : h.Ns mainGlobals mg) (hfa : mg "law" = some (.ref fa))
    {od0 an0 : Option Addr} {sl0 : Array (Option Value)} {oc0 kV0 dc0 pm0 cd0 ct0 : Value} {f0 : Addr}
    {od1 an1 : Option Addr} {sl1 : Array (Option Value)} {oc1 kV1 dc1 pm1 cd1 ct1 : Value} {f1 : Addr}
    {od2 an2 : Option Addr} {sl2 : Array (Option Value)} {oc2 kV2 dc2 pm2 cd2 ct2 : Value} {f2 : Addr}
    {od3 an3 : Option Addr} {sl3 : Array (Option Value)} {oc3 kV3 dc3 pm3 cd3 ct3 : Value} {f3 : Addr}
    {od4 an4 : Option Addr} {sl4 : Array (Option Value)} {oc4 kV4 dc4 pm4 cd4 ct4 : Value} {f4 : Addr}
    {od5 an5 : Option Addr} {sl5 : Array (Option Value)} {oc5 kV5 dc5 pm5 cd5 ct5 : Value} {f5 : Addr}
    {od6 an6 : Option Addr} {sl6 : Array (Option Value)} {oc6 kV6 dc6 pm6 cd6 ct6 : Value} {f6 : Addr}
    {od7 an7 : Option Addr} {sl7 : Array (Option Value)} {oc7 kV7 dc7 pm7 cd7 ct7 : Value} {f7 : Addr}
    {od8 an8 : Option Addr} {sl8 : Array (Option Value)} {oc8 kV8 dc8 pm8 cd8 ct8 : Value} {f8 : Addr}
    {od9 an9 : Option Addr} {sl9 : Array (Option Value)} {oc9 kV9 dc9 pm9 cd9 ct9 : Value} {f9 : Addr}
    {od10 an10 : Option Addr} {sl10 : Array (Option Value)} {oc10 kV10 dc10 pm10 cd10 ct10 : Value} {f10 : Addr}
    {od11 an11 : Option Addr} {sl11 : Array (Option Value)} {oc11 kV11 dc11 pm11 cd11 ct11 : Value} {f11 : Addr}
    (a0 : PySem.W.nsIn K mainGlobals "_law_cell" = some (some (.ref f0))) (l0 : K.lookup f0 = some ⟨oc0, od0, .func (PySem.W.fnOf "_law_cell" "_law_cell" (defArgs s_law_cell) (defBody s_law_cell) (defScope s_law_cell) .none kV0 dc0 pm0 an0 cd0 ct0), sl0⟩) (c0 : PySem.W.codeIn K cd0 "_law_cell" = true) (k0 : PySem.W.keepIn K (.ref f0) = true)
    (a1 : PySem.W.nsIn K mainGlobals "_law_draws" = some (some (.ref f1))) (l1 : K.lookup f1 = some ⟨oc1, od1, .func (PySem.W.fnOf "_law_draws" "_law_draws" (defArgs s_law_draws) (defBody s_law_draws) (defScope s_law_draws) .none kV1 dc1 pm1 an1 cd1 ct1), sl1⟩) (c1 : PySem.W.codeIn K cd1 "_law_draws" = true) (k1 : PySem.W.keepIn K (.ref f1) = true)
    (a2 : PySem.W.nsIn K mainGlobals "drops" = some (some (.ref f2))) (l2 : K.lookup f2 = some ⟨oc2, od2, .func (PySem.W.fnOf "drops" "drops" (defArgs s_drops) (defBody s_drops) (defScope s_drops) .none kV2 dc2 pm2 an2 cd2 ct2), sl2⟩) (c2 : PySem.W.codeIn K cd2 "drops" = true) (k2 : PySem.W.keepIn K (.ref f2) = true)
    (a3 : PySem.W.nsIn K mainGlobals "_law_due" = some (some (.ref f3))) (l3 : K.lookup f3 = some ⟨oc3, od3, .func (PySem.W.fnOf "_law_due" "_law_due" (defArgs s_law_due) (defBody s_law_due) (defScope s_law_due) .none kV3 dc3 pm3 an3 cd3 ct3), sl3⟩) (c3 : PySem.W.codeIn K cd3 "_law_due" = true) (k3 : PySem.W.keepIn K (.ref f3) = true)
    (a4 : PySem.W.nsIn K mainGlobals "_law_is_integer" = some (some (.ref f4))) (l4 : K.lookup f4 = some ⟨oc4, od4, .func (PySem.W.fnOf "_law_is_integer" "_law_is_integer" (defArgs s_law_is_integer) (defBody s_law_is_integer) (defScope s_law_is_integer) .none kV4 dc4 pm4 an4 cd4 ct4), sl4⟩) (c4 : PySem.W.codeIn K cd4 "_law_is_integer" = true) (k4 : PySem.W.keepIn K (.ref f4) = true)
    (a5 : PySem.W.nsIn K mainGlobals "_law_list_is" = some (some (.ref f5))) (l5 : K.lookup f5 = some ⟨oc5, od5, .func (PySem.W.fnOf "_law_list_is" "_law_list_is" (defArgs s_law_list_is) (defBody s_law_list_is) (defScope s_law_list_is) .none kV5 dc5 pm5 an5 cd5 ct5), sl5⟩) (c5 : PySem.W.codeIn K cd5 "_law_list_is" = true) (k5 : PySem.W.keepIn K (.ref f5) = true)
    (a6 : PySem.W.nsIn K mainGlobals "_law_drops_kept" = some (some (.ref f6))) (l6 : K.lookup f6 = some ⟨oc6, od6, .func (PySem.W.fnOf "_law_drops_kept" "_law_drops_kept" (defArgs s_law_drops_kept) (defBody s_law_drops_kept) (defScope s_law_drops_kept) .none kV6 dc6 pm6 an6 cd6 ct6), sl6⟩) (c6 : PySem.W.codeIn K cd6 "_law_drops_kept" = true) (k6 : PySem.W.keepIn K (.ref f6) = true)
    (a7 : PySem.W.nsIn K mainGlobals "_law_low" = some (some (.ref f7))) (l7 : K.lookup f7 = some ⟨oc7, od7, .func (PySem.W.fnOf "_law_low" "_law_low" (defArgs s_law_low) (defBody s_law_low) (defScope s_law_low) .none kV7 dc7 pm7 an7 cd7 ct7), sl7⟩) (c7 : PySem.W.codeIn K cd7 "_law_low" = true) (k7 : PySem.W.keepIn K (.ref f7) = true)
    (a8 : PySem.W.nsIn K mainGlobals "_law_drop_of_kinds" = some (some (.ref f8))) (l8 : K.lookup f8 = some ⟨oc8, od8, .func (PySem.W.fnOf "_law_drop_of_kinds" "_law_drop_of_kinds" (defArgs s_law_drop_of_kinds) (defBody s_law_drop_of_kinds) (defScope s_law_drop_of_kinds) .none kV8 dc8 pm8 an8 cd8 ct8), sl8⟩) (c8 : PySem.W.codeIn K cd8 "_law_drop_of_kinds" = true) (k8 : PySem.W.keepIn K (.ref f8) = true)
    (a9 : PySem.W.nsIn K mainGlobals "kinds_with_drop" = some (some (.ref f9))) (l9 : K.lookup f9 = some ⟨oc9, od9, .func (PySem.W.fnOf "kinds_with_drop" "kinds_with_drop" (defArgs s_kinds_with_drop) (defBody s_kinds_with_drop) (defScope s_kinds_with_drop) .none kV9 dc9 pm9 an9 cd9 ct9), sl9⟩) (c9 : PySem.W.codeIn K cd9 "kinds_with_drop" = true) (k9 : PySem.W.keepIn K (.ref f9) = true)
    (a10 : PySem.W.nsIn K mainGlobals "_law_kinds_kept" = some (some (.ref f10))) (l10 : K.lookup f10 = some ⟨oc10, od10, .func (PySem.W.fnOf "_law_kinds_kept" "_law_kinds_kept" (defArgs s_law_kinds_kept) (defBody s_law_kinds_kept) (defScope s_law_kinds_kept) .none kV10 dc10 pm10 an10 cd10 ct10), sl10⟩) (c10 : PySem.W.codeIn K cd10 "_law_kinds_kept" = true) (k10 : PySem.W.keepIn K (.ref f10) = true)
    (a11 : PySem.W.nsIn K mainGlobals "law" = some (some (.ref f11))) (l11 : K.lookup f11 = some ⟨oc11, od11, .func (PySem.W.fnOf "law" "law" (defArgs s_law) (defBody s_law) (defScope s_law) .none kV11 dc11 pm11 an11 cd11 ct11), sl11⟩) (c11 : PySem.W.codeIn K cd11 "law" = true) (k11 : PySem.W.keepIn K (.ref f11) = true)
    (z_bool : PySem.W.nsIn K mainGlobals "bool" = some none)
    (z_int : PySem.W.nsIn K mainGlobals "int" = some none)
    (z_isinstance : PySem.W.nsIn K mainGlobals "isinstance" = some none)
    (z_len : PySem.W.nsIn K mainGlobals "len" = some none)
    (z_list : PySem.W.nsIn K mainGlobals "list" = some none)
    (z_max : PySem.W.nsIn K mainGlobals "max" = some none)
    (z_range : PySem.W.nsIn K mainGlobals "range" = some none)
    (z_sum : PySem.W.nsIn K mainGlobals "sum" = some none) :
    ∃ fd : FuncData, (∀ (s : Shared) (v : Value), BindsTo s fd ⟨[v], []⟩ [("script", v)]) ∧ ∀ base : Heap, K.In base → base.Ns mainGlobals mg → FnOk l.prog w K mg base (L2.CX l.prog w) 5 fa fd ["script"] (spLaw K) := by
  have e := hfa.symm.trans (PySem.W.mg_of X G a11)
  cases e
  let T : Txt K mg := {
    a_law_cell := _, d_law_cell := _, F_law_cell := fun_mk (st := s_law_cell) l0 c0 k0, g_law_cell := PySem.W.mg_of X G a0, b_law_cell := (fun_mk (st := s_law_cell) l0 c0 k0).binds (ps := ["script", "k"]) (fun _ _ _ _ _ _ us hl => match us, hl with | [_, _], _ => rfl),
    a_law_draws := _, d_law_draws := _, F_law_draws := fun_mk (st := s_law_draws) l1 c1 k1, g_law_draws := PySem.W.mg_of X G a1, b_law_draws := (fun_mk (st := s_law_draws) l1 c1 k1).binds (ps := ["cell", "sizes"]) (fun _ _ _ _ _ _ us hl => match us, hl with | [_, _], _ => rfl),
    a_drops := _, d_drops := _, F_drops := fun_mk (st := s_drops) l2 c2 k2, g_drops := PySem.W.mg_of X G a2, b_drops := (fun_mk (st := s_drops) l2 c2 k2).binds (ps := ["counts"]) (fun _ _ _ _ _ _ us hl => match us, hl with | [_], _ => rfl),
    a_law_due := _, d_law_due := _, F_law_due := fun_mk (st := s_law_due) l3 c3 k3, g_law_due := PySem.W.mg_of X G a3, b_law_due := (fun_mk (st := s_law_due) l3 c3 k3).binds (ps := ["counts"]) (fun _ _ _ _ _ _ us hl => match us, hl with | [_], _ => rfl),
    a_law_is_integer := _, d_law_is_integer := _, F_law_is_integer := fun_mk (st := s_law_is_integer) l4 c4 k4, g_law_is_integer := PySem.W.mg_of X G a4, b_law_is_integer := (fun_mk (st := s_law_is_integer) l4 c4 k4).binds (ps := ["value"]) (fun _ _ _ _ _ _ us hl => match us, hl with | [_], _ => rfl),
    a_law_list_is := _, d_law_list_is := _, F_law_list_is := fun_mk (st := s_law_list_is) l5 c5 k5, g_law_list_is := PySem.W.mg_of X G a5, b_law_list_is := (fun_mk (st := s_law_list_is) l5 c5 k5).binds (ps := ["told", "due"]) (fun _ _ _ _ _ _ us hl => match us, hl with | [_, _], _ => rfl),
    a_law_drops_kept := _, d_law_drops_kept := _, F_law_drops_kept := fun_mk (st := s_law_drops_kept) l6 c6 k6, g_law_drops_kept := PySem.W.mg_of X G a6, b_law_drops_kept := (fun_mk (st := s_law_drops_kept) l6 c6 k6).binds (ps := ["counts", "more"]) (fun _ _ _ _ _ _ us hl => match us, hl with | [_, _], _ => rfl),
    a_law_low := _, d_law_low := _, F_law_low := fun_mk (st := s_law_low) l7 c7 k7, g_law_low := PySem.W.mg_of X G a7, b_law_low := (fun_mk (st := s_law_low) l7 c7 k7).binds (ps := ["counts", "sharpnesses"]) (fun _ _ _ _ _ _ us hl => match us, hl with | [_, _], _ => rfl),
    a_law_drop_of_kinds := _, d_law_drop_of_kinds := _, F_law_drop_of_kinds := fun_mk (st := s_law_drop_of_kinds) l8 c8 k8, g_law_drop_of_kinds := PySem.W.mg_of X G a8, b_law_drop_of_kinds := (fun_mk (st := s_law_drop_of_kinds) l8 c8 k8).binds (ps := ["counts", "steps"]) (fun _ _ _ _ _ _ us hl => match us, hl with | [_, _], _ => rfl),
    a_kinds_with_drop := _, d_kinds_with_drop := _, F_kinds_with_drop := fun_mk (st := s_kinds_with_drop) l9 c9 k9, g_kinds_with_drop := PySem.W.mg_of X G a9, b_kinds_with_drop := (fun_mk (st := s_kinds_with_drop) l9 c9 k9).binds (ps := ["counts", "drop"]) (fun _ _ _ _ _ _ us hl => match us, hl with | [_, _], _ => rfl),
    a_law_kinds_kept := _, d_law_kinds_kept := _, F_law_kinds_kept := fun_mk (st := s_law_kinds_kept) l10 c10 k10, g_law_kinds_kept := PySem.W.mg_of X G a10, b_law_kinds_kept := (fun_mk (st := s_law_kinds_kept) l10 c10 k10).binds (ps := ["counts", "drop"]) (fun _ _ _ _ _ _ us hl => match us, hl with | [_, _], _ => rfl),
    a_law := _, d_law := _, F_law := fun_mk (st := s_law) l11 c11 k11, g_law := PySem.W.mg_of X G a11, b_law := (fun_mk (st := s_law) l11 c11 k11).binds (ps := ["script"]) (fun _ _ _ _ _ _ us hl => match us, hl with | [_], _ => rfl),
    n_bool := PySem.W.mg_none_of X G z_bool,
    n_int := PySem.W.mg_none_of X G z_int,
    n_isinstance := PySem.W.mg_none_of X G z_isinstance,
    n_len := PySem.W.mg_none_of X G z_len,
    n_list := PySem.W.mg_none_of X G z_list,
    n_max := PySem.W.mg_none_of X G z_max,
    n_range := PySem.W.mg_none_of X G z_range,
    n_sum := PySem.W.mg_none_of X G z_sum }
  exact ⟨PySem.W.fnOf "law" "law" (defArgs s_law) (defBody s_law) (defScope s_law) .none kV11 dc11 pm11 an11 cd11 ct11, fun s v => .of_eq rfl, fun base _ _ => (ok_law T).imp fun vs H Q E h => law_sp T vs H Q E h⟩
theorem cx_none {P : Program} {w : World} {H : Hp} {s : Shared} {e : Value} {s' : Shared} (h : L2.CX P w [] H s (fun _ _ _ => False) e s') : False := by
  obtain ⟨_, _, _, _, _, _, _, _, _, _, _, _, z⟩ := h
  exact z
end Wk
open PySem PySem.W PyProof.Rows
set_option maxHeartbeats 0 in
theorem PySem.Challenge.cw_wornsheaf_k15_drops_of_kinds_holds : PySem.Challenge.rw_wornsheaf_k15_drops_of_kinds.Holds := by
  w_on; o_law; k_head; (case hw => w_witness2)
  k_fill
  refine L2.walk_of (l := PySem.Challenge.rw_wornsheaf_k15_drops_of_kinds) (n := 63) (k := 5) (x := "script") (CX := fun w => L2.CX (PySem.Challenge.rw_wornsheaf_k15_drops_of_kinds).prog w) (sp := fun w => Wk.spLaw _) rfl (by decide) rfl ⟨rfl, by decide, by decide⟩ (fun w h Y => PySem.W.kIn_of Y) ?F (fun _ _ a ns hl _ hS => ⟨a, ns, rfl, hS, hl, fun _ => rfl⟩) (fun _ _ _ _ _ h => Wk.cx_none h)
  case F =>
    intro w mg fa h KX G hmg
    refine' Wk.all_mk KX G hmg ?a0 ?l0 ?c0 ?k0 ?a1 ?l1 ?c1 ?k1 ?a2 ?l2 ?c2 ?k2 ?a3 ?l3 ?c3 ?k3 ?a4 ?l4 ?c4 ?k4 ?a5 ?l5 ?c5 ?k5 ?a6 ?l6 ?c6 ?k6 ?a7 ?l7 ?c7 ?k7 ?a8 ?l8 ?c8 ?k8 ?a9 ?l9 ?c9 ?k9 ?a10 ?l10 ?c10 ?k10 ?a11 ?l11 ?c11 ?k11 ?z_bool ?z_int ?z_isinstance ?z_len ?z_list ?z_max ?z_range ?z_sum
    (case a0 => k_is)
    (case l0 => k_is)
    (case c0 => k_is)
    (case k0 => k_is)
    (case a1 => k_is)
    (case l1 => k_is)
    (case c1 => k_is)
    (case k1 => k_is)
    (case a2 => k_is)
    (case l2 => k_is)
    (case c2 => k_is)
    (case k2 => k_is)
    (case a3 => k_is)
    (case l3 => k_is)
    (case c3 => k_is)
    (case k3 => k_is)
    (case a4 => k_is)
    (case l4 => k_is)
    (case c4 => k_is)
    (case k4 => k_is)
    (case a5 => k_is)
    (case l5 => k_is)
    (case c5 => k_is)
    (case k5 => k_is)
    (case a6 => k_is)
    (case l6 => k_is)
    (case c6 => k_is)
    (case k6 => k_is)
    (case a7 => k_is)
    (case l7 => k_is)
    (case c7 => k_is)
    (case k7 => k_is)
    (case a8 => k_is)
    (case l8 => k_is)
    (case c8 => k_is)
    (case k8 => k_is)
    (case a9 => k_is)
    (case l9 => k_is)
    (case c9 => k_is)
    (case k9 => k_is)
    (case a10 => k_is)
    (case l10 => k_is)
    (case c10 => k_is)
    (case k10 => k_is)
    (case a11 => k_is)
    (case l11 => k_is)
    (case c11 => k_is)
    (case k11 => k_is)
    (case z_bool => k_is)
    (case z_int => k_is)
    (case z_isinstance => k_is)
    (case z_len => k_is)
    (case z_list => k_is)
    (case z_max => k_is)
    (case z_range => k_is)
    (case z_sum => k_is)
