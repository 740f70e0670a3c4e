import PyProof.Rows.All
import KE.DatumOrd
import Wide.All
import OpenK.AllK
import Wide.FinOn
import KE.KStateDown
import HandS.ForMost
import HandS.Words
import HandS.WordsExc
import HandS.Wide
import HandS.NoneIn
import HandS.Conv
import HandS.TupAny
import HandS.Zip
import HandS.More
import HandS.Evl
import HandS.Defaults
import HandS.Head0
import HandS.Head1
import HandS.Head2
import HandS.HeadEnd
import HandS.HeadHook1
import HandS.HeadHook2
import PySem.Challenge.RW_onewish_k31_whole_goods_put_to_and_parte
/-! G3Base -/
section
set_option Elab.async false
set_option linter.all false
set_option maxRecDepth 100000
set_option maxHeartbeats 4000000
/-! G3Base: a layer over HandS of our own: G, the objects that never change (a part of the heap H); data as typed Lean values (Rep); what a reading evaluates to (EvR, EvN, EvT). -/
namespace G3
open PySem PySem.Spec PyProof.Rows L2
open Evl (Ex fresh_back)

/-! ### growth: G the unchanging part of H -/
class Gro (G H : outParam Hp) (G' : Hp) (H' : outParam Hp) : Prop where
  g : Ex G G'
  sub : Ex G' H'
  h : Ex H H'
  new : ∀ a o, G' a = some o → G a = some o ∨ H a = none
section
variable {G H G1 H1 G2 H2 G0 H0 : Hp} {p l : Addr} {o : HO}
theorem Gro.refl (e : Ex G H) : Gro G H G H := ⟨Ex.refl G, e, Ex.refl H, fun _ _ h => .inl h⟩
theorem Gro.trans (a : Gro G H G1 H1) (b : Gro G1 H1 G2 H2) : Gro G H G2 H2 where
  g := a.g.trans b.g
  sub := b.sub
  h := a.h.trans b.h
  new := fun c o h => by
    rcases b.new c o h with h | h
    · exact a.new c o h
    · exact .inr (fresh_back a.h h)
theorem none_sub (e : Ex G H) (h : H p = none) : G p = none := fresh_back e h
/-- a new unchanging object -/
theorem Gro.add (e : Ex G H) (hp : H p = none) : Gro G H (upd G p o) (upd H p o) where
  g := Ex.new (none_sub e hp)
  sub := fun a u h => by
    by_cases ha : a = p
    · subst ha; rw [upd_same] at h ⊢; exact h
    · rw [upd_ne ha] at h ⊢; exact e a u h
  h := Ex.new hp
  new := fun a u h => by
    by_cases ha : a = p
    · subst ha; exact .inr hp
    · rw [upd_ne ha] at h; exact .inl h
/-- a new object that may change -/
theorem Gro.fresh (e : Ex G H) (hp : H p = none) : Gro G H G (upd H p o) :=
  ⟨Ex.refl G, e.trans (Ex.new hp), Ex.new hp, fun _ _ h => .inl h⟩
/-- a changing object of our own is changed -/
theorem Gro.mut (B : Gro G0 H0 G H) (h0 : H0 l = none) (hl : G l = none) : Gro G0 H0 G (upd H l o) where
  g := B.g
  sub := fun a u h => by rw [upd_ne (ne_of_none h hl)]; exact B.sub a u h
  h := B.h.mut h0
  new := B.new
/-- a changing object of our own changes no more -/
theorem Gro.frz (B : Gro G0 H0 G H) (h0 : H0 l = none) (hl : G l = none) (h : H l = some o) : Gro G0 H0 (upd G l o) H where
  g := B.g.trans (Ex.new hl)
  sub := fun a u q => by
    by_cases ha : a = l
    · subst ha; rw [upd_same] at q; rw [h]; exact q
    · rw [upd_ne ha] at q; exact B.sub a u q
  h := B.h
  new := fun a u q => by
    by_cases ha : a = l
    · subst ha; exact .inr h0
    · rw [upd_ne ha] at q; exact B.new a u q
/-- the heap grows by what is not known -/
theorem Gro.more (B : Gro G0 H0 G H) (e : Ex H H1) : Gro G0 H0 G H1 := ⟨B.g, B.sub.trans e, B.h.trans e, B.new⟩
/-- a changing object stays so -/
theorem Gro.none (B : Gro G H G1 H1) (h : H l = some o) (hl : G l = none) : G1 l = none := by
  cases q : G1 l with
  | none => rfl
  | some u =>
    rcases B.new l u q with z | z
    · rw [hl] at z; cases z
    · rw [h] at z; cases z
end

/-- steps of G, chained by instances -/
class GSt (G : outParam Hp) (G' : Hp) : Prop where
  ex : Ex G G'
class GLe (G G' : Hp) : Prop where
  ex : Ex G G'
instance (priority := 900) GSt.ofGro {G H G1 H1 : Hp} [q : Gro G H G1 H1] : GSt G G1 := ⟨q.g⟩
instance (priority := 2000) GLe.refl {G : Hp} : GLe G G := ⟨Ex.refl G⟩
instance (priority := 500) GLe.step {G Gm Gn : Hp} [a : GSt Gm Gn] [b : GLe G Gm] : GLe G Gn := ⟨b.ex.trans a.ex⟩

/-! ### data -/
class Rep (α : Type) where
  rep : Hp → V → α → Prop
  mono : ∀ {G G' : Hp} {v : V} {x : α}, Ex G G' → rep G v x → rep G' v x
open Rep (rep)
theorem up {α : Type} [Rep α] {G G' : Hp} {v : V} {x : α} [e : GLe G G'] (h : rep G v x) : rep G' v x := Rep.mono e.ex h
instance : Rep Int := ⟨fun _ v x => v = .int x, fun _ h => h⟩
instance : Rep Nat := ⟨fun _ v x => v = .int (x : Int), fun _ h => h⟩
instance : Rep Bool := ⟨fun _ v x => v = .bl x, fun _ h => h⟩
instance : Rep Str := ⟨fun _ v x => v = .str x, fun _ h => h⟩
instance : Rep Unit := ⟨fun _ v _ => v = .non, fun _ h => h⟩
def repO {α : Type} [Rep α] (G : Hp) (v : V) : Option α → Prop
  | none => v = .non
  | some x => rep G v x
instance {α : Type} [Rep α] : Rep (Option α) := ⟨repO, fun {G G' v x} e h => by
  cases x with
  | none => exact h
  | some x => exact Rep.mono (α := α) e h⟩
inductive RepL {α : Type} [Rep α] (G : Hp) : List V → List α → Prop
  | nil : RepL G [] []
  | cons {v : V} {x : α} {vs : List V} {xs : List α} : rep G v x → RepL G vs xs → RepL G (v :: vs) (x :: xs)
section
variable {α : Type} [Rep α] {G G' : Hp} {v : V} {x : α} {vs ws : List V} {xs ys : List α}
theorem RepL.mono (e : Ex G G') (h : RepL G vs xs) : RepL G' vs xs := by
  induction h with
  | nil => exact .nil
  | cons a _ ih => exact .cons (Rep.mono e a) ih
theorem upL [e : GLe G G'] (h : RepL G vs xs) : RepL G' vs xs := h.mono e.ex
theorem RepL.length (h : RepL G vs xs) : vs.length = xs.length := by
  induction h with
  | nil => rfl
  | cons _ _ ih => rw [List.length_cons, List.length_cons, ih]
theorem RepL.get (h : RepL G vs xs) : ∀ {i : Nat}, xs[i]? = some x → ∃ v, vs[i]? = some v ∧ rep G v x := by
  induction h with
  | nil => intro i q; simp at q
  | cons a _ ih =>
    intro i q
    cases i with
    | zero => simp at q; subst q; exact ⟨_, rfl, a⟩
    | succ i => simp at q; obtain ⟨v, h1, h2⟩ := ih q; exact ⟨v, by simpa using h1, h2⟩
theorem RepL.getV (h : RepL G vs xs) : ∀ {i : Nat}, vs[i]? = some v → ∃ x, xs[i]? = some x ∧ rep G v x := by
  induction h with
  | nil => intro i q; simp at q
  | cons a _ ih =>
    intro i q
    cases i with
    | zero => simp at q; subst q; exact ⟨_, rfl, a⟩
    | succ i => simp at q; obtain ⟨v, h1, h2⟩ := ih q; exact ⟨v, by simpa using h1, h2⟩
theorem RepL.append (h : RepL G vs xs) (h' : RepL G ws ys) : RepL G (vs ++ ws) (xs ++ ys) := by
  induction h with
  | nil => exact h'
  | cons a _ ih => exact .cons a ih
theorem RepL.snoc (h : RepL G vs xs) (a : rep G v x) : RepL G (vs ++ [v]) (xs ++ [x]) := h.append (.cons a .nil)
theorem RepL.set (h : RepL G vs xs) (a : rep G v x) : ∀ i : Nat, RepL G (vs.set i v) (xs.set i x) := by
  induction h with
  | nil => intro i; exact .nil
  | cons b t ih =>
    intro i
    cases i with
    | zero => exact .cons a t
    | succ i => exact .cons b (ih i)
theorem RepL.drop (h : RepL G vs xs) : ∀ n : Nat, RepL G (vs.drop n) (xs.drop n) := by
  induction h with
  | nil => intro n; simp; exact .nil
  | cons b t ih =>
    intro n
    cases n with
    | zero => exact .cons b t
    | succ n => exact ih n
theorem RepL.take (h : RepL G vs xs) : ∀ n : Nat, RepL G (vs.take n) (xs.take n) := by
  induction h with
  | nil => intro n; simp; exact .nil
  | cons b t ih =>
    intro n
    cases n with
    | zero => exact .nil
    | succ n => exact .cons b (ih n)
theorem RepL.rep (n : Nat) (a : rep G v x) : RepL G (List.replicate n v) (List.replicate n x) := by
  induction n with
  | zero => exact .nil
  | succ n ih => exact .cons a ih
end
theorem RepL.ints {G : Hp} {vs : List V} {ns : List Int} (h : RepL G vs ns) : vs = ns.map V.int := by
  induction h with
  | nil => rfl
  | cons a _ ih =>
    have a : _ = V.int _ := a
    rw [a, ih]; rfl
theorem RepL.bools {G : Hp} {vs : List V} {ns : List Bool} (h : RepL G vs ns) : vs = ns.map V.bl := by
  induction h with
  | nil => rfl
  | cons a _ ih =>
    have a : _ = V.bl _ := a
    rw [a, ih]; rfl
theorem RepL.nats {G : Hp} {vs : List V} {ns : List Nat} (h : RepL G vs ns) : vs = ns.map fun (n : Nat) => V.int (n : Int) := by
  induction h with
  | nil => rfl
  | cons a _ ih =>
    have a : _ = V.int _ := a
    rw [a, ih]; rfl
theorem repL_ints (G : Hp) (ns : List Int) : RepL G (ns.map V.int) ns := by
  induction ns with
  | nil => exact .nil
  | cons n r ih => exact .cons rfl ih
theorem repL_nats (G : Hp) (ns : List Nat) : RepL G (ns.map fun (n : Nat) => V.int (n : Int)) ns := by
  induction ns with
  | nil => exact .nil
  | cons n r ih => exact .cons rfl ih
/-- a list that changes no more -/
instance {α : Type} [Rep α] : Rep (List α) := ⟨fun G v xs => ∃ a vs, v = .ref a ∧ G a = some (.lst vs) ∧ RepL G vs xs,
  fun e h => by obtain ⟨a, vs, q, h1, h2⟩ := h; exact ⟨a, vs, q, e _ _ h1, h2.mono e⟩⟩
/-- a tuple of as many of a kind -/
structure Tup (α : Type) where
  l : List α
deriving DecidableEq
instance {α : Type} [Rep α] : Rep (Tup α) := ⟨fun G v xs => ∃ a vs, v = .ref a ∧ G a = some (.tup vs) ∧ RepL G vs xs.l,
  fun e h => by obtain ⟨a, vs, q, h1, h2⟩ := h; exact ⟨a, vs, q, e _ _ h1, h2.mono e⟩⟩
/-- pairs -/
instance {α β : Type} [Rep α] [Rep β] : Rep (α × β) := ⟨fun G v x => ∃ a u w, v = .ref a ∧ G a = some (.tup [u, w]) ∧ rep G u x.1 ∧ rep G w x.2,
  fun e h => by obtain ⟨a, u, w, q, h1, h2, h3⟩ := h; exact ⟨a, u, w, q, e _ _ h1, Rep.mono e h2, Rep.mono e h3⟩⟩
structure T3 (α β γ : Type) where
  a : α
  b : β
  c : γ
instance {α β γ : Type} [Rep α] [Rep β] [Rep γ] : Rep (T3 α β γ) := ⟨fun G v x => ∃ a u w z, v = .ref a ∧ G a = some (.tup [u, w, z]) ∧ rep G u x.a ∧ rep G w x.b ∧ rep G z x.c,
  fun e h => by obtain ⟨a, u, w, z, q, h1, h2, h3, h4⟩ := h; exact ⟨a, u, w, z, q, e _ _ h1, Rep.mono e h2, Rep.mono e h3, Rep.mono e h4⟩⟩

/-! ### what evaluates to what -/
def EvR {α : Type} [Rep α] (te : TE) (σ : L2.St) (G H : Hp) (x : α) : Prop := ∀ G1 H1, Gro G H G1 H1 → ∀ Q : VK, (∀ v G2 H2, Gro G1 H1 G2 H2 → rep G2 v x → Q v H2) → te σ H1 Q
def EvV (te : TE) (σ : L2.St) (G H : Hp) (v : V) : Prop := ∀ G1 H1, Gro G H G1 H1 → ∀ Q : VK, (∀ G2 H2, Gro G1 H1 G2 H2 → Q v H2) → te σ H1 Q
def EvT (tt : TT) (σ : L2.St) (G H : Hp) (b : Bool) : Prop := ∀ G1 H1, Gro G H G1 H1 → ∀ Q : Bool → Hp → Prop, (∀ G2 H2, Gro G1 H1 G2 H2 → Q b H2) → tt σ H1 Q
/-- a new list that may change -/
def EvN {α : Type} [Rep α] (te : TE) (σ : L2.St) (G H : Hp) (xs : List α) : Prop := ∀ G1 H1, Gro G H G1 H1 → ∀ Q : VK, (∀ p vs G2 H2, Gro G1 H1 G2 H2 → H1 p = none → G2 p = none → H2 p = some (.lst vs) → RepL G2 vs xs → Q (.ref p) H2) → te σ H1 Q
/-- arguments -/
def EvA (ta : TA) (σ : L2.St) (G H : Hp) (R : Hp → List V → Prop) : Prop := ∀ G1 H1, Gro G H G1 H1 → ∀ Q : List V → Hp → Prop, (∀ vs G2 H2, Gro G1 H1 G2 H2 → R G2 vs → Q vs H2) → ta σ H1 Q
section
variable {α β γ δ ρ : Type} [Rep α] [Rep β] [Rep γ] [Rep δ] [Rep ρ] {K : PySem.W.Frag} {σ : L2.St} {G G0 H H' : Hp} {ta tb te tx : TE} {t u : TT} {x : α} {y : β} {z : γ} {r : R2} {v : V} {i : Nat}
theorem er_var (h : σ[i]? = some (some v)) (r : rep G0 v x) [e : GLe G0 G] : EvR (tVar i) σ G H x := fun G1 H1 g Q q => ⟨v, h, q v G1 H1 (Gro.refl g.sub) (Rep.mono (e.ex.trans g.g) r)⟩
theorem ev_var (h : σ[i]? = some (some v)) : EvV (tVar i) σ G H v := fun G1 H1 g Q q => ⟨v, h, q G1 H1 (Gro.refl g.sub)⟩
theorem er_c (r : rep G v x) : EvR (tC v) σ G H x := fun G1 H1 g Q q => q v G1 H1 (Gro.refl g.sub) (Rep.mono g.g r)
theorem EvR.val (h : EvR te σ G H x) (hv : ∀ G' v', rep G' v' x → v' = v) : EvV te σ G H v := fun G1 H1 g Q q => h G1 H1 g Q fun v' G2 H2 g2 r => by
  rw [hv _ _ r]; exact q G2 H2 g2
theorem EvV.rep (h : EvV te σ G H v) (r : rep G v x) : EvR te σ G H x := fun G1 H1 g Q q => h G1 H1 g Q fun G2 H2 g2 => q v G2 H2 g2 (Rep.mono (g.g.trans g2.g) r)
theorem ev_i {n : Int} (h : EvR te σ G H n) : EvV te σ G H (.int n) := h.val fun _ _ r => r
theorem ev_n {n : Nat} (h : EvR te σ G H n) : EvV te σ G H (.int (n : Int)) := h.val fun _ _ r => r
theorem er_nat {n : Nat} (h : EvR te σ G H (n : Int)) : EvR te σ G H n := h
theorem er_int {n : Nat} (h : EvR te σ G H n) : EvR te σ G H (n : Int) := h
theorem er_is {x' : α} (h : EvR te σ G H x) (e : x = x') : EvR te σ G H x' := by rw [← e]; exact h
theorem er_some (h : EvR te σ G H x) : EvR te σ G H (some x) := fun G1 H1 g Q q => h G1 H1 g Q fun v G2 H2 g2 r => q v G2 H2 g2 (show repO G2 v (some x) from r)
/-- a two-place operation -/
def RR (r : R2) (x : α) (y : β) (G H : Hp) (z : γ) : Prop := ∀ G1 H1 v w, Gro G H G1 H1 → rep G1 v x → rep G1 w y → ∀ Q : VK, (∀ u G2 H2, Gro G1 H1 G2 H2 → rep G2 u z → Q u H2) → r v w H1 Q
theorem er_op (ha : EvR ta σ G H x) (hb : EvR tb σ G H y) (hr : RR r x y G H z) : EvR (tOp r ta tb) σ G H z := fun G1 H1 g Q q =>
  ha G1 H1 g _ fun v G2 H2 g2 rv => hb G2 H2 (g.trans g2) _ fun w G3 H3 g3 rw' => hr G3 H3 v w ((g.trans g2).trans g3) (Rep.mono g3.g rv) rw' Q fun u G4 H4 g4 ru => q u G4 H4 ((g2.trans g3).trans g4) ru
theorem rr_I0 {g : Int → Int → V} {m n : Int} (r : ∀ G, rep G (g m n) z) : RR (rI0 g) m n G H z := fun G1 H1 v w gr rv rw' Q q => by
  cases rv; cases rw'
  exact ⟨m, n, rfl, rfl, q _ G1 H1 (Gro.refl gr.sub) (r G1)⟩
theorem rr_I {C : Int → Int → Prop} {g : Int → Int → V} {m n : Int} (hc : C m n) (r : ∀ G, rep G (g m n) z) : RR (rI C g) m n G H z := fun G1 H1 v w gr rv rw' Q q => by
  cases rv; cases rw'
  exact ⟨m, n, rfl, rfl, hc, q _ G1 H1 (Gro.refl gr.sub) (r G1)⟩
theorem er_add {m n : Int} (ha : EvR ta σ G H m) (hb : EvR tb σ G H n) : EvR (tOp (rI0 fun i j => .int (i + j)) ta tb) σ G H (m + n) := er_op ha hb (rr_I0 fun _ => rfl)
theorem er_sub {m n : Int} (ha : EvR ta σ G H m) (hb : EvR tb σ G H n) : EvR (tOp (rI0 fun i j => .int (i - j)) ta tb) σ G H (m - n) := er_op ha hb (rr_I0 fun _ => rfl)
theorem er_I {C : Int → Int → Prop} {f : Int → Int → Int} {m n : Int} (ha : EvR ta σ G H m) (hb : EvR tb σ G H n) (hc : C m n) : EvR (tOp (rI C fun i j => .int (f i j)) ta tb) σ G H (f m n) := er_op ha hb (rr_I hc fun _ => rfl)
theorem et_I0 {f : Int → Int → Bool} {m n : Int} (ha : EvR ta σ G H m) (hb : EvR tb σ G H n) : EvR (tOp (rI0 fun i j => .bl (f i j)) ta tb) σ G H (f m n) := er_op ha hb (rr_I0 fun _ => rfl)
/-- == and != of ints, texts -/
theorem er_eqI {m n : Int} (ha : EvR ta σ G H m) (hb : EvR tb σ G H n) : EvR (tOp rEq ta tb) σ G H (decide (m = n)) := er_op ha hb fun G1 H1 v w gr rv rw' Q q => by
  cases rv; cases rw'
  refine ⟨rfl, ?_⟩
  have e : decide (V.int m = V.int n) = decide (m = n) := by by_cases h : m = n <;> simp [h]
  rw [e]
  exact q _ G1 H1 (Gro.refl gr.sub) rfl
theorem er_neI {m n : Int} (ha : EvR ta σ G H m) (hb : EvR tb σ G H n) : EvR (tOp rNe ta tb) σ G H (!decide (m = n)) := er_op ha hb fun G1 H1 v w gr rv rw' Q q => by
  cases rv; cases rw'
  refine ⟨rfl, ?_⟩
  have e : decide (V.int m = V.int n) = decide (m = n) := by by_cases h : m = n <;> simp [h]
  rw [e]
  exact q _ G1 H1 (Gro.refl gr.sub) rfl
theorem er_eqS {m n : Str} (ha : EvR ta σ G H m) (hb : EvR tb σ G H n) : EvR (tOp rEq ta tb) σ G H (decide (m = n)) := er_op ha hb fun G1 H1 v w gr rv rw' Q q => by
  cases rv; cases rw'
  refine ⟨rfl, ?_⟩
  have e : decide (V.str m = V.str n) = decide (m = n) := by by_cases h : m = n <;> simp [h]
  rw [e]
  exact q _ G1 H1 (Gro.refl gr.sub) rfl
/-- subscripts -/
theorem er_ixL {xs : List α} {j : Nat} (ha : EvR ta σ G H xs) (hb : EvR tb σ G H j) (hj : xs[j]? = some x) : EvR (tOp (rIxL K) ta tb) σ G H x := er_op ha hb fun G1 H1 v w gr rv rw' Q q => by
  obtain ⟨a, vs, rfl, h1, h2⟩ := rv
  cases rw'
  obtain ⟨w, h3, h4⟩ := h2.get hj
  exact ⟨a, vs, j, w, rfl, rfl, SqL.of (gr.sub _ _ h1), atI_nat h3, q w G1 H1 (Gro.refl gr.sub) h4⟩
theorem er_ixLi {xs : List α} {j : Nat} {n : Int} (ha : EvR ta σ G H xs) (hb : EvR tb σ G H n) (e : n = (j : Int)) (hj : xs[j]? = some x) : EvR (tOp (rIxL K) ta tb) σ G H x := er_ixL ha (by subst e; exact hb) hj
theorem er_ixLast {xs : List α} (ha : EvR ta σ G H (xs ++ [x])) (hb : EvR tb σ G H (-1 : Int)) : EvR (tOp (rIxL K) ta tb) σ G H x := er_op ha hb fun G1 H1 v w gr rv rw' Q q => by
  obtain ⟨a, vs, rfl, h1, h2⟩ := rv
  cases rw'
  have hl := h2.length
  obtain ⟨w, h3, h4⟩ := h2.get (i := xs.length) (x := x) (by simp)
  refine ⟨a, vs, -1, w, rfl, rfl, SqL.of (gr.sub _ _ h1), ?_, q w G1 H1 (Gro.refl gr.sub) h4⟩
  unfold atI ixN
  rw [hl, List.length_append, List.length_singleton, if_neg (by decide), if_pos (by omega)]
  have : ((xs.length + 1 : Nat) + (-1 : Int)).toNat = xs.length := by omega
  show vs[((xs.length + 1 : Nat) + (-1 : Int)).toNat]? = some w
  rw [this]; exact h3
theorem er_ixT {xs : Tup α} {j : Nat} (ha : EvR ta σ G H xs) (hb : EvR tb σ G H j) (hj : xs.l[j]? = some x) : EvR (tOp (rIxT K) ta tb) σ G H x := er_op ha hb fun G1 H1 v w gr rv rw' Q q => by
  obtain ⟨a, vs, rfl, h1, h2⟩ := rv
  cases rw'
  obtain ⟨w, h3, h4⟩ := h2.get hj
  exact ⟨a, vs, j, w, rfl, rfl, SqT.of (gr.sub _ _ h1), atI_nat h3, q w G1 H1 (Gro.refl gr.sub) h4⟩
theorem er_ix0 {p : α × β} (ha : EvR ta σ G H p) : EvR (tOp (rIxT K) ta (tC (.int 0))) σ G H p.1 := er_op (y := (0 : Nat)) ha (er_c rfl) fun G1 H1 v w gr rv rw' Q q => by
  obtain ⟨a, u, w, rfl, h1, h2, h3⟩ := rv
  cases rw'
  exact ⟨a, _, 0, u, rfl, rfl, SqT.of (gr.sub _ _ h1), atI_nat (j := 0) rfl, q u G1 H1 (Gro.refl gr.sub) h2⟩
theorem er_ix1 {p : α × β} (ha : EvR ta σ G H p) : EvR (tOp (rIxT K) ta (tC (.int 1))) σ G H p.2 := er_op (y := (1 : Nat)) ha (er_c rfl) fun G1 H1 v w gr rv rw' Q q => by
  obtain ⟨a, u, w, rfl, h1, h2, h3⟩ := rv
  cases rw'
  exact ⟨a, _, 1, w, rfl, rfl, SqT.of (gr.sub _ _ h1), atI_nat (j := 1) rfl, q w G1 H1 (Gro.refl gr.sub) h3⟩
theorem er_ix0t {p : T3 α β γ} (ha : EvR ta σ G H p) : EvR (tOp (rIxT K) ta (tC (.int 0))) σ G H p.a := er_op (y := (0 : Nat)) ha (er_c rfl) fun G1 H1 v w gr rv rw' Q q => by
  obtain ⟨a, u, w, z, rfl, h1, h2, h3⟩ := rv
  cases rw'
  exact ⟨a, _, 0, u, rfl, rfl, SqT.of (gr.sub _ _ h1), atI_nat (j := 0) rfl, q u G1 H1 (Gro.refl gr.sub) h2⟩
/-- a changing list's item -/
theorem er_ixM {l : Addr} {vs : List V} {xs : List α} {j : Nat} (hl : H l = some (.lst vs)) (hx : RepL G vs xs) (ha : EvV ta σ G H (.ref l)) (hb : EvR tb σ G H j) (hj : xs[j]? = some x) : EvR (tOp (rIxL K) ta tb) σ G H x := fun G1 H1 g Q q =>
  ha G1 H1 g _ fun G2 H2 g2 => hb G2 H2 (g.trans g2) _ fun w G3 H3 g3 rw' => by
    cases rw'
    obtain ⟨w, h3, h4⟩ := hx.get hj
    exact ⟨l, vs, j, w, rfl, rfl, SqL.of (((g.trans g2).trans g3).h _ _ hl), atI_nat h3, q w G3 H3 (g2.trans g3) (Rep.mono ((g.trans g2).trans g3).g h4)⟩
/-- a written tuple, list -/
theorem ea_nil : EvA tNil σ G H fun _ vs => vs = [] := fun G1 H1 g Q q => q [] G1 H1 (Gro.refl g.sub) rfl
theorem ea_cons {tr : TA} {R : Hp → List V → Prop} (h : EvR te σ G H x) (hr : EvA tr σ G H R) : EvA (tCons te tr) σ G H fun G vs => ∃ v r, vs = v :: r ∧ rep G v x ∧ R G r := fun G1 H1 g Q q =>
  h G1 H1 g _ fun v G2 H2 g2 rv => hr G2 H2 (g.trans g2) _ fun vs G3 H3 g3 hR => q _ G3 H3 (g2.trans g3) ⟨v, vs, rfl, Rep.mono g3.g rv, hR⟩
def A1 (x : α) : Hp → List V → Prop := fun G vs => ∃ v, vs = [v] ∧ rep G v x
def A2 (x : α) (y : β) : Hp → List V → Prop := fun G vs => ∃ v w, vs = [v, w] ∧ rep G v x ∧ rep G w y
def A3 (x : α) (y : β) (z : γ) : Hp → List V → Prop := fun G vs => ∃ v w u, vs = [v, w, u] ∧ rep G v x ∧ rep G w y ∧ rep G u z
def A4 (x : α) (y : β) (z : γ) (d : δ) : Hp → List V → Prop := fun G vs => ∃ v w u s, vs = [v, w, u, s] ∧ rep G v x ∧ rep G w y ∧ rep G u z ∧ rep G s d
theorem EvA.imp {ta : TA} {R R' : Hp → List V → Prop} (h : EvA ta σ G H R) (k : ∀ G vs, R G vs → R' G vs) : EvA ta σ G H R' := fun G1 H1 g Q q => h G1 H1 g Q fun vs G2 H2 g2 r => q vs G2 H2 g2 (k _ _ r)
theorem ea_1 (h : EvR ta σ G H x) : EvA (tCons ta tNil) σ G H (A1 x) := (ea_cons h ea_nil).imp fun G vs h => by
  obtain ⟨v, r, rfl, h1, rfl⟩ := h; exact ⟨v, rfl, h1⟩
variable {tc td : TE} {d : δ}
theorem ea_2 (h : EvR ta σ G H x) (h2 : EvR tb σ G H y) : EvA (tCons ta (tCons tb tNil)) σ G H (A2 x y) := (ea_cons h (ea_1 h2)).imp fun G vs h => by
  obtain ⟨v, r, rfl, h1, w, rfl, h2⟩ := h; exact ⟨v, w, rfl, h1, h2⟩
theorem ea_3 (h : EvR ta σ G H x) (h2 : EvR tb σ G H y) (h3 : EvR tc σ G H z) : EvA (tCons ta (tCons tb (tCons tc tNil))) σ G H (A3 x y z) := (ea_cons h (ea_2 h2 h3)).imp fun G vs h => by
  obtain ⟨v, r, rfl, h1, w, u, rfl, h2, h3⟩ := h; exact ⟨v, w, u, rfl, h1, h2, h3⟩
theorem ea_4 (h : EvR ta σ G H x) (h2 : EvR tb σ G H y) (h3 : EvR tc σ G H z) (h4 : EvR td σ G H d) : EvA (tCons ta (tCons tb (tCons tc (tCons td tNil)))) σ G H (A4 x y z d) := (ea_cons h (ea_3 h2 h3 h4)).imp fun G vs h => by
  obtain ⟨v, r, rfl, h1, w, u, s, rfl, h2, h3, h4⟩ := h; exact ⟨v, w, u, s, rfl, h1, h2, h3, h4⟩
theorem er_tup2 (h : EvR ta σ G H x) (h2 : EvR tb σ G H y) : EvR (tTup (tCons ta (tCons tb tNil))) σ G H (x, y) := fun G1 H1 g Q q =>
  ea_2 h h2 G1 H1 g _ fun vs G2 H2 g2 hR => by
    obtain ⟨v, w, rfl, r1, r2⟩ := hR
    refine ⟨by show 2 ≤ sizeLine; decide, fun p hp => q _ (upd G2 p _) _ (g2.trans (Gro.add g2.sub hp)) ⟨p, v, w, rfl, upd_same, ?_, ?_⟩⟩
    · exact Rep.mono (Gro.add (o := .tup [v, w]) g2.sub hp).g r1
    · exact Rep.mono (Gro.add (o := .tup [v, w]) g2.sub hp).g r2
theorem er_tup3 (h : EvR ta σ G H x) (h2 : EvR tb σ G H y) (h3 : EvR tc σ G H z) : EvR (tTup (tCons ta (tCons tb (tCons tc tNil)))) σ G H (T3.mk x y z) := fun G1 H1 g Q q =>
  ea_3 h h2 h3 G1 H1 g _ fun vs G2 H2 g2 hR => by
    obtain ⟨v, w, u, rfl, r1, r2, r3⟩ := hR
    refine ⟨by show 3 ≤ sizeLine; decide, fun p hp => q _ (upd G2 p _) _ (g2.trans (Gro.add g2.sub hp)) ⟨p, v, w, u, rfl, upd_same, ?_, ?_, ?_⟩⟩
    · exact Rep.mono (Gro.add (o := .tup [v, w, u]) g2.sub hp).g r1
    · exact Rep.mono (Gro.add (o := .tup [v, w, u]) g2.sub hp).g r2
    · exact Rep.mono (Gro.add (o := .tup [v, w, u]) g2.sub hp).g r3
/-- items of one kind -/
theorem el_nil : EvA tNil σ G H (fun G vs => RepL (α := α) G vs []) := fun G1 H1 g Q q => q [] G1 H1 (Gro.refl g.sub) .nil
theorem el_cons {tr : TA} {xs : List α} (h : EvR te σ G H x) (hr : EvA tr σ G H (fun G vs => RepL G vs xs)) : EvA (tCons te tr) σ G H (fun G vs => RepL G vs (x :: xs)) := (ea_cons h hr).imp fun G vs h => by
  obtain ⟨v, r, rfl, h1, h2⟩ := h; exact .cons h1 h2
theorem en_lst {ta : TA} {xs : List α} (h : EvA ta σ G H (fun G vs => RepL G vs xs)) (hl : xs.length ≤ 100000) : EvN (tLst ta) σ G H xs := fun G1 H1 g Q q =>
  h G1 H1 g _ fun vs G2 H2 g2 hR => ⟨by rw [hR.length]; exact Nat.le_trans hl (by decide), fun p hp => q p vs G2 _ (g2.trans (Gro.fresh g2.sub hp)) (fresh_back g2.h hp) (none_sub g2.sub hp) upd_same hR⟩
theorem er_tupL {ta : TA} {xs : List α} (h : EvA ta σ G H (fun G vs => RepL G vs xs)) (hl : xs.length ≤ 100000) : EvR (tTup ta) σ G H (Tup.mk xs) := fun G1 H1 g Q q =>
  h G1 H1 g _ fun vs G2 H2 g2 hR => ⟨by rw [hR.length]; exact Nat.le_trans hl (by decide), fun p hp => q _ (upd G2 p (.tup vs)) _ (g2.trans (Gro.add g2.sub hp)) ⟨p, vs, rfl, upd_same, hR.mono (Gro.add g2.sub hp).g⟩⟩
/-- a new list, kept as it is from now on -/
theorem er_new {xs : List α} (h : EvN te σ G H xs) : EvR te σ G H xs := fun G1 H1 g Q q =>
  h G1 H1 g Q fun p vs G2 H2 g2 hp hG h2 hR => q _ (upd G2 p (.lst vs)) H2 (g2.frz hp hG h2) ⟨p, vs, rfl, upd_same, hR.mono (Ex.new hG)⟩
/-- tests -/
theorem et_test {b : Bool} (h : EvR te σ G H b) : EvT (tTest te) σ G H b := fun G1 H1 g _ q => h G1 H1 g _ fun v G2 H2 g2 r => by cases r; exact ⟨b, rfl, q G2 H2 g2⟩
theorem et_B {b : Bool} (h : EvR te σ G H b) : EvT (tB te) σ G H b := fun G1 H1 g _ q => h G1 H1 g _ fun v G2 H2 g2 r => by cases r; exact ⟨b, rfl, q G2 H2 g2⟩
theorem et_and {a b : Bool} (h1 : EvT t σ G H a) (h2 : a = true → EvT u σ G H b) : EvT (tAnd t u) σ G H (a && b) := fun G1 H1 g Q q => h1 G1 H1 g _ fun G2 H2 g2 => by
  cases a with
  | true =>
    show u σ H2 Q
    exact h2 rfl G2 H2 (g.trans g2) Q fun G3 H3 g3 => q G3 H3 (g2.trans g3)
  | false =>
    show Q false H2
    exact q G2 H2 g2
theorem et_or {a b : Bool} (h1 : EvT t σ G H a) (h2 : a = false → EvT u σ G H b) : EvT (tOr t u) σ G H (a || b) := fun G1 H1 g Q q => h1 G1 H1 g _ fun G2 H2 g2 => by
  cases a with
  | true =>
    show Q true H2
    exact q G2 H2 g2
  | false =>
    show u σ H2 Q
    exact h2 rfl G2 H2 (g.trans g2) Q fun G3 H3 g3 => q G3 H3 (g2.trans g3)
theorem et_not {a : Bool} (h1 : EvT t σ G H a) : EvT (tNot t) σ G H (!a) := fun G1 H1 g _ q => h1 G1 H1 g _ fun G2 H2 g2 => q G2 H2 g2
theorem et_is {a b : Bool} (h : EvT t σ G H a) (e : a = b) : EvT t σ G H b := by rw [← e]; exact h
theorem er_andV {a b : Bool} (h1 : EvR ta σ G H a) (h2 : a = true → EvR tb σ G H b) : EvR (tAndV ta tb) σ G H (a && b) := fun G1 H1 g Q q => h1 G1 H1 g _ fun v G2 H2 g2 r => by
  cases r
  refine ⟨a, rfl, ?_⟩
  cases a with
  | true =>
    show tb σ H2 Q
    exact h2 rfl G2 H2 (g.trans g2) Q fun v G3 H3 g3 r => q v G3 H3 (g2.trans g3) r
  | false =>
    show Q (.bl false) H2
    exact q _ G2 H2 g2 rfl
theorem er_orV {a b : Bool} (h1 : EvR ta σ G H a) (h2 : a = false → EvR tb σ G H b) : EvR (tOrV ta tb) σ G H (a || b) := fun G1 H1 g Q q => h1 G1 H1 g _ fun v G2 H2 g2 r => by
  cases r
  refine ⟨a, rfl, ?_⟩
  cases a with
  | true =>
    show Q (.bl true) H2
    exact q _ G2 H2 g2 rfl
  | false =>
    show tb σ H2 Q
    exact h2 rfl G2 H2 (g.trans g2) Q fun v G3 H3 g3 r => q v G3 H3 (g2.trans g3) r
theorem er_notV {a : Bool} (h1 : EvR ta σ G H a) : EvR (tNotV ta) σ G H (!a) := fun G1 H1 g Q q => h1 G1 H1 g _ fun v G2 H2 g2 r => by
  cases r; exact ⟨a, rfl, q _ G2 H2 g2 rfl⟩
theorem er_ifE {b : Bool} (h : EvT t σ G H b) (h1 : b = true → EvR ta σ G H x) (h2 : b = false → EvR tb σ G H x) : EvR (tIf t ta tb) σ G H x := fun G1 H1 g Q q => h G1 H1 g _ fun G2 H2 g2 => by
  cases b with
  | true =>
    show ta σ H2 Q
    exact h1 rfl G2 H2 (g.trans g2) Q fun v G3 H3 g3 r => q v G3 H3 (g2.trans g3) r
  | false =>
    show tb σ H2 Q
    exact h2 rfl G2 H2 (g.trans g2) Q fun v G3 H3 g3 r => q v G3 H3 (g2.trans g3) r
theorem repO_non {G : Hp} {v : V} {o : Option α} (nn : ∀ G v (x : α), rep G v x → v ≠ .non) (r : rep G v o) : decide (v = .non) = o.isNone := by
  cases o with
  | none => cases r; rfl
  | some x => exact decide_eq_false (nn G v x r)
end
end G3
end
/-! G3Base2 -/
section
set_option Elab.async false
set_option linter.all false
set_option maxRecDepth 100000
set_option maxHeartbeats 4000000
/-! G3Base2: promises, calls, statements, loops over G3Base. -/
namespace G3
open PySem PySem.Spec PyProof.Rows L2
open Evl (Ex fresh_back)
open Rep (rep)
open RZ (iZipA ItzT)

/-! ### promises: the def hands back what its mirror gives -/
section
variable {α β γ δ ρ : Type} [Rep α] [Rep β] [Rep γ] [Rep δ] [Rep ρ]
/-- what is told of the answer -/
def Back (G H : Hp) (r : ρ) (Q : VK) : Prop := ∀ v G2 H2, Gro G H G2 H2 → rep G2 v r → Q v H2
def Sp1 (f : α → Option ρ) : Sp := fun vs H Q _ => ∃ G v x r, vs = [v] ∧ Ex G H ∧ rep G v x ∧ f x = some r ∧ Back G H r Q
def Sp2 (f : α → β → Option ρ) : Sp := fun vs H Q _ => ∃ G v w x y r, vs = [v, w] ∧ Ex G H ∧ rep G v x ∧ rep G w y ∧ f x y = some r ∧ Back G H r Q
def Sp3 (f : α → β → γ → Option ρ) : Sp := fun vs H Q _ => ∃ G v w u x y z r, vs = [v, w, u] ∧ Ex G H ∧ rep G v x ∧ rep G w y ∧ rep G u z ∧ f x y z = some r ∧ Back G H r Q
theorem Sp1.len {f : α → Option ρ} {vs H Q E} (h : Sp1 f vs H Q E) : vs.length = 1 := by obtain ⟨_, _, _, _, rfl, _⟩ := h; rfl
theorem Sp2.len {f : α → β → Option ρ} {vs H Q E} (h : Sp2 f vs H Q E) : vs.length = 2 := by obtain ⟨_, _, _, _, _, _, rfl, _⟩ := h; rfl
theorem Sp3.len {f : α → β → γ → Option ρ} {vs H Q E} (h : Sp3 f vs H Q E) : vs.length = 3 := by obtain ⟨_, _, _, _, _, _, _, _, rfl, _⟩ := h; rfl
variable {σ : L2.St} {G H G0 H0 : Hp} {ta tb tc td : TE} {E : XK} {x : α} {y : β} {z : γ} {r : ρ}
theorem er_call1 {f : α → Option ρ} (h : EvR ta σ G H x) (e : f x = some r) : EvR (tCall (Sp1 f) [] E (tCons ta tNil)) σ G H r := fun G1 H1 g Q q =>
  ea_1 h G1 H1 g _ fun vs G2 H2 g2 hR => by
    obtain ⟨v, rfl, r1⟩ := hR
    exact ⟨G2, v, x, r, rfl, g2.sub, r1, e, fun v' G3 H3 g3 r3 => q v' G3 H3 (g2.trans g3) r3⟩
theorem er_call2 {f : α → β → Option ρ} (h : EvR ta σ G H x) (h2 : EvR tb σ G H y) (e : f x y = some r) : EvR (tCall (Sp2 f) [] E (tCons ta (tCons tb tNil))) σ G H r := fun G1 H1 g Q q =>
  ea_2 h h2 G1 H1 g _ fun vs G2 H2 g2 hR => by
    obtain ⟨v, w, rfl, r1, r2⟩ := hR
    exact ⟨G2, v, w, x, y, r, rfl, g2.sub, r1, r2, e, fun v' G3 H3 g3 r3 => q v' G3 H3 (g2.trans g3) r3⟩
theorem er_call3 {f : α → β → γ → Option ρ} (h : EvR ta σ G H x) (h2 : EvR tb σ G H y) (h3 : EvR tc σ G H z) (e : f x y z = some r) : EvR (tCall (Sp3 f) [] E (tCons ta (tCons tb (tCons tc tNil)))) σ G H r := fun G1 H1 g Q q =>
  ea_3 h h2 h3 G1 H1 g _ fun vs G2 H2 g2 hR => by
    obtain ⟨v, w, u, rfl, r1, r2, r3⟩ := hR
    exact ⟨G2, v, w, u, x, y, z, r, rfl, g2.sub, r1, r2, r3, e, fun v' G3 H3 g3 r3 => q v' G3 H3 (g2.trans g3) r3⟩
end

section
variable {σ : L2.St} {G H : Hp} {i : Nat}
theorem er_i {n : Int} (h : σ[i]? = some (some (.int n))) : EvR (tVar i) σ G H n := er_var (G0 := G) h rfl
theorem er_n {n : Nat} (h : σ[i]? = some (some (.int (n : Int)))) : EvR (tVar i) σ G H n := er_var (G0 := G) h rfl
theorem er_b {b : Bool} (h : σ[i]? = some (some (.bl b))) : EvR (tVar i) σ G H b := er_var (G0 := G) h rfl
end
/-! ### a def that stands at the top, with its promise -/
structure Cal (P : Program) (w : World) (K : PySem.W.Frag) (mg : Str → Option Value) (base : Heap) (x : Str) (k : Nat) (ps : List Str) (sp : Sp) : Prop where
  ex : ∃ f fd, FnOk P w K mg base CX0 k f fd ps sp ∧ mg x = some (.ref f) ∧ PySem.W.keepIn K (.ref f) = true ∧ Binds K fd ps []
theorem pe_cal {X : Cx} {x : Str} {k : Nat} {ps : List Str} {sp : Sp} {e : Expr} {es : List Expr} {t : TA} {p pos : Pos} (c : Cal X.prog X.w X.K X.mg X.base x k ps sp) (hr : Room k X.A) (hg : Gl X x) (ha : PA X (e :: es) t)
    (hdb : (x == ("__debug__" : Str)) = false := by decide) (he : starEach (e :: es) X.env = (false, eval e X.env) :: starEach es X.env := by rfl) (hpl : (backTo pos (starEach es X.env)).any (·.1) = false := by rfl) : PE X (.Call (.Name x p) (e :: es) [] pos) (tCall sp [] E0 t) := by
  obtain ⟨f, fd, F, hm, hk, hb⟩ := c.ex
  exact pe_call F hr hg hm hk hb .nil pass0 ha hdb he hpl

/-! ### our own lists that change -/
structure Ml {α : Type} [Rep α] (H0 G H : Hp) (l : Addr) (xs : List α) : Prop where
  ex : ∃ vs, H l = some (.lst vs) ∧ RepL G vs xs
  h0 : H0 l = none
  hG : G l = none
section
variable {α : Type} [Rep α] {G H G0 H0 G1 H1 : Hp} {l l' : Addr} {xs : List α} {x : α} {v : V} {o : HO}
theorem Ml.up (m : Ml H0 G H l xs) (g : Gro G H G1 H1) : Ml H0 G1 H1 l xs := by
  obtain ⟨vs, h1, h2⟩ := m.ex
  exact ⟨⟨vs, g.h _ _ h1, h2.mono g.g⟩, m.h0, g.none h1 m.hG⟩
theorem Ml.oth (m : Ml H0 G H l xs) (h : l ≠ l') : Ml H0 G (upd H l' o) l xs := by
  obtain ⟨vs, h1, h2⟩ := m.ex
  exact ⟨⟨vs, by rw [upd_ne h]; exact h1, h2⟩, m.h0, m.hG⟩
theorem Ml.same {vs : List V} (h0 : H0 l = none) (hG : G l = none) (h : RepL G vs xs) : Ml H0 G (upd H l (.lst vs)) l xs := ⟨⟨vs, upd_same, h⟩, h0, hG⟩
/-- it changes no more: as data -/
theorem Ml.frz (m : Ml H0 G H l xs) (B : Gro G0 H0 G H) : ∃ G', Gro G0 H0 G' H ∧ Ex G G' ∧ rep G' (.ref l) xs := by
  obtain ⟨vs, h1, h2⟩ := m.ex
  exact ⟨upd G l (.lst vs), B.frz m.h0 m.hG h1, Ex.new m.hG, l, vs, rfl, upd_same, h2.mono (Ex.new m.hG)⟩
theorem Back.frz {Q : VK} (q : Back G0 H0 xs Q) (B : Gro G0 H0 G H) (m : Ml H0 G H l xs) : Q (.ref l) H := by
  obtain ⟨G', B', _, r⟩ := m.frz B
  exact q _ G' H B' r
end

/-! ### statements: (G0, H0) the entry, (G, H) here -/
section
variable {α β γ ρ : Type} [Rep α] [Rep β] [Rep γ] [Rep ρ] {K : PySem.W.Frag} {σ : L2.St} {G H G0 H0 : Hp} {ta tb te tx : TE} {t u : TT} {x y : α} {v : V} {i j : Nat} {D : Ends} {tu tw tz : TS} {b : Bool} {r : ρ} {Q : VK}
theorem s_asg (h : EvR te σ G H x) (B : Gro G0 H0 G H) (k : ∀ v G1 H1, Gro G0 H0 G1 H1 → Gro G H G1 H1 → rep G1 v x → D.nx (σ.set i (some v)) H1) : tAsg te (gName i) D σ H := h G H (Gro.refl B.sub) _ fun v G1 H1 g r => k v G1 H1 (B.trans g) g r
theorem q_asg (h : EvR te σ G H x) (B : Gro G0 H0 G H) (k : ∀ v G1 H1, Gro G0 H0 G1 H1 → Gro G H G1 H1 → rep G1 v x → tz D (σ.set i (some v)) H1) : tSeq (tAsg te (gName i)) tz D σ H := s_asg (D := { D with nx := tz D }) h B k
theorem s_asgN {xs : List α} (h : EvN te σ G H xs) (B : Gro G0 H0 G H) (k : ∀ l G1 H1, Gro G0 H0 G1 H1 → Gro G H G1 H1 → Ml H0 G1 H1 l xs → H l = none → D.nx (σ.set i (some (.ref l))) H1) : tAsg te (gName i) D σ H :=
  h G H (Gro.refl B.sub) _ fun p vs G1 H1 g hp hG h1 r => k p G1 H1 (B.trans g) g ⟨⟨vs, h1, r⟩, fresh_back B.h hp, hG⟩ hp
theorem q_asgN {xs : List α} (h : EvN te σ G H xs) (B : Gro G0 H0 G H) (k : ∀ l G1 H1, Gro G0 H0 G1 H1 → Gro G H G1 H1 → Ml H0 G1 H1 l xs → H l = none → tz D (σ.set i (some (.ref l))) H1) : tSeq (tAsg te (gName i)) tz D σ H := s_asgN (D := { D with nx := tz D }) h B k
theorem s_ret (h : EvR te σ G H r) (B : Gro G0 H0 G H) (q : Back G0 H0 r D.rt) : tRet te D σ H := h G H (Gro.refl B.sub) _ fun v G1 H1 g r => q v G1 H1 (B.trans g) r
theorem s_retV (h : EvV te σ G H v) (B : Gro G0 H0 G H) (k : ∀ G1 H1, Gro G0 H0 G1 H1 → Gro G H G1 H1 → D.rt v H1) : tRet te D σ H := h G H (Gro.refl B.sub) _ fun G1 H1 g => k G1 H1 (B.trans g) g
theorem s_retR (h : EvR te σ G H x) (B : Gro G0 H0 G H) (k : ∀ v G1 H1, Gro G0 H0 G1 H1 → Gro G H G1 H1 → rep G1 v x → D.rt v H1) : tRet te D σ H := h G H (Gro.refl B.sub) _ fun v G1 H1 g r => k v G1 H1 (B.trans g) g r
theorem s_retM {xs : List α} {l : Addr} (h : EvV te σ G H (.ref l)) (B : Gro G0 H0 G H) (m : Ml H0 G H l xs) (q : Back G0 H0 xs D.rt) : tRet te D σ H := h G H (Gro.refl B.sub) _ fun G1 H1 g => q.frz (B.trans g) (m.up g)
theorem s_if (h : EvT t σ G H b) (B : Gro G0 H0 G H) (h1 : b = true → ∀ G1 H1, Gro G0 H0 G1 H1 → Gro G H G1 H1 → tu D σ H1) (h2 : b = false → ∀ G1 H1, Gro G0 H0 G1 H1 → Gro G H G1 H1 → tw D σ H1) : tIfS t tu tw D σ H := h G H (Gro.refl B.sub) _ fun G1 H1 g => by
  cases b with
  | true =>
    show tu D σ H1
    exact h1 rfl G1 H1 (B.trans g) g
  | false =>
    show tw D σ H1
    exact h2 rfl G1 H1 (B.trans g) g
theorem q_if (h : EvT t σ G H b) (B : Gro G0 H0 G H) (h1 : b = true → ∀ G1 H1, Gro G0 H0 G1 H1 → Gro G H G1 H1 → tu { D with nx := tz D } σ H1) (h2 : b = false → ∀ G1 H1, Gro G0 H0 G1 H1 → Gro G H G1 H1 → tw { D with nx := tz D } σ H1) : tSeq (tIfS t tu tw) tz D σ H := s_if (D := { D with nx := tz D }) h B h1 h2
theorem s_when (h : EvT t σ G H b) (B : Gro G0 H0 G H) (h1 : b = true → ∀ G1 H1, Gro G0 H0 G1 H1 → Gro G H G1 H1 → tu D σ H1) (h2 : b = false → ∀ G1 H1, Gro G0 H0 G1 H1 → Gro G H G1 H1 → D.nx σ H1) : tIfS t tu tNext D σ H := s_if h B h1 h2
theorem q_when (h : EvT t σ G H b) (B : Gro G0 H0 G H) (h1 : b = true → ∀ G1 H1, Gro G0 H0 G1 H1 → Gro G H G1 H1 → tu { D with nx := tz D } σ H1) (h2 : b = false → ∀ G1 H1, Gro G0 H0 G1 H1 → Gro G H G1 H1 → tz D σ H1) : tSeq (tIfS t tu tNext) tz D σ H := s_if (D := { D with nx := tz D }) h B h1 h2
/-- if c: x = e -/
theorem q_ifSet {v0 : V} (h : EvT t σ G H b) (B : Gro G0 H0 G H) (h0 : σ[i]? = some (some v0)) (r0 : rep G v0 y) (h1 : b = true → EvR te σ G H x) (k : ∀ v G1 H1, Gro G0 H0 G1 H1 → Gro G H G1 H1 → rep G1 v (if b then x else y) → tz D (σ.set i (some v)) H1) : tSeq (tIfS t (tAsg te (gName i)) tNext) tz D σ H :=
  h G H (Gro.refl B.sub) _ fun G1 H1 g => by
    cases b with
    | true =>
      show tAsg te (gName i) { D with nx := tz D } σ H1
      exact h1 rfl G1 H1 g _ fun v G2 H2 g2 r => k v G2 H2 ((B.trans g).trans g2) (g.trans g2) r
    | false =>
      have q := k v0 G1 H1 (B.trans g) g (Rep.mono g.g r0)
      have e : σ.set i (some v0) = σ := by
        obtain ⟨hi, e⟩ := List.getElem?_eq_some_iff.mp h0
        rw [← e]; exact List.set_getElem_self hi
      rw [e] at q
      exact q
theorem q_drop (h : EvV te σ G H v) (B : Gro G0 H0 G H) (k : ∀ G1 H1, Gro G0 H0 G1 H1 → Gro G H G1 H1 → tz D σ H1) : tSeq (tDrop te) tz D σ H := h G H (Gro.refl B.sub) _ fun G1 H1 g => k G1 H1 (B.trans g) g
/-- l.append(e) -/
theorem s_app {xs : List α} {l : Addr} (hm : Ml H0 G H l xs) (hl : EvV ta σ G H (.ref l)) (h : EvR te σ G H x) (hz : xs.length < 100000) (B : Gro G0 H0 G H)
    (k : ∀ v G1 H1, Gro G H G1 H1 → Gro G0 H0 G1 (upd H1 l v) → Ml H0 G1 (upd H1 l v) l (xs ++ [x]) → D.nx σ (upd H1 l v)) : tDrop (tBM K "list" rAppend ta (tCons te tNil)) D σ H :=
  hl G H (Gro.refl B.sub) _ fun G1 H1 g1 => by
    obtain ⟨vs, e1, e2⟩ := hm.ex
    refine ⟨.inl ⟨rfl, vs, SqL.of (g1.h _ _ e1)⟩, h G1 H1 g1 _ fun v G2 H2 g2 r => ?_⟩
    have g := g1.trans g2
    have hm2 := hm.up g
    refine ⟨l, vs, v, rfl, rfl, g.h _ _ e1, ?_, k (.lst (vs ++ [v])) G2 H2 g ((B.trans g).mut hm2.h0 hm2.hG) (Ml.same hm2.h0 hm2.hG ((e2.mono g.g).snoc r))⟩
    rw [e2.length]; exact Nat.lt_of_lt_of_le hz (by decide)
theorem q_app {xs : List α} {l : Addr} (hm : Ml H0 G H l xs) (hl : EvV ta σ G H (.ref l)) (h : EvR te σ G H x) (hz : xs.length < 100000) (B : Gro G0 H0 G H)
    (k : ∀ v G1 H1, Gro G H G1 H1 → Gro G0 H0 G1 (upd H1 l v) → Ml H0 G1 (upd H1 l v) l (xs ++ [x]) → tz D σ (upd H1 l v)) : tSeq (tDrop (tBM K "list" rAppend ta (tCons te tNil))) tz D σ H := s_app (D := { D with nx := tz D }) hm hl h hz B k
/-- l[j] = e -/
theorem s_setL {xs : List α} {l : Addr} (hm : Ml H0 G H l xs) (h : EvR te σ G H x) (hl : EvV ta σ G H (.ref l)) (hi : EvR tb σ G H j) (hj : j < xs.length) (B : Gro G0 H0 G H)
    (k : ∀ v G1 H1, Gro G H G1 H1 → Gro G0 H0 G1 (upd H1 l v) → Ml H0 G1 (upd H1 l v) l (xs.set j x) → D.nx σ (upd H1 l v)) : tAsg te (gSub ta tb rSetL) D σ H :=
  h G H (Gro.refl B.sub) _ fun w G1 H1 g1 rw' => hl G1 H1 g1 _ fun G2 H2 g2 => hi G2 H2 (g1.trans g2) _ fun z G3 H3 g3 rz => by
    cases rz
    obtain ⟨vs, e1, e2⟩ := hm.ex
    have g := (g1.trans g2).trans g3
    have hm2 := hm.up g
    refine ⟨l, vs, (j : Int), j, rfl, rfl, g.h _ _ e1, Evl.ixN_nat (by rw [e2.length]; exact hj), k (.lst (vs.set j w)) G3 H3 g ((B.trans g).mut hm2.h0 hm2.hG) (Ml.same hm2.h0 hm2.hG ((e2.mono g.g).set (Rep.mono (g2.trans g3).g rw') j))⟩
theorem q_setL {xs : List α} {l : Addr} (hm : Ml H0 G H l xs) (h : EvR te σ G H x) (hl : EvV ta σ G H (.ref l)) (hi : EvR tb σ G H j) (hj : j < xs.length) (B : Gro G0 H0 G H)
    (k : ∀ v G1 H1, Gro G H G1 H1 → Gro G0 H0 G1 (upd H1 l v) → Ml H0 G1 (upd H1 l v) l (xs.set j x) → tz D σ (upd H1 l v)) : tSeq (tAsg te (gSub ta tb rSetL)) tz D σ H := s_setL (D := { D with nx := tz D }) hm h hl hi hj B k
end

/-! ### loops, by the folds of the mirror -/
inductive Out (ρ S : Type) where
  | ret (r : ρ)
  | go (s : S)
def foldR {ρ S α : Type} (f : S → α → Option (Out ρ S)) : S → List α → Option (Out ρ S)
  | s, [] => some (.go s)
  | s, x :: xs => match f s x with
    | none => none
    | some (.ret r) => some (.ret r)
    | some (.go s') => foldR f s' xs
def foldO {S α : Type} (f : S → α → Option S) : S → List α → Option S
  | s, [] => some s
  | s, x :: xs => match f s x with
    | none => none
    | some s' => foldO f s' xs
def whileO {S : Type} (c : S → Option Bool) (f : S → Option S) : Nat → S → Option S
  | 0, _ => none
  | n + 1, s => match c s with
    | none => none
    | some false => some s
    | some true => match f s with
      | none => none
      | some s' => whileO c f n s'
/-- between two turns: J holds, G has grown since G, and since the entry -/
def At (G0 H0 G : Hp) (J : L2.St → Hp → Hp → Prop) : L2.St → Hp → Prop := fun σ H => ∃ G', GLe G G' ∧ Gro G0 H0 G' H ∧ J σ G' H
section
variable {α β γ ρ S : Type} [Rep α] {K : PySem.W.Frag} {σ : L2.St} {G H G0 H0 : Hp} {ta tb te tx tl : TE} {t u : TT} {j n : Nat} {D : Ends} {tu tw tz : TS} {b : Bool} {g : TG} {s0 : S} {xs : List α}
theorem foldR_cons {f : S → β → Option (Out ρ S)} {s : S} {x : β} {r : List β} {o : Out ρ S} (h : foldR f s (x :: r) = some o) : ∃ o', f s x = some o' ∧ (∀ r, o' = .ret r → o = .ret r) ∧ ∀ s', o' = .go s' → foldR f s' r = some o := by
  unfold foldR at h
  cases q : f s x with
  | none => rw [q] at h; cases h
  | some o' =>
    rw [q] at h
    cases o' with
    | ret r =>
      refine ⟨.ret r, rfl, ?_, ?_⟩
      · intro r' e; cases e; exact (Option.some.inj h).symm
      · intro s' e; cases e
    | go s' =>
      refine ⟨.go s', rfl, ?_, ?_⟩
      · intro r' e; cases e
      · intro s2 e; cases e; exact h
theorem foldO_cons {f : S → β → Option S} {s s2 : S} {x : β} {r : List β} (h : foldO f s (x :: r) = some s2) : ∃ s', f s x = some s' ∧ foldO f s' r = some s2 := by
  unfold foldO at h
  cases q : f s x with
  | none => rw [q] at h; cases h
  | some s' => rw [q] at h; exact ⟨s', rfl, h⟩
/-- where a turn of a loop ends -/
abbrev Nx (G0 H0 G' : Hp) (I : S → L2.St → Hp → Hp → Prop) (o' : Out ρ S) : L2.St → Hp → Prop := fun σ2 H2 => ∃ s', o' = .go s' ∧ At G0 H0 G' (I s') σ2 H2
theorem for_core {J : It} {n : Nat} (Pv : Nat → L2.St → Hp → Prop) (h0 : Pv 0 σ H)
    (hs : ∀ i σ H, i < n → Pv i σ H → J.go i H ∧ ∃ N : L2.St → Hp → Prop, (∀ σ' H', N σ' H' → Pv (i + 1) σ' H') ∧ ∀ x H', J.yld i H x H' → g x σ H' fun σ2 H2 => tu { D with nx := N, ct := N, bk := D.nx } σ2 H2)
    (hd : ∀ σ H, Pv n σ H → J.stop n H ∧ D.nx σ H) :
    ∃ W : Nat → Nat → L2.St → Hp → Prop, (∃ m, W 0 m σ H) ∧ ∀ i m σ H, W i m σ H →
      (J.stop i H ∧ D.nx σ H) ∨ (J.go i H ∧ ∃ N : L2.St → Hp → Prop, (∀ σ' H', N σ' H' → ∃ m', m' < m ∧ W (i + 1) m' σ' H') ∧ ∀ x H', J.yld i H x H' → g x σ H' fun σ2 H2 => tu { D with nx := N, ct := N, bk := D.nx } σ2 H2) := by
  refine ⟨fun i m σ H => m = n - i ∧ i ≤ n ∧ Pv i σ H, ⟨n, by simp, Nat.zero_le _, h0⟩, ?_⟩
  rintro i m σ H ⟨rfl, hi, p⟩
  by_cases hlt : i < n
  · obtain ⟨h1, N, h2, h3⟩ := hs i σ H hlt p
    exact .inr ⟨h1, N, fun σ' H' q => ⟨n - (i + 1), by omega, rfl, hlt, h2 σ' H' q⟩, h3⟩
  · have e : i = n := by omega
    subst e
    exact .inl (hd σ H p)
/-- the state between two turns of a fold over items xs, G1 at the start -/
def Pf (G0 H0 G1 : Hp) {ι : Type} (f : S → ι → Option (Out ρ S)) (xs : List ι) (o : Out ρ S) (I : S → L2.St → Hp → Hp → Prop) (i : Nat) : L2.St → Hp → Prop := fun σ' H' =>
  ∃ s, foldR f s (xs.drop i) = some o ∧ ∃ G', Ex G1 G' ∧ Gro G0 H0 G' H' ∧ I s σ' G' H'
theorem pf_next {ι : Type} {f : S → ι → Option (Out ρ S)} {xs : List ι} {o o' : Out ρ S} {I : S → L2.St → Hp → Hp → Prop} {i : Nat} {G1 : Hp} (q3 : ∀ s', o' = .go s' → foldR f s' (xs.drop (i + 1)) = some o) :
    ∀ σ' H', Nx G0 H0 G1 I o' σ' H' → Pf G0 H0 G1 f xs o I (i + 1) σ' H' := fun σ' H' h => by
  obtain ⟨s', e, G2, y1, y2, y3⟩ := h
  exact ⟨s', q3 s' e, G2, y1.ex, y2, y3⟩
/-- what is walked: these items -/
structure Walks {ι : Type} [Rep ι] (J : It) (G1 : Hp) (xs : List ι) : Prop where
  go : ∀ (i : Nat) (x : ι) (G' H' : Hp), xs[i]? = some x → Ex G1 G' → Ex G' H' → J.go i H'
  yld : ∀ (i : Nat) (x : ι) (G' H' : Hp) (v : V) (H2 : Hp), xs[i]? = some x → Ex G1 G' → Ex G' H' → J.yld i H' v H2 → ∃ G2, Gro G' H' G2 H2 ∧ rep G2 v x
  stop : ∀ (G' H' : Hp), Ex G1 G' → Ex G' H' → J.stop xs.length H'
def EvI {ι : Type} [Rep ι] (wi : TI) (σ : L2.St) (G H : Hp) (xs : List ι) : Prop := ∀ G1 H1, Gro G H G1 H1 → ∀ R : It → Hp → Prop, (∀ J G2 H2, Gro G1 H1 G2 H2 → Walks J G2 xs → R J H2) → wi σ H1 R
theorem ei_list (h : EvR tl σ G H xs) : EvI (iList K tl) σ G H xs := fun G1 H1 g1 R k => h G1 H1 g1 _ fun v G2 H2 g2 r => by
  obtain ⟨a, vs, rfl, e1, e2⟩ := r
  refine ⟨a, rfl, ⟨vs, SqL.of (g2.sub _ _ e1)⟩, k _ G2 H2 g2 ⟨?_, ?_, ?_⟩⟩
  · intro i x G' H' hx x1 x2
    obtain ⟨w, h3, h4⟩ := e2.get hx
    exact ⟨vs, w, SqL.of (x2 _ _ (x1 _ _ e1)), h3⟩
  · intro i x G' H' v H2 hx x1 x2 y
    obtain ⟨e, y⟩ := y
    subst e
    obtain ⟨w, h3, h4⟩ := e2.get hx
    have ew : w = v := Option.some.inj (h3.symm.trans (y vs (SqL.of (x2 _ _ (x1 _ _ e1)))))
    subst ew
    exact ⟨G', Gro.refl x2, Rep.mono x1 h4⟩
  · intro G' H' x1 x2
    exact ⟨vs, SqL.of (x2 _ _ (x1 _ _ e1)), by rw [e2.length]; exact Nat.le_refl _⟩
theorem ei_range (h : EvR ta σ G H n) (hn : n ≤ 1000000) : EvI (iRng1 (tCons ta tNil)) σ G H (List.range n) := fun G1 H1 g1 R k => h G1 H1 g1 _ fun v G2 H2 g2 r => by
  cases r
  refine ⟨(n : Int), rfl, by omega, by omega, k _ G2 H2 g2 ⟨?_, ?_, ?_⟩⟩
  · intro i x G' H' hx _ _
    obtain ⟨hi, _⟩ := List.getElem?_eq_some_iff.mp hx
    rw [List.length_range] at hi
    show i < (n : Int).toNat
    omega
  · intro i x G' H' v H2 hx x1 x2 y
    obtain ⟨e, y⟩ := y
    subst e y
    obtain ⟨hi, e⟩ := List.getElem?_eq_some_iff.mp hx
    rw [List.getElem_range] at e
    subst e
    refine ⟨G', Gro.refl x2, ?_⟩
    show V.int (0 + (i : Int)) = V.int (i : Int)
    rw [Int.zero_add]
  · intro G' H' _ _
    rw [List.length_range]
    show (n : Int).toNat ≤ n
    omega
theorem ei_enum (h : EvR tl σ G H xs) : EvI (iEnum K (tCons tl tNil)) σ G H ((List.range xs.length).zip xs) := fun G1 H1 g1 R k => h G1 H1 g1 _ fun v G2 H2 g2 r => by
  obtain ⟨a, vs, rfl, e1, e2⟩ := r
  refine ⟨a, vs, rfl, SqL.of (g2.sub _ _ e1), k _ G2 H2 g2 ⟨?_, ?_, ?_⟩⟩
  · intro i x G' H' hx x1 x2
    obtain ⟨h1, h2⟩ := List.getElem?_zip_eq_some.mp hx
    obtain ⟨w, h3, h4⟩ := e2.get h2
    exact ⟨vs, w, SqL.of (x2 _ _ (x1 _ _ e1)), h3⟩
  · intro i x G' H' v H2 hx x1 x2 y
    obtain ⟨T, w, rfl, nT, rfl, y⟩ := y
    obtain ⟨h1, h2⟩ := List.getElem?_zip_eq_some.mp hx
    obtain ⟨w', h3, h4⟩ := e2.get h2
    have ew : w' = w := Option.some.inj (h3.symm.trans (y vs (SqL.of (x2 _ _ (x1 _ _ e1)))))
    subst ew
    obtain ⟨hi, e⟩ := List.getElem?_eq_some_iff.mp h1
    rw [List.getElem_range] at e
    refine ⟨upd G' T (.tup [.int (i : Int), w']), Gro.add x2 nT, T, _, _, rfl, upd_same, ?_, Rep.mono (x1.trans (Gro.add (o := .tup [.int (i : Int), w']) x2 nT).g) h4⟩
    rw [← e]
    rfl
  · intro G' H' x1 x2
    refine ⟨vs, SqL.of (x2 _ _ (x1 _ _ e1)), ?_⟩
    rw [e2.length, List.length_zip, List.length_range, Nat.min_self]
    exact Nat.le_refl _
theorem ei_zipT [Rep β] {xs : Tup α} {ys : Tup β} (h : EvR ta σ G H xs) (h2 : EvR tb σ G H ys) : EvI (iZipA K (tCons ta (tCons tb tNil))) σ G H (xs.l.zip ys.l) := fun G1 H1 g1 R k => ea_2 h h2 G1 H1 g1 _ fun vs G2 H2 g2 hR => by
  obtain ⟨v, w, rfl, ⟨a, vs, rfl, e1, e2⟩, ⟨b, ws, rfl, f1, f2⟩⟩ := hR
  refine ⟨a, b, vs, ws, rfl, .inr ⟨SqT.of (g2.sub _ _ e1), SqT.of (g2.sub _ _ f1), k _ G2 H2 g2 ⟨?_, ?_, ?_⟩⟩⟩
  · intro i x G' H' hx x1 x2
    obtain ⟨h1, h2⟩ := List.getElem?_zip_eq_some.mp hx
    obtain ⟨w, h3, h4⟩ := e2.get h1
    obtain ⟨w2, h5, h6⟩ := f2.get h2
    exact ⟨vs, ws, w, w2, SqT.of (x2 _ _ (x1 _ _ e1)), SqT.of (x2 _ _ (x1 _ _ f1)), h3, h5⟩
  · intro i x G' H' v H2 hx x1 x2 y
    obtain ⟨T, w, w2, rfl, nT, rfl, y, y2⟩ := y
    obtain ⟨h1, h2⟩ := List.getElem?_zip_eq_some.mp hx
    obtain ⟨w', h3, h4⟩ := e2.get h1
    obtain ⟨w2', h5, h6⟩ := f2.get h2
    have ew : w' = w := Option.some.inj (h3.symm.trans (y vs (SqT.of (x2 _ _ (x1 _ _ e1)))))
    have ew2 : w2' = w2 := Option.some.inj (h5.symm.trans (y2 ws (SqT.of (x2 _ _ (x1 _ _ f1)))))
    subst ew ew2
    exact ⟨upd G' T (.tup [w', w2']), Gro.add x2 nT, T, _, _, rfl, upd_same, Rep.mono (x1.trans (Gro.add (o := .tup [w', w2']) x2 nT).g) h4, Rep.mono (x1.trans (Gro.add (o := .tup [w', w2']) x2 nT).g) h6⟩
  · intro G' H' x1 x2
    refine ⟨vs, ws, SqT.of (x2 _ _ (x1 _ _ e1)), SqT.of (x2 _ _ (x1 _ _ f1)), ?_⟩
    rw [List.length_zip, e2.length, f2.length]
    omega
/-- for (a loop that may return); G1: the unchanging part where the loop begins -/
theorem s_forr {wi : TI} {f : S → α → Option (Out ρ S)} {o : Out ρ S} (hf : foldR f s0 xs = some o) (h : EvI wi σ G H xs) (B : Gro G0 H0 G H) (I : S → L2.St → Hp → Hp → Prop) (h0 : ∀ G1 H1, Gro G H G1 H1 → I s0 σ G1 H1)
    (hi : ∀ s σ' G' H' G2 H2, I s σ' G' H' → Gro G' H' G2 H2 → I s σ' G2 H2)
    (hs : ∀ G1 s x o' v σ' G' H', GSt G G1 → f s x = some o' → x ∈ xs → (∀ r, o' = .ret r → o = .ret r) → GSt G1 G' → Gro G0 H0 G' H' → I s σ' G' H' → rep G' v x → g v σ' H' fun σ2 H2 => tu { D with nx := Nx G0 H0 G1 I o', ct := Nx G0 H0 G1 I o', bk := D.nx } σ2 H2)
    (hd : ∀ s σ' G' H', o = .go s → GSt G G' → Gro G0 H0 G' H' → I s σ' G' H' → D.nx σ' H') : tFor wi g tu D σ H :=
  h G H (Gro.refl B.sub) _ fun J G1 H1 g1 W => by
    refine for_core (n := xs.length) (Pf G0 H0 G1 f xs o I) ⟨s0, hf, G1, Ex.refl G1, B.trans g1, h0 G1 H1 g1⟩ ?_ ?_
    · intro i σ' H' hi' ⟨s, hs1, G', x1, x2, x3⟩
      rw [List.drop_eq_getElem_cons hi'] at hs1
      obtain ⟨o', q1, q2, q3⟩ := foldR_cons hs1
      have hx := List.getElem?_eq_getElem hi'
      refine ⟨W.go i _ G' H' hx x1 x2.sub, Nx G0 H0 G1 I o', pf_next q3, fun x H2 y => ?_⟩
      obtain ⟨G2, g2, r⟩ := W.yld i _ G' H' x H2 hx x1 x2.sub y
      exact hs G1 s _ o' x σ' G2 H2 ⟨g1.g⟩ q1 (List.getElem_mem hi') q2 ⟨x1.trans g2.g⟩ (x2.trans g2) (hi _ _ _ _ _ _ x3 g2) r
    · intro σ' H' ⟨s, hs1, G', x1, x2, x3⟩
      rw [List.drop_length] at hs1
      exact ⟨W.stop G' H' x1 x2.sub, hd s σ' G' H' (Option.some.inj hs1).symm ⟨g1.g.trans x1⟩ x2 x3⟩
/-- a fold that can't return, as one that might -/
def foldG {ι : Type} (f : S → ι → Option S) : S → ι → Option (Out Empty S) := fun s x => match f s x with
  | none => none
  | some s' => some (.go s')
theorem foldG_of {ι : Type} {f : S → ι → Option S} : ∀ {ys : List ι} {s s2 : S}, foldO f s ys = some s2 → foldR (foldG f) s ys = some (.go s2)
  | [], s, s2, h => by cases h; rfl
  | y :: r, s, s2, h => by
    obtain ⟨s', e, h2⟩ := foldO_cons h
    have e2 : foldG f s y = some (.go s') := by unfold foldG; rw [e]
    unfold foldR
    rw [e2]
    exact foldG_of h2
theorem foldG_inv {ι : Type} {f : S → ι → Option S} {s : S} {x : ι} {o : Out Empty S} (h : foldG f s x = some o) : ∃ s', f s x = some s' ∧ o = .go s' := by
  unfold foldG at h
  cases q : f s x with
  | none => rw [q] at h; cases h
  | some s' => rw [q] at h; exact ⟨s', rfl, (Option.some.inj h).symm⟩
/-- for, which does not return -/
theorem s_for {wi : TI} {f : S → α → Option S} {s1 : S} (hf : foldO f s0 xs = some s1) (h : EvI wi σ G H xs) (B : Gro G0 H0 G H) (I : S → L2.St → Hp → Hp → Prop) (h0 : ∀ G1 H1, Gro G H G1 H1 → I s0 σ G1 H1)
    (hi : ∀ s σ' G' H' G2 H2, I s σ' G' H' → Gro G' H' G2 H2 → I s σ' G2 H2)
    (hs : ∀ G1 s x s' v σ' G' H', GSt G G1 → f s x = some s' → x ∈ xs → GSt G1 G' → Gro G0 H0 G' H' → I s σ' G' H' → rep G' v x → ∀ N : L2.St → Hp → Prop, (∀ σ2 H2, At G0 H0 G1 (I s') σ2 H2 → N σ2 H2) → g v σ' H' fun σ2 H2 => tu { D with nx := N, ct := N, bk := D.nx } σ2 H2)
    (hd : ∀ σ' G' H', GSt G G' → Gro G0 H0 G' H' → I s1 σ' G' H' → D.nx σ' H') : tFor wi g tu D σ H :=
  s_forr (foldG_of hf) h B I h0 hi (fun G1 s x o' v σ' G' H' z q hx _ a b c d => by
    obtain ⟨s', q1, rfl⟩ := foldG_inv q
    exact hs G1 s x s' v σ' G' H' z q1 hx a b c d _ fun σ2 H2 z => ⟨s', rfl, z⟩) (fun s σ' G' H' e a b c => by cases e; exact hd σ' G' H' a b c)
theorem q_forr {wi : TI} {f : S → α → Option (Out ρ S)} {o : Out ρ S} (hf : foldR f s0 xs = some o) (h : EvI wi σ G H xs) (B : Gro G0 H0 G H) (I : S → L2.St → Hp → Hp → Prop) (h0 : ∀ G1 H1, Gro G H G1 H1 → I s0 σ G1 H1)
    (hi : ∀ s σ' G' H' G2 H2, I s σ' G' H' → Gro G' H' G2 H2 → I s σ' G2 H2)
    (hs : ∀ G1 s x o' v σ' G' H', GSt G G1 → f s x = some o' → x ∈ xs → (∀ r, o' = .ret r → o = .ret r) → GSt G1 G' → Gro G0 H0 G' H' → I s σ' G' H' → rep G' v x → g v σ' H' fun σ2 H2 => tu { D with nx := Nx G0 H0 G1 I o', ct := Nx G0 H0 G1 I o', bk := tz D } σ2 H2)
    (hd : ∀ s σ' G' H', o = .go s → GSt G G' → Gro G0 H0 G' H' → I s σ' G' H' → tz D σ' H') : tSeq (tFor wi g tu) tz D σ H := s_forr (D := { D with nx := tz D }) hf h B I h0 hi hs hd
theorem q_for {wi : TI} {f : S → α → Option S} {s1 : S} (hf : foldO f s0 xs = some s1) (h : EvI wi σ G H xs) (B : Gro G0 H0 G H) (I : S → L2.St → Hp → Hp → Prop) (h0 : ∀ G1 H1, Gro G H G1 H1 → I s0 σ G1 H1)
    (hi : ∀ s σ' G' H' G2 H2, I s σ' G' H' → Gro G' H' G2 H2 → I s σ' G2 H2)
    (hs : ∀ G1 s x s' v σ' G' H', GSt G G1 → f s x = some s' → x ∈ xs → GSt G1 G' → Gro G0 H0 G' H' → I s σ' G' H' → rep G' v x → ∀ N : L2.St → Hp → Prop, (∀ σ2 H2, At G0 H0 G1 (I s') σ2 H2 → N σ2 H2) → g v σ' H' fun σ2 H2 => tu { D with nx := N, ct := N, bk := tz D } σ2 H2)
    (hd : ∀ σ' G' H', GSt G G' → Gro G0 H0 G' H' → I s1 σ' G' H' → tz D σ' H') : tSeq (tFor wi g tu) tz D σ H := s_for (D := { D with nx := tz D }) hf h B I h0 hi hs hd
/-- while, by fuel -/
theorem s_while {c : S → Option Bool} {f : S → Option S} {s1 : S} {fuel : Nat} (hf : whileO c f fuel s0 = some s1) (B : Gro G0 H0 G H) (I : S → L2.St → Hp → Hp → Prop) (h0 : I s0 σ G H)
    (ht : ∀ s k σ' G' H', c s = some k → GSt G G' → Gro G0 H0 G' H' → I s σ' G' H' → EvT t σ' G' H' k)
    (hi : ∀ s σ' G' H' G2 H2, I s σ' G' H' → Gro G' H' G2 H2 → I s σ' G2 H2)
    (hs : ∀ s s' σ' G' H', c s = some true → f s = some s' → GSt G G' → Gro G0 H0 G' H' → I s σ' G' H' → tu { D with nx := At G0 H0 G' (I s'), ct := At G0 H0 G' (I s'), bk := D.nx } σ' H')
    (hd : ∀ σ' G' H', c s1 = some false → GSt G G' → Gro G0 H0 G' H' → I s1 σ' G' H' → D.nx σ' H') : tWhile t tu D σ H := by
  refine ⟨fun m σ' H' => ∃ s, whileO c f m s = some s1 ∧ ∃ G', Ex G G' ∧ Gro G0 H0 G' H' ∧ I s σ' G' H', ⟨fuel, s0, hf, G, Ex.refl G, B, h0⟩, ?_⟩
  intro m σ' H' ⟨s, q, G', x1, x2, x3⟩
  cases m with
  | zero => cases q
  | succ m =>
    unfold whileO at q
    cases e : c s with
    | none => rw [e] at q; cases q
    | some k =>
      rw [e] at q
      refine ht s k σ' G' H' e ⟨x1⟩ x2 x3 G' H' (Gro.refl x2.sub) _ fun G2 H2 g2 => ?_
      have x2' := x2.trans g2
      have x3' := hi s σ' G' H' G2 H2 x3 g2
      have x1' := x1.trans g2.g
      cases k with
      | false =>
        cases q
        exact hd σ' G2 H2 e ⟨x1'⟩ x2' x3'
      | true =>
        cases e2 : f s with
        | none =>
          have q : (match f s with | none => none | some s' => whileO c f m s') = some s1 := q
          rw [e2] at q; cases q
        | some s' =>
          have q : (match f s with | none => none | some s' => whileO c f m s') = some s1 := q
          rw [e2] at q
          refine ⟨At G0 H0 G2 (I s'), fun σ3 H3 z => ?_, hs s s' σ' G2 H2 e e2 ⟨x1'⟩ x2' x3'⟩
          obtain ⟨G3, y1, y2, y3⟩ := z
          exact ⟨m, Nat.lt_succ_self m, s', q, G3, x1'.trans y1.ex, y2, y3⟩
theorem q_while {c : S → Option Bool} {f : S → Option S} {s1 : S} {fuel : Nat} (hf : whileO c f fuel s0 = some s1) (B : Gro G0 H0 G H) (I : S → L2.St → Hp → Hp → Prop) (h0 : I s0 σ G H)
    (ht : ∀ s k σ' G' H', c s = some k → GSt G G' → Gro G0 H0 G' H' → I s σ' G' H' → EvT t σ' G' H' k)
    (hi : ∀ s σ' G' H' G2 H2, I s σ' G' H' → Gro G' H' G2 H2 → I s σ' G2 H2)
    (hs : ∀ s s' σ' G' H', c s = some true → f s = some s' → GSt G G' → Gro G0 H0 G' H' → I s σ' G' H' → tu { D with nx := At G0 H0 G' (I s'), ct := At G0 H0 G' (I s'), bk := tz D } σ' H')
    (hd : ∀ σ' G' H', c s1 = some false → GSt G G' → Gro G0 H0 G' H' → I s1 σ' G' H' → tz D σ' H') : tSeq (tWhile t tu) tz D σ H := s_while (D := { D with nx := tz D }) hf B I h0 ht hi hs hd
end
/-! ### targets -/
section
variable {α β : Type} [Rep α] [Rep β] {K : PySem.W.Frag} {σ : L2.St} {G H : Hp} {v : V} {p : α × β} {g1 g2 : TG} {Q : L2.St → Hp → Prop}
theorem gt2 (r : rep G v p) (e : Ex G H) (k : ∀ u w, rep G u p.1 → rep G w p.2 → g1 u σ H fun σ' H' => g2 w σ' H' Q) : gTup K 2 (gCons g1 (gCons g2 gNil)) v σ H Q := by
  obtain ⟨a, u, w, rfl, h1, h2, h3⟩ := r
  have q := k u w h2 h3
  refine ⟨a, [u, w], rfl, SqT.of (e _ _ h1), rfl, u, [w], rfl, ?_⟩
  have en : (fun σ' H' => g2 w σ' H' Q) = fun σ' H' => gCons g2 gNil [w] σ' H' Q := by
    funext σ' H'
    apply propext
    constructor
    · intro h
      refine ⟨w, [], rfl, ?_⟩
      have : (fun σ' H' => gNil [] σ' H' Q) = Q := by funext σ H; apply propext; exact ⟨fun h => h.2, fun h => ⟨rfl, h⟩⟩
      rw [this]; exact h
    · rintro ⟨w', r, e, h⟩
      cases e
      have : (fun σ' H' => gNil [] σ' H' Q) = Q := by funext σ H; apply propext; exact ⟨fun h => h.2, fun h => ⟨rfl, h⟩⟩
      rw [this] at h; exact h
  rw [← en]
  exact q
end
/-! ### comprehensions -/
/-- an item gives one more, or none, or can't be reckoned -/
def compO {α β : Type} (f : α → Option (Option β)) : List α → Option (List β)
  | [] => some []
  | x :: r => (f x).bind fun o => (compO f r).map fun l => o.toList ++ l
theorem compO_cons {α β : Type} {f : α → Option (Option β)} {x : α} {r : List α} {l : List β} (h : compO f (x :: r) = some l) : ∃ o l', f x = some o ∧ compO f r = some l' ∧ l = o.toList ++ l' := by
  unfold compO at h
  obtain ⟨o, h1, h2⟩ := Option.bind_eq_some_iff.mp h
  obtain ⟨l', h3, h4⟩ := Option.map_eq_some_iff.mp h2
  exact ⟨o, l', h1, h3, h4.symm⟩
section
variable {α β : Type} [Rep α] [Rep β] {σ : L2.St} {G H : Hp} {te : TE} {t : TT} {g : TG} {vs : List Nat}
theorem en_lc {wi : TI} {xs : List α} {ys : List β} {f : α → Option (Option β)} (hf : compO f xs = some ys) (h : EvI wi σ G H xs) (hz : ys.length ≤ 100000)
    (hb : ∀ x o v G1 H1, f x = some o → x ∈ xs → Gro G H G1 H1 → rep G1 v x → ∀ Q' : L2.St → Hp → Prop, (∀ σ2, wipe σ2 vs = wipe σ vs → EvT t σ2 G1 H1 o.isSome → (∀ y, o = some y → EvR te σ2 G1 H1 y) → Q' σ2 H1) → g v (wipe σ vs) H1 Q') :
    EvN (tLc wi g t te vs) σ G H ys := fun G1 H1 g1 Q q => h G1 H1 g1 _ fun J G2 H2 g2 W D hD => by
  have hGD := none_sub g2.sub hD
  refine ⟨fun i m H' => m = xs.length - i ∧ i ≤ xs.length ∧ ∃ done rest, compO f (xs.drop i) = some rest ∧ ys = done ++ rest ∧ ∃ G', Gro G2 H2 G' H' ∧ Ml H2 G' H' D done, ⟨xs.length, by simp, Nat.zero_le _, [], ys, hf, rfl, G2, Gro.fresh g2.sub hD, ⟨⟨[], upd_same, .nil⟩, hD, hGD⟩⟩, ?_⟩
  rintro i m H' ⟨rfl, hi, done, rest, c1, c2, G', b, ml⟩
  by_cases hlt : i < xs.length
  · rw [List.drop_eq_getElem_cons hlt] at c1
    obtain ⟨o, l', f1, f2, rfl⟩ := compO_cons c1
    have hx := List.getElem?_eq_getElem hlt
    refine .inr ⟨W.go i _ G' H' hx b.g b.sub, fun H4 => ∃ done rest, compO f (xs.drop (i + 1)) = some rest ∧ ys = done ++ rest ∧ ∃ G', Gro G2 H2 G' H4 ∧ Ml H2 G' H4 D done, fun H4 z => ⟨xs.length - (i + 1), by omega, rfl, hlt, z⟩, fun x H3 y => ?_⟩
    obtain ⟨G3, g3, r⟩ := W.yld i _ G' H' x H3 hx b.g b.sub y
    have b3 := b.trans g3
    have ml3 := ml.up g3
    refine hb _ o x G3 H3 f1 (List.getElem_mem hlt) ((g1.trans g2).trans b3) r _ fun σ2 w2 et er => ?_
    refine ⟨w2, et G3 H3 (Gro.refl b3.sub) _ fun G4 H4 g4 => ?_⟩
    have b4 := b3.trans g4
    have ml4 := ml3.up g4
    cases o with
    | none =>
      show ∃ done rest, _
      exact ⟨done, l', f2, c2, G4, b4, ml4⟩
    | some y =>
      show te σ2 H4 _
      refine er y rfl G4 H4 g4 _ fun v G5 H5 g5 r5 => ?_
      have b5 := b4.trans g5
      have ml5 := ml4.up g5
      obtain ⟨ws, e1, e2⟩ := ml5.ex
      refine ⟨ws, e1, ?_, done ++ [y], l', f2, ?_, G5, b5.mut ml5.h0 ml5.hG, Ml.same ml5.h0 ml5.hG (e2.snoc r5)⟩
      · rw [e2.length]
        have hl : ys.length = done.length + (1 + l'.length) := by rw [c2]; simp; omega
        exact Nat.lt_of_lt_of_le (show done.length < 100000 by omega) (by decide)
      · rw [c2]; simp
  · have e : i = xs.length := by omega
    subst e
    rw [List.drop_length] at c1
    cases c1
    rw [List.append_nil] at c2
    subst c2
    obtain ⟨ws, e1, e2⟩ := ml.ex
    exact .inl ⟨W.stop G' H' b.g b.sub, q D ws G' H' (g2.trans b) (fresh_back g2.h hD) ml.hG e1 e2⟩
/-- the target a name -/
theorem en_lcn {wi : TI} {xs : List α} {ys : List β} {f : α → Option (Option β)} {j : Nat} (hf : compO f xs = some ys) (h : EvI wi σ G H xs) (hz : ys.length ≤ 100000) (hw : ∀ x, wipe ((wipe σ vs).set j (some x)) vs = wipe σ vs)
    (hb : ∀ x o v G1 H1, f x = some o → x ∈ xs → Gro G H G1 H1 → rep G1 v x → EvT t ((wipe σ vs).set j (some v)) G1 H1 o.isSome ∧ (∀ y, o = some y → EvR te ((wipe σ vs).set j (some v)) G1 H1 y)) :
    EvN (tLc wi (gName j) t te vs) σ G H ys := en_lc hf h hz fun x o v G1 H1 a b c d Q' k => k _ (hw v) (hb x o v G1 H1 a b c d).1 (hb x o v G1 H1 a b c d).2
theorem et_yes : EvT tYes σ G H true := fun G1 H1 g Q q => q G1 H1 (Gro.refl g.sub)
end
end G3
end
/-! G3Text -/
section
set_option Elab.async false
set_option linter.all false
set_option maxRecDepth 100000
set_option maxHeartbeats 0
namespace G3
open PySem PySem.Spec PyProof.Rows L2
/-! ### the text: the defs of the row's top -/
def top (i : Nat) : Stmt := PySem.Challenge.pw_onewish_k31_whole_goods_put_to_and_parte.main.body.getD i (.Pass ⟨0, 0, 0, 0⟩)
abbrev FnP (K : PySem.W.Frag) (x : Str) (st : Stmt) (f : Addr) (fd : FuncData) : Prop := FunD K x x (defArgs st) (defBody st) (defScope st) [] [] f fd
abbrev sNeedNumber : Stmt := top 5
abbrev sCostAt : Stmt := top 6
abbrev sCostsOf : Stmt := top 7
abbrev sDivisor : Stmt := top 9
abbrev sFraction : Stmt := top 10
abbrev sPlus : Stmt := top 11
abbrev sMinus : Stmt := top 12
abbrev sTimes : Stmt := top 13
abbrev sOver : Stmt := top 14
abbrev sIsLess : Stmt := top 15
abbrev sLesser : Stmt := top 16
abbrev sGreater : Stmt := top 17
abbrev sWayBetween : Stmt := top 19
abbrev sOpenWays : Stmt := top 20
abbrev sBarringRound : Stmt := top 21
abbrev sTopClass : Stmt := top 22
abbrev sAnyWish : Stmt := top 23
abbrev sToldAny : Stmt := top 24
abbrev sStepWorth : Stmt := top 25
abbrev sRoundBack : Stmt := top 26
abbrev sLowered : Stmt := top 27
abbrev sToldBy : Stmt := top 28
abbrev sHasWish : Stmt := top 29
abbrev sShareOf : Stmt := top 30
abbrev sWalks : Stmt := top 32
abbrev sLeastMean : Stmt := top 33
abbrev sLifted : Stmt := top 34
abbrev sDearest : Stmt := top 35
abbrev sStandNoLower : Stmt := top 37
abbrev sNeedFew : Stmt := top 40
abbrev sChoices : Stmt := top 41
abbrev sWithout : Stmt := top 42
abbrev sSlips : Stmt := top 43
abbrev sLeastThrough : Stmt := top 44
abbrev sLeak : Stmt := top 45
abbrev sLawCellAt : Stmt := top 47
abbrev sLawDraws : Stmt := top 48
abbrev sLawBestGood : Stmt := top 49
abbrev sLawABook : Stmt := top 50
abbrev sLawTold : Stmt := top 51
abbrev sLawTurned : Stmt := top 52
abbrev sLaw : Stmt := top 53
def mkD (x : Str) (st : Stmt) : He.DefD := ⟨(x, none), x, x, defArgs st, defBody st, defScope st, [], []⟩
def fn : List He.DefD := [mkD "need_number" sNeedNumber, mkD "cost_at" sCostAt, mkD "costs_of" sCostsOf, mkD "divisor" sDivisor, mkD "fraction" sFraction, mkD "plus" sPlus, mkD "minus" sMinus, mkD "times" sTimes, mkD "over" sOver, mkD "is_less" sIsLess, mkD "lesser" sLesser, mkD "greater" sGreater, mkD "way_between" sWayBetween, mkD "open_ways" sOpenWays, mkD "barring_round" sBarringRound, mkD "top_class" sTopClass, mkD "any_wish" sAnyWish, mkD "told_any" sToldAny, mkD "step_worth" sStepWorth, mkD "round_back" sRoundBack, mkD "lowered" sLowered, mkD "told_by" sToldBy, mkD "has_wish" sHasWish, mkD "share_of" sShareOf, mkD "walks" sWalks, mkD "least_mean" sLeastMean, mkD "lifted" sLifted, mkD "dearest" sDearest, mkD "stand_no_lower" sStandNoLower, mkD "need_few" sNeedFew, mkD "choices" sChoices, mkD "without" sWithout, mkD "slips" sSlips, mkD "least_through" sLeastThrough, mkD "leak" sLeak, mkD "_law_cell_at" sLawCellAt, mkD "_law_draws" sLawDraws, mkD "_law_best_good" sLawBestGood, mkD "_law_a_book" sLawABook, mkD "_law_told" sLawTold, mkD "_law_turned" sLawTurned, mkD "law" sLaw]
def fa1 : List He.Fa := [.glo "need_number", .glo "cost_at", .glo "costs_of", .glo "divisor", .glo "fraction", .glo "plus", .glo "minus", .glo "times", .glo "over", .glo "is_less", .glo "lesser", .glo "greater", .glo "way_between", .glo "open_ways", .glo "barring_round", .glo "top_class", .glo "any_wish", .glo "told_any", .glo "step_worth", .glo "round_back", .glo "lowered", .glo "told_by", .glo "has_wish", .glo "share_of", .glo "walks", .glo "least_mean", .glo "lifted", .glo "dearest", .glo "stand_no_lower", .glo "need_few"]
def fa2 : List He.Fa := [.glo "choices", .glo "without", .glo "slips", .glo "least_through", .glo "leak", .glo "_law_cell_at", .glo "_law_draws", .glo "_law_best_good", .glo "_law_a_book", .glo "_law_told", .glo "_law_turned", .glo "law", .free "sum", .free "zip", .free "len", .free "abs", .free "range", .free "list", .free "min", .free "max", .free "int", .free "tuple", .free "enumerate", .free "all", .int "MOST_SLIPS" 8]
def fa : List He.Fa := fa1 ++ fa2
end G3
end
/-! G3Base3 -/
section
set_option Elab.async false
set_option linter.all false
set_option maxRecDepth 100000
set_option maxHeartbeats 4000000
/-! G3Base3: the top's facts; built-ins, operators, dicts over G3Base2. -/
namespace G3
open PySem PySem.Spec PyProof.Rows L2
open Evl (Ex fresh_back)
open Rep (rep)

/-! ### what stands at the top -/
def TopF (K : PySem.W.Frag) (mg : Str → Option Value) (x : Str) (st : Stmt) : Prop := ∃ f fd, FnP K x st f fd ∧ mg x = some (.ref f)
structure Top (K : PySem.W.Frag) (mg : Str → Option Value) : Prop where
  says : ∃ h, K.In h ∧ h.Ns mainGlobals mg ∧ He.SaysD fa fn K
theorem Top.fn {K : PySem.W.Frag} {mg : Str → Option Value} (T : Top K mg) (i j : Nat) {x : Str} {st : Stmt} (h : G3.fn[i]? = some (mkD x st) := by rfl) (h2 : fa[j]? = some (.glo x) := by rfl) : TopF K mg x st := by
  obtain ⟨hp, X, G, c⟩ := T.says
  obtain ⟨fd, F⟩ := c.def_ i h
  exact ⟨_, fd, F, He.glo_ok X G (c.fact j h2)⟩
theorem Top.fr {K : PySem.W.Frag} {mg : Str → Option Value} (T : Top K mg) (j : Nat) {x : Str} (h2 : fa[j]? = some (.free x) := by rfl) : mg x = none := by
  obtain ⟨hp, X, G, c⟩ := T.says
  exact He.free_ok X G (c.fact j h2)
section
variable {P : Program} {w : World} {K : PySem.W.Frag} {mg : Str → Option Value} {base : Heap}
/-- a def of the top keeps its promise -/
theorem cal_of {x : Str} {st : Stmt} {N ps : List Str} {k : Nat} {sp : Sp} (F : TopF K mg x st) (S : FnScope N ps (defScope st)) (len : ∀ vs H Q E, sp vs H Q E → vs.length = ps.length)
    (hb : ∀ (dV kV doc pm : Value) (an : Option Addr) (cdv ct : Value) (us : List Value), us.length = ps.length → bindArgs (PySem.W.fnOf x x (defArgs st) (defBody st) (defScope st) .none kV doc pm an cdv ct) ⟨us, []⟩ = pure (ps.zip us))
    (hbody : ∀ (f : Addr) (cdv : Value) (A : Around) (outer : List Env) (s : Shared) (H : Hp) (vs : List V) (Q : VK) (E : XK), Room k (A.deeper (envOfC x (defScope st) s.heap.objs.size f cdv)) → sp vs H Q E →
      ∃ t, PSs (cxOf CX0 P w K mg base N x (defScope st) f cdv A outer s H E).nox (defBody st) t ∧ t { nx := fun _ H' => Q .non H', rt := Q } (start N vs) H) : Cal P w K mg base x (k + 1) ps sp := by
  obtain ⟨f, fd, F, hm⟩ := F
  refine ⟨f, fd, F.ok S len fun cdv A outer s H vs Q E hr h => ?_, hm, F.kp, ?_⟩
  · obtain ⟨t, h1, h2⟩ := hbody f cdv A outer s H vs Q E hr h
    exact ⟨t, h1.nox, h2⟩
  · obtain ⟨oc, od, dV, kV, doc, pm, an, cdv, ct, osl, rfl, lk, hcd, hD, hK⟩ := F.ex
    rcases hD with ⟨_, rfl⟩ | ⟨h, _⟩
    · exact .all (hb .none kV doc pm an cdv ct)
    · exact absurd rfl h
end
theorem bt_sum : bootBuiltins "sum" = some (.builtin "sum") := by decide +kernel
theorem bt_zip : bootBuiltins "zip" = some (.type "zip") := by decide +kernel
theorem bt_len : bootBuiltins "len" = some (.builtin "len") := by decide +kernel
theorem bt_abs : bootBuiltins "abs" = some (.builtin "abs") := by decide +kernel
theorem bt_list : bootBuiltins "list" = some (.type "list") := by decide +kernel
theorem bt_min : bootBuiltins "min" = some (.builtin "min") := by decide +kernel
theorem bt_max : bootBuiltins "max" = some (.builtin "max") := by decide +kernel
theorem bt_int : bootBuiltins "int" = some (.type "int") := by decide +kernel
theorem bt_tuple : bootBuiltins "tuple" = some (.type "tuple") := by decide +kernel
theorem bt_all : bootBuiltins "all" = some (.builtin "all") := by decide +kernel
section
variable {K : PySem.W.Frag} {mg : Str → Option Value} (T : Top K mg)
include T
theorem m_sum : mg "sum" = none := T.fr 42
theorem m_zip : mg "zip" = none := T.fr 43
theorem m_len : mg "len" = none := T.fr 44
theorem m_abs : mg "abs" = none := T.fr 45
theorem m_range : mg "range" = none := T.fr 46
theorem m_list : mg "list" = none := T.fr 47
theorem m_min : mg "min" = none := T.fr 48
theorem m_max : mg "max" = none := T.fr 49
theorem m_int : mg "int" = none := T.fr 50
theorem m_tuple : mg "tuple" = none := T.fr 51
theorem m_enumerate : mg "enumerate" = none := T.fr 52
theorem m_all : mg "all" = none := T.fr 53
end

/-! ### operators -/
/-- // by any divisor but 0 below 2 ^ 9000 -/
def CDivX (_ j : Int) : Prop := j ≠ 0 ∧ j.natAbs.log2 < 9000
theorem op_fdivX {X : Cx} : OpR X (binaryOp .FloorDiv) (rI CDivX fun i j => .int (i.fdiv j)) := opI fun _ _ _ _ _ _ _ hc q => floordiv_int hc.1 q (.inl (PyProof.noPylong_of_log2 hc.2))
def xIsN : R2 := fun x y H Q => y = .non ∧ Q (.bl (decide (x = .non))) H
def xNotN : R2 := fun x y H Q => y = .non ∧ Q (.bl (!decide (x = .non))) H
theorem op_isX {X : Cx} : OpR X (compareOp .Is) xIsN := op_isN
theorem op_notX {X : Cx} : OpR X (compareOp .IsNot) xNotN := op_notN
def xInt1 : List V → Hp → VK → Prop := fun xs H Q => (∃ i, xs = [.int i] ∧ Q (.int i) H) ∨ ∃ k, xs = [.bl k] ∧ Q (.int (if k then 1 else 0)) H
theorem call_intX {X : Cx} : CallR X (.type "int") xInt1 := call_int1
def xAbs : List V → Hp → VK → Prop := fun xs H Q => ∃ i, xs = [.int i] ∧ Q (.int (if i < 0 then -i else i)) H
theorem call_absX {X : Cx} : CallR X (.builtin "abs") xAbs := call_abs
def xMin2 : List V → Hp → VK → Prop := fun xs H Q => ∃ i j, xs = [.int i, .int j] ∧ Q (.int (if j < i then j else i)) H
theorem call_minX {X : Cx} (hc : X.calm = true) : CallR X (.builtin "min") xMin2 := call_min2 hc
def xTupOf (K : PySem.W.Frag) : List V → Hp → VK → Prop := fun xs H Q => ∃ p ys, xs = [.ref p] ∧ ((SqL K H p ys ∧ ∀ l, H l = none → Q (.ref l) (upd H l (.tup ys))) ∨ (SqT K H p ys ∧ Q (.ref p) H))
theorem call_tupX {X : Cx} : CallR X (.type "tuple") (xTupOf X.K) := call_tuple_of
def xIns : V → List V → Hp → VK → Prop := fun x vs H Q => ∃ (l : Addr) (xs : List V) (i : Int) (y : V), x = .ref l ∧ vs = [.int i, y] ∧ H l = some (.lst xs) ∧ xs.length < sizeLine ∧ 0 ≤ i ∧ i < 2 ^ 63 ∧
    Q .non (upd H l (.lst (xs.take i.toNat ++ [y] ++ xs.drop i.toNat)))
theorem mt_insX {X : Cx} : MtM X "list.insert" xIns := mt_insert
theorem call_lenX {X : Cx} : CallR X (.builtin "len") (Evl.rLenS X.K) := call_len_seq
theorem call_listX {X : Cx} : CallR X (.type "list") (Evl.rListS X.K) := call_list_of
/-- data that is never None -/
class NN (α : Type) [Rep α] : Prop where
  nn : ∀ (G : Hp) (v : V) (x : α), rep G v x → v ≠ .non
instance : NN Int := ⟨fun _ _ _ h e => by cases h; cases e⟩
instance : NN Nat := ⟨fun _ _ _ h e => by cases h; cases e⟩
instance {α : Type} [Rep α] : NN (List α) := ⟨fun _ _ _ h e => by obtain ⟨a, vs, rfl, _⟩ := h; cases e⟩
instance {α : Type} [Rep α] : NN (Tup α) := ⟨fun _ _ _ h e => by obtain ⟨a, vs, rfl, _⟩ := h; cases e⟩
instance {α β : Type} [Rep α] [Rep β] : NN (α × β) := ⟨fun _ _ _ h e => by obtain ⟨a, u, w, rfl, _⟩ := h; cases e⟩
instance {α β γ : Type} [Rep α] [Rep β] [Rep γ] : NN (T3 α β γ) := ⟨fun _ _ _ h e => by obtain ⟨a, u, w, z, rfl, _⟩ := h; cases e⟩
section
variable {α β γ : Type} [Rep α] [Rep β] [Rep γ] {K : PySem.W.Frag} {σ : L2.St} {G G0 H H0 : Hp} {ta tb tc te tl : TE} {t u : TT} {x : α} {y : β} {v : V} {xs ys : List α}
theorem er_isN {o : Option α} [NN α] (h : EvR te σ G H o) : EvR (tOp xIsN te (tC .non)) σ G H o.isNone := er_op (y := ()) h (er_c rfl) fun G1 H1 v w g rv rw' Q q => by
  cases rw'
  refine ⟨rfl, ?_⟩
  rw [repO_non (fun G v x => NN.nn G v x) rv]
  exact q _ G1 H1 (Gro.refl g.sub) rfl
theorem er_notN {o : Option α} [NN α] (h : EvR te σ G H o) : EvR (tOp xNotN te (tC .non)) σ G H o.isSome := er_op (y := ()) h (er_c rfl) fun G1 H1 v w g rv rw' Q q => by
  cases rw'
  refine ⟨rfl, ?_⟩
  rw [repO_non (fun G v x => NN.nn G v x) rv]
  have e : (!o.isNone) = o.isSome := by cases o <;> rfl
  rw [e]
  exact q _ G1 H1 (Gro.refl g.sub) rfl
/-- len -/
theorem er_len (h : EvR te σ G H xs) : EvR (tCB (Evl.rLenS K) (tCons te tNil)) σ G H xs.length := fun G1 H1 g Q q => h G1 H1 g _ fun v G2 H2 g2 r => by
  obtain ⟨a, vs, rfl, e1, e2⟩ := r
  refine ⟨a, vs, rfl, .inl (SqL.of (g2.sub _ _ e1)), ?_⟩
  rw [e2.length]
  exact q _ G2 H2 g2 rfl
theorem er_lenT {xs : Tup α} (h : EvR te σ G H xs) : EvR (tCB (Evl.rLenS K) (tCons te tNil)) σ G H xs.l.length := fun G1 H1 g Q q => h G1 H1 g _ fun v G2 H2 g2 r => by
  obtain ⟨a, vs, rfl, e1, e2⟩ := r
  refine ⟨a, vs, rfl, .inr (SqT.of (g2.sub _ _ e1)), ?_⟩
  rw [e2.length]
  exact q _ G2 H2 g2 rfl
theorem er_lenM {l : Addr} (m : Ml H0 G H l xs) (h : EvV te σ G H (.ref l)) : EvR (tCB (Evl.rLenS K) (tCons te tNil)) σ G H xs.length := fun G1 H1 g Q q => h G1 H1 g _ fun G2 H2 g2 => by
  obtain ⟨vs, e1, e2⟩ := m.ex
  refine ⟨l, vs, rfl, .inl (SqL.of ((g.trans g2).h _ _ e1)), ?_⟩
  rw [e2.length]
  exact q _ G2 H2 g2 rfl
/-- list(range(n)), list(xs), tuple(xs) -/
theorem en_listRg {n : Nat} (h : EvR te σ G H n) (hn : n ≤ 100000) : EvN (tLstRg (tRg1 te)) σ G H (List.range n) := fun G1 H1 g Q q => h G1 H1 g _ fun v G2 H2 g2 r => by
  cases r
  refine ⟨(n : Int), rfl, RgOk.of_le (by omega) (by omega) (by omega) (by omega), fun p hp => ?_⟩
  refine q p _ G2 _ (g2.trans (Gro.fresh g2.sub hp)) (fresh_back g2.h hp) (none_sub g2.sub hp) upd_same ?_
  have e : rgV 0 (n : Int) = (List.range n).map fun (i : Nat) => V.int (i : Int) := by
    unfold rgV
    rw [show ((n : Int) - 0).toNat = n by omega]
    apply List.map_congr_left
    intro i _
    rw [Int.zero_add]
  rw [e]
  exact repL_nats G2 _
theorem en_list (h : EvR te σ G H xs) : EvN (tCB (Evl.rListS K) (tCons te tNil)) σ G H xs := fun G1 H1 g Q q => h G1 H1 g _ fun v G2 H2 g2 r => by
  obtain ⟨a, vs, rfl, e1, e2⟩ := r
  exact ⟨a, vs, rfl, .inl (SqL.of (g2.sub _ _ e1)), fun l hl => q l vs G2 _ (g2.trans (Gro.fresh g2.sub hl)) (fresh_back g2.h hl) (none_sub g2.sub hl) upd_same e2⟩
theorem er_tupOf (h : EvR te σ G H xs) : EvR (tCB (xTupOf K) (tCons te tNil)) σ G H (Tup.mk xs) := fun G1 H1 g Q q => h G1 H1 g _ fun v G2 H2 g2 r => by
  obtain ⟨a, vs, rfl, e1, e2⟩ := r
  exact ⟨a, vs, rfl, .inl ⟨SqL.of (g2.sub _ _ e1), fun p hp => q _ (upd G2 p (.tup vs)) _ (g2.trans (Gro.add g2.sub hp)) ⟨p, vs, rfl, upd_same, e2.mono (Gro.add (o := .tup vs) g2.sub hp).g⟩⟩⟩
theorem flat_rep (v0 : V) : ∀ n : Nat, (List.replicate n [v0]).flatten = List.replicate n v0
  | 0 => rfl
  | n + 1 => by rw [List.replicate_succ, List.replicate_succ, List.flatten_cons, flat_rep v0 n]; rfl
/-- [x] * n -/
theorem en_rep {n : Nat} (h : EvR ta σ G H x) (hb : EvR tb σ G H n) (hn : n ≤ 100000) : EvN (tOp rRep (tLst (tCons ta tNil)) tb) σ G H (List.replicate n x) := fun G1 H1 g Q q =>
  en_lst (el_cons h el_nil) (by simp) G1 H1 g _ fun p vs G2 H2 g2 hp hG h2 hR => hb G2 H2 (g.trans g2) _ fun v G3 H3 g3 r => by
    cases r
    cases hR with
    | cons r0 rN =>
      cases rN
      rename_i v0
      refine ⟨p, (n : Int), [v0], rfl, rfl, g3.h _ _ h2, by omega, by omega, ?_, fun l hl => ?_⟩
      · rw [Int.toNat_natCast, List.length_singleton, Nat.one_mul]; exact Nat.le_trans hn (by decide)
      · have e : (List.replicate ((n : Int).toNat) [v0]).flatten = List.replicate n v0 := by
          rw [Int.toNat_natCast]
          exact flat_rep v0 n
        rw [e]
        exact q l _ G3 _ ((g2.trans g3).trans (Gro.fresh g3.sub hl)) (fresh_back (g2.h.trans g3.h) hl) (none_sub g3.sub hl) upd_same ((RepL.rep n r0).mono g3.g)
/-- xs + ys -/
theorem en_cat (h : EvR ta σ G H xs) (hb : EvR tb σ G H ys) (hz : xs.length + ys.length ≤ 100000) : EvN (tOp rCat ta tb) σ G H (xs ++ ys) := fun G1 H1 g Q q =>
  h G1 H1 g _ fun v G2 H2 g2 r => hb G2 H2 (g.trans g2) _ fun w G3 H3 g3 r' => by
    obtain ⟨a, vs, rfl, e1, e2⟩ := r
    obtain ⟨b, ws, rfl, f1, f2⟩ := r'
    refine ⟨a, b, vs, ws, rfl, rfl, g3.sub _ _ (g3.g _ _ e1), g3.sub _ _ f1, ?_, fun p hp => ?_⟩
    · rw [e2.length, f2.length]; exact Nat.le_trans hz (by decide)
    · exact q p _ G3 _ ((g2.trans g3).trans (Gro.fresh g3.sub hp)) (fresh_back (g2.h.trans g3.h) hp) (none_sub g3.sub hp) upd_same ((e2.mono g3.g).append f2)
/-- abs, int, min of two, sum, max, min, all -/
theorem er_abs {i : Int} (h : EvR te σ G H i) : EvR (tCB xAbs (tCons te tNil)) σ G H (i.natAbs : Int) := fun G1 H1 g Q q => h G1 H1 g _ fun v G2 H2 g2 r => by
  cases r
  refine ⟨i, rfl, q _ G2 H2 g2 ?_⟩
  show V.int _ = V.int _
  congr 1
  split <;> omega
theorem er_intB {b : Bool} (h : EvR te σ G H b) : EvR (tCB xInt1 (tCons te tNil)) σ G H (if b then 1 else 0 : Int) := fun G1 H1 g Q q => h G1 H1 g _ fun v G2 H2 g2 r => by
  cases r
  exact .inr ⟨b, rfl, q _ G2 H2 g2 rfl⟩
theorem er_min2 {i j : Int} (h : EvR ta σ G H i) (h2 : EvR tb σ G H j) : EvR (tCB xMin2 (tCons ta (tCons tb tNil))) σ G H (if j < i then j else i) := fun G1 H1 g Q q => ea_2 h h2 G1 H1 g _ fun vs G2 H2 g2 hR => by
  obtain ⟨v, w, rfl, r1, r2⟩ := hR
  cases r1; cases r2
  exact ⟨i, j, rfl, q _ G2 H2 g2 rfl⟩
theorem er_sum {ns : List Int} (h : EvR te σ G H ns) : EvR (tCB (rSum K) (tCons te tNil)) σ G H ns.sum := fun G1 H1 g Q q => h G1 H1 g _ fun v G2 H2 g2 r => by
  obtain ⟨a, vs, rfl, e1, e2⟩ := r
  rw [e2.ints] at e1
  exact ⟨a, ns, rfl, SqL.of (g2.sub _ _ e1), q _ G2 H2 g2 rfl⟩
theorem er_all {bs : List Bool} (h : EvR te σ G H bs) : EvR (tCB (rAll K) (tCons te tNil)) σ G H (bs.all id) := fun G1 H1 g Q q => h G1 H1 g _ fun v G2 H2 g2 r => by
  obtain ⟨a, vs, rfl, e1, e2⟩ := r
  rw [e2.bools] at e1
  exact ⟨a, bs, rfl, SqL.of (g2.sub _ _ e1), q _ G2 H2 g2 rfl⟩
/-- the mirror of max, min of a list -/
def maxI : List Int → Option Int
  | [] => none
  | x :: r => some (r.foldl (fun a b => if a < b then b else a) x)
def minI : List Int → Option Int
  | [] => none
  | x :: r => some (r.foldl (fun a b => if b < a then b else a) x)
theorem maxI_le : ∀ (r : List Int) (x : Int), (∀ y ∈ x :: r, y ≤ r.foldl (fun a b => if a < b then b else a) x) ∧ r.foldl (fun a b => if a < b then b else a) x ∈ x :: r
  | [], x => by simp
  | z :: r, x => by
    obtain ⟨h1, h2⟩ := maxI_le r (if x < z then z else x)
    show (∀ y ∈ x :: z :: r, y ≤ r.foldl _ (if x < z then z else x)) ∧ r.foldl _ (if x < z then z else x) ∈ x :: z :: r
    constructor
    · intro y hy
      have h0 := h1 _ (List.mem_cons_self ..)
      have h3 : ∀ y ∈ r, _ := fun y hy => h1 y (List.mem_cons_of_mem _ hy)
      clear h1 h2
      generalize r.foldl _ _ = M at h0 h3 ⊢
      rcases List.mem_cons.mp hy with rfl | hy
      · split at h0 <;> omega
      · rcases List.mem_cons.mp hy with rfl | hy
        · split at h0 <;> omega
        · exact h3 y hy
    · rcases List.mem_cons.mp h2 with e | e
      · rw [e]; split <;> simp
      · exact List.mem_cons_of_mem _ (List.mem_cons_of_mem _ e)
theorem minI_le : ∀ (r : List Int) (x : Int), (∀ y ∈ x :: r, r.foldl (fun a b => if b < a then b else a) x ≤ y) ∧ r.foldl (fun a b => if b < a then b else a) x ∈ x :: r
  | [], x => by simp
  | z :: r, x => by
    obtain ⟨h1, h2⟩ := minI_le r (if z < x then z else x)
    show (∀ y ∈ x :: z :: r, r.foldl _ (if z < x then z else x) ≤ y) ∧ r.foldl _ (if z < x then z else x) ∈ x :: z :: r
    constructor
    · intro y hy
      have h0 := h1 _ (List.mem_cons_self ..)
      have h3 : ∀ y ∈ r, _ := fun y hy => h1 y (List.mem_cons_of_mem _ hy)
      clear h1 h2
      generalize r.foldl _ _ = M at h0 h3 ⊢
      rcases List.mem_cons.mp hy with rfl | hy
      · split at h0 <;> omega
      · rcases List.mem_cons.mp hy with rfl | hy
        · split at h0 <;> omega
        · exact h3 y hy
    · rcases List.mem_cons.mp h2 with e | e
      · rw [e]; split <;> simp
      · exact List.mem_cons_of_mem _ (List.mem_cons_of_mem _ e)
theorem er_max {ns : List Int} {m : Int} (h : EvR te σ G H ns) (e : maxI ns = some m) : EvR (tCB (rMax K) (tCons te tNil)) σ G H m := fun G1 H1 g Q q => h G1 H1 g _ fun v G2 H2 g2 r => by
  obtain ⟨a, vs, rfl, e1, e2⟩ := r
  rw [e2.ints] at e1
  cases ns with
  | nil => cases e
  | cons x r =>
    cases e
    obtain ⟨h1, h2⟩ := maxI_le r x
    refine ⟨a, x :: r, rfl, SqL.of (g2.sub _ _ e1), Nat.succ_pos _, fun m hm hle => q _ G2 H2 g2 ?_⟩
    show V.int _ = V.int _
    have a1 := h1 m hm
    have a2 := hle _ h2
    congr 1; omega
theorem er_min {ns : List Int} {m : Int} (h : EvR te σ G H ns) (e : minI ns = some m) : EvR (tCB (rMin K) (tCons te tNil)) σ G H m := fun G1 H1 g Q q => h G1 H1 g _ fun v G2 H2 g2 r => by
  obtain ⟨a, vs, rfl, e1, e2⟩ := r
  rw [e2.ints] at e1
  cases ns with
  | nil => cases e
  | cons x r =>
    cases e
    obtain ⟨h1, h2⟩ := minI_le r x
    refine ⟨a, x :: r, rfl, SqL.of (g2.sub _ _ e1), Nat.succ_pos _, fun m hm hle => q _ G2 H2 g2 ?_⟩
    show V.int _ = V.int _
    have a1 := h1 m hm
    have a2 := hle _ h2
    congr 1; omega
end
end G3
namespace G3
open PySem PySem.Spec PyProof.Rows L2
theorem m_MOST_SLIPS {K : PySem.W.Frag} {mg : Str → Option Value} (T : Top K mg) : ∃ t, mg "MOST_SLIPS" = some (.int 8 t) := by
  obtain ⟨hp, X, G, c⟩ := T.says
  exact He.int_ok X G (c.fact 54 (f := .int "MOST_SLIPS" 8) rfl)
section
variable {X : Cx} (K : PySem.W.Frag)
theorem k_ixL (h : X.K = K := by rfl) : IxR X (rIxL K) := h ▸ ix_list
theorem k_ixT (h : X.K = K := by rfl) : IxR X (rIxT K) := h ▸ ix_tup
theorem k_in (h : X.K = K := by rfl) : OpR X (compareOp .In) (rIn K false) := h ▸ op_in_seq
theorem k_notIn (h : X.K = K := by rfl) : OpR X (compareOp .NotIn) (rIn K true) := h ▸ op_notIn_seq
theorem k_slL (h : X.K = K := by rfl) : SlR X (rSlL K) := h ▸ sl_list
theorem k_slT (h : X.K = K := by rfl) : SlR X (rSlA K) := h ▸ sl_tupA
theorem k_len (h : X.K = K := by rfl) : CallR X (.builtin "len") (Evl.rLenS K) := h ▸ call_lenX
theorem k_list (h : X.K = K := by rfl) : CallR X (.type "list") (Evl.rListS K) := h ▸ call_listX
theorem k_tuple (h : X.K = K := by rfl) : CallR X (.type "tuple") (xTupOf K) := h ▸ call_tupX
theorem k_sum (hc : X.calm = true) (h : X.K = K := by rfl) : CallR X (.builtin "sum") (rSum K) := h ▸ cr_sum hc
theorem k_all (hc : X.calm = true) (h : X.K = K := by rfl) : CallR X (.builtin "all") (rAll K) := h ▸ cr_all hc
theorem k_max (hc : X.calm = true) (h : X.K = K := by rfl) : CallR X (.builtin "max") (rMax K) := h ▸ cr_max hc
theorem k_min (hc : X.calm = true) (h : X.K = K := by rfl) : CallR X (.builtin "min") (rMin K) := h ▸ cr_min hc
theorem k_eqD (hu : X.A.units + 64 < cLine) (h : X.K = K := by rfl) : OpR X (compareOp .Eq) (rEqD K) := h ▸ op_eqD hu
theorem k_neD (hu : X.A.units + 64 < cLine) (h : X.K = K := by rfl) : OpR X (compareOp .NotEq) (rNeD K) := h ▸ op_neD hu
theorem k_pgT (n : Nat) {es : List Expr} {k : Nat} {t : TGs} {pos : Pos} (hc : X.calm = true) (h : PGs X es t) (h' : X.K = K := by rfl) (hn : (assignEach es X.env).length = n := by rfl) (hst : (assignEach es X.env).findIdx? (·.1) = none := by rfl) :
    PG X (.Tuple es k pos) (gTup K n t) := h' ▸ pg_tup hc h hn hst
theorem k_piL {tg l : Expr} {tl : TE} (hl : PE X l tl) (h : X.K = K := by rfl) : PI X tg l (iList K tl) := h ▸ pi_list hl
end
end G3
end
/-! G3Mir -/
section
set_option Elab.async false
set_option linter.all false
set_option maxRecDepth 100000
set_option maxHeartbeats 4000000
/-! G3Mir: the mirror of the defs: plain functions into Option (none: it would raise, not end, or a number would be too great to tell). -/
namespace G3
open L2 (Key)
abbrev Fr := Int × Int
abbrev Costs := List (List Int)
abbrev Buy := Tup Int × Tup Int
abbrev Book := List Buy
/-- anything: data that nobody asks about -/
structure AnyD where
  u : Unit := ()
/-- a list with one more behind -/
def snocM {α : Type} (l : List α) (x : α) : Option (List α) := if l.length ≤ 1000 then some (l ++ [x]) else none
/-! ### fractions -/
def mulM (x y : Int) : Option Int := if x.natAbs.log2 + y.natAbs.log2 < 1000000 then some (x * y) else none
def divisorM (a b : Int) : Option Int := some (Int.gcd a b)
/-- the divisor of a fraction's top and bottom, with the bottom's sign -/
def sgcd (t b : Int) : Int := if b < 0 then 0 - (Int.gcd t b : Int) else (Int.gcd t b : Int)
def frac (t b : Int) : Fr := (t.fdiv (sgcd t b), b.fdiv (sgcd t b))
def fractionM (t b : Int) : Option Fr := if b ≠ 0 ∧ b.natAbs.log2 < 9000 then some (frac t b) else none
def plusM (a b : Fr) : Option Fr := (mulM a.1 b.2).bind fun x => (mulM b.1 a.2).bind fun y => (mulM a.2 b.2).bind fun z => fractionM (x + y) z
def minusM (a b : Fr) : Option Fr := (mulM a.1 b.2).bind fun x => (mulM b.1 a.2).bind fun y => (mulM a.2 b.2).bind fun z => fractionM (x - y) z
def timesM (a : Fr) (n : Int) : Option Fr := (mulM a.1 n).bind fun x => fractionM x a.2
def overM (a : Fr) (n : Int) : Option Fr := (mulM a.2 n).bind fun z => fractionM a.1 z
def isLessM (a b : Fr) : Option Bool := (mulM a.1 b.2).bind fun x => (mulM b.1 a.2).bind fun y => some (decide (x < y))
def lesserM (a b : Fr) : Option Fr := (isLessM b a).bind fun c => some (if c then b else a)
def greaterM (a b : Fr) : Option Fr := (isLessM a b).bind fun c => some (if c then b else a)
/-! ### books -/
def okInts (l : List Int) : Bool := decide (l.length ≤ 1000) && l.all fun x => decide (x.natAbs < 18446744073709551616)
def costAt (p a : List Int) : Int := ((p.zip a).map fun x => x.1 * x.2).sum
def costAtM (p a : Tup Int) : Option Int := if (okInts p.l && okInts a.l) = true then some (costAt p.l a.l) else none
def okBook (b : Book) : Bool := decide (b.length ≤ 1000) && b.all fun x => okInts x.1.l && okInts x.2.l
def costs (b : Book) : Costs := b.map fun x => b.map fun y => costAt x.1.l y.2.l
def costsM (b : Book) : Option Costs := if okBook b = true then some (costs b) else none
def needNumberM (b : Book) (k : Nat) : Option Unit := if k < b.length then some () else none
def needFewM (b : Book) : Option Unit := if b.length ≤ 8 then some () else none
def idx2 {α : Type} (m : List (List α)) (i j : Nat) : Option α := (m[i]?).bind fun r => r[j]?
def shareOfM (c : Costs) (i j : Nat) : Option Fr := (idx2 c i j).bind fun x => (idx2 c i i).bind fun y => fractionM x y
/-! ### ways -/
def hasN {α : Type} (d : List (Nat × α)) (k : Nat) : Bool := d.any fun p => p.1 == k
def lookN {α : Type} (d : List (Nat × α)) (k : Nat) : Option α := (d.find? fun p => p.1 == k).map (·.2)
def putN {α : Type} (d : List (Nat × α)) (k : Nat) (v : α) : List (Nat × α) := if hasN d k then d.map fun p => if p.1 = k then (p.1, v) else p else d ++ [(k, v)]
abbrev Beh := List (Nat × Option Nat)
def bfsTurn (ways : List (List Bool)) (here : Nat) (s : Beh × List Nat) (there : Nat) : Option (Beh × List Nat) :=
  (idx2 ways here there).bind fun b => if (b && !hasN s.1 there) = true then (if s.1.length ≤ 1000 then (snocM s.2 there).bind fun q => some (putN s.1 there (some here), q) else none) else some s
def bfsStep (ways : List (List Bool)) (s : Beh × List Nat) : Option (Beh × List Nat) := match s.2 with
  | [] => none
  | here :: rest => foldO (bfsTurn ways here) (s.1, rest) (List.range ways.length)
def bfsGo (other : Nat) (s : Beh × List Nat) : Option Bool := some (!s.2.isEmpty && !hasN s.1 other)
def backGo (one : Nat) (told : List Nat) : Option Bool := (told[0]?).bind fun h => some (!decide (h = one))
def backStep (beh : Beh) (told : List Nat) : Option (List Nat) := (told[0]?).bind fun h => (lookN beh h).bind fun p => p.bind fun q => if told.length ≤ 1000 then some (q :: told) else none
def wayM (ways : List (List Bool)) (one other : Nat) : Option (Option (List Nat)) :=
  if ways.length ≤ 1000 then
    (whileO (bfsGo other) (bfsStep ways) (ways.length + 2) ([(one, none)], [one])).bind fun s =>
      if hasN s.1 other = true then (whileO (backGo one) (backStep s.1) (ways.length + 2) [other]).bind fun told => some (some told) else some none
  else none
def owCell (c : Costs) (k j : Nat) : Option (Option Bool) := if j ≠ k then (idx2 c k j).bind fun x => (idx2 c k k).bind fun y => some (some (decide (x ≤ y))) else some (some false)
def owRow (c : Costs) (k : Nat) : Option (List Bool) := compO (owCell c k) (List.range c.length)
def openWaysM (c : Costs) : Option (List (List Bool)) := if c.length ≤ 1000 then foldO (fun told k => (owRow c k).bind fun r => snocM told r) [] (List.range c.length) else none
def brTurn (c : Costs) (ways : List (List Bool)) (k : Nat) (_ : Unit) (j : Nat) : Option (Out (List Nat) Unit) :=
  (idx2 c k j).bind fun x => (idx2 c k k).bind fun y => if x < y then (wayM ways j k).bind fun w => some (match w with
    | some p => .ret p
    | none => .go ()) else some (.go ())
def barringM (c : Costs) (ways : List (List Bool)) : Option (Option (List Nat)) := if c.length ≤ 1000 then
    (foldR (fun _ k => foldR (brTurn c ways k) () (List.range c.length)) () (List.range c.length)).bind fun o => some (match o with
      | .ret p => some p
      | .go _ => none)
  else none
def tcAbove (ways : List (List Bool)) (k : Nat) (j : Nat) : Option (Option Nat) := (wayM ways j k).bind fun w => some (if w.isSome then some j else none)
def tcAll (ways : List (List Bool)) (k : Nat) (j : Nat) : Option (Option Bool) := (wayM ways k j).bind fun w => some (some w.isSome)
def tcTurn (ways : List (List Bool)) (left : List Nat) (_ : Unit) (k : Nat) : Option (Out (List Nat) Unit) :=
  (compO (tcAbove ways k) left).bind fun above => (compO (tcAll ways k) above).bind fun bs => some (if bs.all id then .ret above else .go ())
def topClassM (ways : List (List Bool)) (left : List Nat) : Option (List Nat) := if left.length ≤ 1000 then
    (foldR (tcTurn ways left) () left).bind fun o => some (match o with
      | .ret a => a
      | .go _ => [])
  else none
/-! ### the wish of any kind -/
abbrev Dic := List (Nat × Fr)
def awThere (c : Costs) (ws vs : Dic) (j k : Nat) : Option Fr :=
  (lookN ws j).bind fun wj => (lookN vs j).bind fun vj => (idx2 c j k).bind fun x => (idx2 c j j).bind fun y => (timesM vj (x - y)).bind fun t => plusM wj t
def awWorth (c : Costs) (ws vs : Dic) (j : Nat) (worth : Fr) (k : Nat) : Option Fr :=
  (awThere c ws vs j k).bind fun th => (lookN ws j).bind fun wj => (lesserM th wj).bind fun l => lesserM worth l
def awWeight (c : Costs) (ws : Dic) (worth : Fr) (j : Nat) (weight : Fr) (k : Nat) : Option Fr :=
  (lookN ws j).bind fun wj => (minusM wj worth).bind fun m => (idx2 c k j).bind fun x => (idx2 c k k).bind fun y => (overM m (x - y)).bind fun o => greaterM weight o
structure Aw where
  ws : Dic
  vs : Dic
  left : List Nat
def awGo (s : Aw) : Option Bool := some (!s.left.isEmpty)
def awPut (worth weight : Fr) (p : Dic × Dic) (k : Nat) : Option (Dic × Dic) := if p.1.length ≤ 1000 ∧ p.2.length ≤ 1000 then some (putN p.1 k worth, putN p.2 k weight) else none
def awStep (c : Costs) (ways : List (List Bool)) (s : Aw) : Option Aw :=
  (topClassM ways s.left).bind fun level =>
  (foldO (fun worth j => foldO (awWorth c s.ws s.vs j) worth level) ((1, 1) : Fr) (s.ws.map (·.1))).bind fun worth =>
  (foldO (fun weight j => foldO (awWeight c s.ws worth j) weight level) ((1, 1) : Fr) (s.ws.map (·.1))).bind fun weight =>
  (foldO (awPut worth weight) (s.ws, s.vs) level).bind fun p =>
  some ⟨p.1, p.2, s.left.filter fun k => !decide (k ∈ level)⟩
def anyWishM (c : Costs) (ways : List (List Bool)) : Option (List Fr × List Fr) := if c.length ≤ 1000 then
    (whileO awGo (awStep c ways) (c.length + 2) ⟨[], [], List.range c.length⟩).bind fun s =>
    (compO (fun k => (lookN s.ws k).bind fun x => some (some x)) (List.range c.length)).bind fun a =>
    (compO (fun k => (lookN s.vs k).bind fun x => some (some x)) (List.range c.length)).bind fun b => some (a, b)
  else none
def toldAnyM (c : Costs) : Option (PySem.Str × AnyD) :=
  (openWaysM c).bind fun ways => (barringM c ways).bind fun f => if f.isSome = true then some (PySem.Str.ofString "round", {}) else (anyWishM c ways).bind fun _ => some (PySem.Str.ofString "wish", {})
/-! ### wishes of the other kinds -/
def stepWorthM (kind : PySem.Str) (c : Costs) (w : List Fr) (i j : Nat) : Option Fr :=
  if kind = PySem.Str.ofString "even" then (w[i]?).bind fun x => (idx2 c i j).bind fun y => (idx2 c i i).bind fun z => plusM x (y - z, 1)
  else (w[i]?).bind fun x => (idx2 c i j).bind fun y => (timesM x y).bind fun t => (idx2 c i i).bind fun z => overM t z
structure Lo where
  last : Option Nat
  w : List Fr
  b : List (Nat × Nat)
def loTurn (kind : PySem.Str) (c : Costs) (one : Nat) (s : Lo) (other : Nat) : Option Lo :=
  (stepWorthM kind c s.w one other).bind fun there => (s.w[other]?).bind fun x => (isLessM there x).bind fun k =>
    if k = true then (if s.b.length ≤ 1000 then some ⟨some other, s.w.set other there, putN s.b other one⟩ else none) else some s
def loweredM (kind : PySem.Str) (c : Costs) (w : List Fr) (b : List (Nat × Nat)) : Option Lo := if c.length ≤ 1000 then
    foldO (fun s one => foldO (loTurn kind c one) s (List.range c.length)) ⟨none, w, b⟩ (List.range c.length)
  else none
def rbStep (b : List (Nat × Nat)) (here : Nat) (_ : Nat) : Option Nat := lookN b here
def rbGo (b : List (Nat × Nat)) (here : Nat) (told : List Nat) : Option Bool := (told[0]?).bind fun h => (lookN b h).bind fun q => some (!decide (q = here))
def rbBack (b : List (Nat × Nat)) (told : List Nat) : Option (List Nat) := (told[0]?).bind fun h => (lookN b h).bind fun q => if told.length ≤ 1000 then some (q :: told) else none
def roundBackM (b : List (Nat × Nat)) (last many : Nat) : Option (List Nat) := if many ≤ 1000 then
    (foldO (rbStep b) last (List.range many)).bind fun here => whileO (rbGo b here) (rbBack b) (many + 2) [here]
  else none
structure Tb where
  w : List Fr
  b : List (Nat × Nat)
  last : Option Nat
def tbTurn (kind : PySem.Str) (c : Costs) (many : Nat) (s : Tb) (_ : Nat) : Option (Out AnyD Tb) :=
  (loweredM kind c s.w s.b).bind fun l => match l.last with
    | none => if kind = PySem.Str.ofString "scaled" then (compO (fun k => (l.w[k]?).bind fun x => (idx2 c k k).bind fun y => (overM x y).bind fun z => some (some z)) (List.range many)).bind fun _ => some (.ret {}) else some (.ret {})
    | some k => some (.go ⟨l.w, l.b, some k⟩)
def toldC (c : Costs) (many : Nat) (kind : PySem.Str) : Option (PySem.Str × AnyD) := if kind = PySem.Str.ofString "any" then toldAnyM c else if many ≤ 1000 then
    (foldR (tbTurn kind c many) ⟨List.replicate many (1, 1), [], none⟩ (List.range many)).bind fun o => match o with
      | .ret _ => some (PySem.Str.ofString "wish", {})
      | .go s => s.last.bind fun l => (roundBackM s.b l many).bind fun _ => some (PySem.Str.ofString "round", {})
  else none
def toldByM (b : Book) (kind : PySem.Str) : Option (PySem.Str × AnyD) := (costsM b).bind fun c => toldC c b.length kind
def hasWishM (b : Book) (kind : PySem.Str) : Option Bool := (toldByM b kind).bind fun t => some (decide (t.1 = PySem.Str.ofString "wish"))
/-! ### the dearest round -/
def wkSome (c : Costs) (prev : List (Option Int)) (there : Nat) (acc : List Int) (one : Nat) : Option (List Int) :=
  if one ≠ there then (prev[one]?).bind fun p => match p with
    | none => some acc
    | some x => (idx2 c one there).bind fun y => (idx2 c one one).bind fun z => snocM acc (x + y - z)
  else some acc
def wkCell (c : Costs) (many : Nat) (prev : List (Option Int)) (row : List (Option Int)) (there : Nat) : Option (List (Option Int)) :=
  (foldO (wkSome c prev there) [] (List.range many)).bind fun l => snocM row (minI l)
def wkTurn (c : Costs) (many : Nat) (told : List (List (Option Int))) (_ : Nat) : Option (List (List (Option Int))) :=
  (told.getLast?).bind fun prev => (foldO (wkCell c many prev) [] (List.range many)).bind fun row => snocM told row
def walksM (c : Costs) : Option (List (List (Option Int))) := if 1 ≤ c.length ∧ c.length ≤ 1000 then
    foldO (wkTurn c c.length) [some 0 :: List.replicate (c.length - 1) none] (List.range c.length)
  else none
def lmWorst (told : List (List (Option Int))) (many there : Nat) (dn : Int) (worst : Option Fr) (k : Nat) : Option (Option Fr) :=
  (idx2 told k there).bind fun p => match p with
    | none => some worst
    | some dk => (fractionM (dn - dk) ((many : Int) - (k : Int))).bind fun here => match worst with
      | none => some (some here)
      | some x => (isLessM x here).bind fun l => some (if l then some here else some x)
def lmTurn (told : List (List (Option Int))) (many : Nat) (best : Option Fr) (there : Nat) : Option (Option Fr) :=
  (idx2 told many there).bind fun p => match p with
    | none => some best
    | some dn => (foldO (lmWorst told many there dn) none (List.range many)).bind fun worst => match best with
      | none => some worst
      | some x => worst.bind fun y => (isLessM y x).bind fun l => some (if l then some y else some x)
def leastMeanM (c : Costs) : Option (Option Fr) := if c.length ≤ 1000 then
    (walksM c).bind fun told => foldO (lmTurn told c.length) none (List.range c.length)
  else none
def liThere (c : Costs) (mean : Fr) (w : List Fr) (one other : Nat) : Option Fr :=
  (w[one]?).bind fun x => (idx2 c one other).bind fun y => (idx2 c one one).bind fun z => (plusM x (y - z, 1)).bind fun t => minusM t mean
def liTurn (c : Costs) (mean : Fr) (one : Nat) (w : List Fr) (other : Nat) : Option (List Fr) :=
  (liThere c mean w one other).bind fun there => if one ≠ other then (w[other]?).bind fun x => (isLessM there x).bind fun l => some (if l then w.set other there else w) else some w
def liftedM (c : Costs) (mean : Fr) : Option (List Fr) := if c.length ≤ 1000 then
    foldO (fun w _ => foldO (fun w one => foldO (liTurn c mean one) w (List.range c.length)) w (List.range c.length)) (List.replicate c.length (0, 1)) (List.range c.length)
  else none
def deCell (c : Costs) (mean : Fr) (w : List Fr) (one : Nat) (row : List Bool) (other : Nat) : Option (List Bool) :=
  (liThere c mean w one other).bind fun there => if one ≠ other then (w[other]?).bind fun x => snocM row (decide (there = x)) else snocM row false
def deRow (c : Costs) (mean : Fr) (w : List Fr) (many : Nat) (ways : List (List Bool)) (one : Nat) : Option (List (List Bool)) :=
  (foldO (deCell c mean w one) [] (List.range many)).bind fun row => snocM ways row
def deTurn (ways : List (List Bool)) (one : Nat) (_ : Unit) (other : Nat) : Option (Out (List Nat) Unit) :=
  (idx2 ways one other).bind fun b => if b = true then (wayM ways other one).bind fun w => some (match w with
    | some p => .ret p
    | none => .go ()) else some (.go ())
def dearC (c : Costs) (many : Nat) : Option (T3 Fr (List Nat) (List Fr)) :=
  (leastMeanM c).bind fun m => m.bind fun mean => (liftedM c mean).bind fun w => (foldO (deRow c mean w many) [] (List.range many)).bind fun ways =>
    (foldR (fun _ one => foldR (deTurn ways one) () (List.range many)) () (List.range many)).bind fun o => match o with
      | .ret p => (overM mean (0 - 1)).bind fun x => some ⟨x, p, w⟩
      | .go _ => none
def dearestM (b : Book) : Option (T3 Fr (List Nat) (List Fr)) := if 2 ≤ b.length ∧ b.length ≤ 1000 then (costsM b).bind fun c => dearC c b.length else none
/-! ### who stands no lower; slips; the leak -/
def standM (b : Book) (k : Nat) : Option (List Nat) := (needNumberM b k).bind fun _ => (costsM b).bind fun c => (openWaysM c).bind fun ways =>
  if b.length ≤ 1000 then compO (fun j => (wayM ways j k).bind fun w => some (if w.isSome then some j else none)) (List.range b.length) else none
def chExt (some_ : List Nat) (number : Nat) : Option (Option (List Nat)) := match some_.getLast? with
  | none => some (some (some_ ++ [number]))
  | some l => some (if l < number then some (some_ ++ [number]) else none)
def chTurn (many : Nat) (more : List (List Nat)) (some_ : List Nat) : Option (List (List Nat)) := if some_.length ≤ 1000 then
  (compO (chExt some_) (List.range many)).bind fun x => if more.length + x.length ≤ 100000 then some (more ++ x) else none else none
def choicesM (many size : Nat) : Option (List (List Nat)) := if many ≤ 1000 ∧ size ≤ 1000 then foldO (fun told _ => foldO (chTurn many) [] told) [[]] (List.range size) else none
def withoutB {α : Type} (b : List α) (ns : List Nat) : List α := (((List.range b.length).zip b).filter fun p => !decide (p.1 ∈ ns)).map (·.2)
def withoutM (b : Book) (ns : List Nat) : Option Book := if b.length ≤ 1000 then some (withoutB b ns) else none
def slTurn (b : Book) (kind : PySem.Str) (_ : Unit) (ns : List Nat) : Option (Out (List Nat) Unit) :=
  (withoutM b ns).bind fun b' => (hasWishM b' kind).bind fun h => some (if h then .ret ns else .go ())
def slipsM (b : Book) (kind : PySem.Str) : Option (List Nat) := (needFewM b).bind fun _ =>
  (foldR (fun _ size => (choicesM b.length size).bind fun cs => foldR (slTurn b kind) () cs) () (List.range b.length)).bind fun o => some (match o with
    | .ret ns => ns
    | .go _ => [])
def set2 {α : Type} (m : List (List α)) (i j : Nat) (x : α) : List (List α) := m.set i ((m.getD i []).set j x)
def ltTurn (by_ one : Nat) (m : List (List Fr)) (other : Nat) : Option (List (List Fr)) :=
  (idx2 m one by_).bind fun x => (idx2 m by_ other).bind fun y => (greaterM x y).bind fun through =>
    if one ≠ other ∧ by_ ≠ one ∧ by_ ≠ other then (idx2 m one other).bind fun z => (isLessM through z).bind fun l => some (if l then set2 m one other through else m) else some m
def leastThroughM (sh : List (List Fr)) : Option (List (List Fr)) := if sh.length ≤ 1000 then
    foldO (fun m by_ => foldO (fun m one => foldO (ltTurn by_ one) m (List.range sh.length)) m (List.range sh.length)) sh (List.range sh.length)
  else none
def lkRow (c : Costs) (many one : Nat) : Option (List Fr) := compO (fun other => (shareOfM c one other).bind fun x => some (some x)) (List.range many)
def lkBest (sh th : List (List Fr)) (one : Nat) (best : Option (T3 Fr Nat Nat)) (other : Nat) : Option (Option (T3 Fr Nat Nat)) :=
  if one ≠ other then (idx2 th one other).bind fun x => (idx2 sh other one).bind fun y => (greaterM x y).bind fun here => match best with
    | none => some (some ⟨here, one, other⟩)
    | some z => (isLessM here z.a).bind fun l => some (if l then some ⟨here, one, other⟩ else some z)
  else some best
def lkCell (sh : List (List Fr)) (share : Fr) (k j : Nat) : Option (Option Bool) := if j ≠ k then (idx2 sh k j).bind fun x => (isLessM share x).bind fun l => some (some (!l)) else some (some false)
def leakC (c : Costs) (many : Nat) : Option (Fr × Option (List Nat)) :=
  (foldO (fun sh one => (lkRow c many one).bind fun r => snocM sh r) [] (List.range many)).bind fun sh => (leastThroughM sh).bind fun th =>
  (foldO (fun best one => foldO (lkBest sh th one) best (List.range many)) none (List.range many)).bind fun best => best.bind fun z =>
  (foldO (fun ways k => (compO (lkCell sh z.a k) (List.range many)).bind fun r => snocM ways r) [] (List.range many)).bind fun ways =>
  (wayM ways z.b z.c).bind fun w => some (z.a, w)
def leakM (b : Book) : Option (Fr × Option (List Nat)) := if 2 ≤ b.length ∧ b.length ≤ 1000 then (costsM b).bind fun c => leakC c b.length else none
end G3
end
/-! G3Base4 -/
section
set_option Elab.async false
set_option linter.all false
set_option maxRecDepth 100000
set_option maxHeartbeats 4000000
/-! G3Base4: dicts whose keys are whole numbers from 0 on; lists that change in other ways; equality. -/
namespace G3
open PySem PySem.Spec PyProof.Rows L2
open Evl (Ex fresh_back)
open Rep (rep)
theorem bnd {α β : Type} {o : Option α} {f : α → Option β} {y : β} (h : o.bind f = some y) : ∃ x, o = some x ∧ f x = some y := Option.bind_eq_some_iff.mp h
theorem snocM_inv {α : Type} {l r : List α} {x : α} (h : snocM l x = some r) : l.length ≤ 1000 ∧ r = l ++ [x] := by
  unfold snocM at h
  split at h
  · cases h; exact ⟨by assumption, rfl⟩
  · cases h
abbrev ky (k : Nat) : Key := Sum.inl (k : Int)
theorem ky_eq (j k : Nat) : decide (ky j = ky k) = (j == k) := by
  by_cases h : j = k
  · subst h; simp
  · have : ky j ≠ ky k := fun e => h (by have := Sum.inl.inj e; omega)
    rw [decide_eq_false this]; simp [h]
inductive RepD {α : Type} [Rep α] (G : Hp) : List (Key × V) → List (Nat × α) → Prop
  | nil : RepD G [] []
  | cons {v : V} {x : α} {k : Nat} {kv : List (Key × V)} {kvs : List (Nat × α)} : rep G v x → RepD G kv kvs → RepD G ((ky k, v) :: kv) ((k, x) :: kvs)
section
variable {α : Type} [Rep α] {G G' : Hp} {v : V} {x : α} {k : Nat} {kv : List (Key × V)} {kvs : List (Nat × α)}
theorem RepD.mono (e : Ex G G') (h : RepD G kv kvs) : RepD G' kv kvs := by
  induction h with
  | nil => exact .nil
  | cons a _ ih => exact .cons (Rep.mono e a) ih
theorem RepD.length (h : RepD G kv kvs) : kv.length = kvs.length := by
  induction h with
  | nil => rfl
  | cons _ _ ih => rw [List.length_cons, List.length_cons, ih]
theorem RepD.any (h : RepD G kv kvs) (k : Nat) : (kv.any fun p => decide (p.1 = ky k)) = hasN kvs k := by
  unfold hasN
  induction h with
  | nil => rfl
  | cons _ _ ih => rw [List.any_cons, List.any_cons, ih, ky_eq]
theorem RepD.has (h : RepD G kv kvs) (k : Nat) : (valV kv (ky k)).isSome = hasN kvs k := by rw [← h.any, valV_any]
theorem RepD.look (h : RepD G kv kvs) (e : lookN kvs k = some x) : ∃ v, valV kv (ky k) = some v ∧ rep G v x := by
  unfold lookN at e
  induction h with
  | nil => cases e
  | @cons v y j kv kvs a t ih =>
    by_cases hj : j = k
    · subst hj
      rw [List.find?_cons_of_pos (by simp)] at e
      cases e
      exact ⟨v, valV_pos rfl, a⟩
    · rw [List.find?_cons_of_neg (by simp [hj])] at e
      obtain ⟨v', h1, h2⟩ := ih e
      exact ⟨v', by rw [valV_neg (fun z => hj (by have := Sum.inl.inj z; omega))]; exact h1, h2⟩
theorem RepD.repl (h : RepD G kv kvs) (a : rep G v x) (k : Nat) : RepD G (kv.map fun p => if p.1 = ky k then (p.1, v) else p) (kvs.map fun p => if p.1 = k then (p.1, x) else p) := by
  induction h with
  | nil => exact .nil
  | @cons w y j kv kvs b t ih =>
    rw [List.map_cons, List.map_cons]
    by_cases hj : j = k
    · subst hj
      rw [if_pos rfl, if_pos rfl]
      exact .cons a ih
    · rw [if_neg (fun z => hj (by have := Sum.inl.inj z; omega)), if_neg hj]
      exact .cons b ih
theorem RepD.snoc (h : RepD G kv kvs) (a : rep G v x) (k : Nat) : RepD G (kv ++ [(ky k, v)]) (kvs ++ [(k, x)]) := by
  induction h with
  | nil => exact .cons a .nil
  | cons b _ ih => exact .cons b ih
theorem RepD.put (h : RepD G kv kvs) (a : rep G v x) (k : Nat) : RepD G (putK kv (ky k) v) (putN kvs k x) := by
  unfold putK putN
  rw [h.any k]
  split
  · exact h.repl a k
  · exact h.snoc a k
theorem RepD.keys (h : RepD G kv kvs) : kv.map (fun p => p.1) = kvs.map fun p => ky p.1 := by
  induction h with
  | nil => rfl
  | cons _ _ ih => rw [List.map_cons, List.map_cons, ih]
end
/-- a dict that changes no more -/
structure Dct (α : Type) where
  l : List (Nat × α)
instance {α : Type} [Rep α] : Rep (Dct α) := ⟨fun G v d => ∃ a kv, v = .ref a ∧ G a = some (.dK kv) ∧ RepD G kv d.l,
  fun e h => by obtain ⟨a, kv, q, h1, h2⟩ := h; exact ⟨a, kv, q, e _ _ h1, h2.mono e⟩⟩
/-- a dict of our own that changes -/
structure Md {α : Type} [Rep α] (H0 G H : Hp) (d : Addr) (kvs : List (Nat × α)) : Prop where
  ex : ∃ kv, H d = some (.dK kv) ∧ RepD G kv kvs
  h0 : H0 d = none
  hG : G d = none
section
variable {α β : Type} [Rep α] [Rep β] {G H G0 H0 G1 H1 : Hp} {d l : Addr} {kvs : List (Nat × α)} {xs : List α} {x : α} {v : V} {o : HO} {k : Nat} {σ : L2.St} {td ty te ta tb : TE} {D : Ends} {tz : TS} {K : PySem.W.Frag} {Q : VK}
theorem Md.up (m : Md H0 G H d kvs) (g : Gro G H G1 H1) : Md H0 G1 H1 d kvs := by
  obtain ⟨vs, h1, h2⟩ := m.ex
  exact ⟨⟨vs, g.h _ _ h1, h2.mono g.g⟩, m.h0, g.none h1 m.hG⟩
theorem Md.oth (m : Md H0 G H d kvs) (h : d ≠ l) : Md H0 G (upd H l o) d kvs := by
  obtain ⟨vs, h1, h2⟩ := m.ex
  exact ⟨⟨vs, by rw [upd_ne h]; exact h1, h2⟩, m.h0, m.hG⟩
theorem md_ne_ml {ys : List β} (m : Md H0 G H d kvs) (n : Ml H0 G H l ys) : d ≠ l := by
  obtain ⟨vs, h1, _⟩ := m.ex
  obtain ⟨ws, h2, _⟩ := n.ex
  exact ne_of h1 h2 (by intro z; cases z)
theorem Md.frz (m : Md H0 G H d kvs) (B : Gro G0 H0 G H) : ∃ G', Gro G0 H0 G' H ∧ Ex G G' ∧ rep G' (.ref d) (Dct.mk kvs) := by
  obtain ⟨vs, h1, h2⟩ := m.ex
  exact ⟨upd G d (.dK vs), B.frz m.h0 m.hG h1, Ex.new m.hG, d, vs, rfl, upd_same, h2.mono (Ex.new m.hG)⟩
/-- {} and {k: x} -/
theorem q_asgD0 {i : Nat} (B : Gro G0 H0 G H) (q : ∀ d G1 H1, Gro G0 H0 G1 H1 → Gro G H G1 H1 → Md (α := α) H0 G1 H1 d [] → H d = none → tz D (σ.set i (some (.ref d))) H1) : tSeq (tAsg tDNewK (gName i)) tz D σ H := fun p hp =>
  q p G (upd H p (.dK [])) (B.trans (Gro.fresh B.sub hp)) (Gro.fresh B.sub hp) ⟨⟨[], upd_same, .nil⟩, fresh_back B.h hp, none_sub B.sub hp⟩ hp
theorem q_asgD1 {i : Nat} (h1 : EvR td σ G H k) (h2 : EvR te σ G H x) (B : Gro G0 H0 G H) (q : ∀ d G1 H1, Gro G0 H0 G1 H1 → Gro G H G1 H1 → Md H0 G1 H1 d [(k, x)] → H d = none → tz D (σ.set i (some (.ref d))) H1) :
    tSeq (tAsg (tDisp [(td, te)]) (gName i)) tz D σ H := fun p hp => by
  have g0 : Gro G H G (upd H p (.dK [])) := Gro.fresh B.sub hp
  refine h1 G _ g0 _ fun v1 G1 H1 g1 r1 => h2 G1 H1 (g0.trans g1) _ fun v2 G2 H2 g2 r2 => ?_
  cases r1
  have g := g1.trans g2
  have e1 := g.h _ _ (upd_same (H := H) (a := p) (o := .dK []))
  refine ⟨e1, [(ky k, v2)], rfl, by simp, ?_⟩
  have hG2 : G2 p = none := g.none upd_same (none_sub B.sub hp)
  have h0 := fresh_back B.h hp
  exact q p G2 _ (((B.trans g0).trans g).mut h0 hG2) (Gro.mut (g0.trans g) hp hG2) ⟨⟨[(ky k, v2)], upd_same, .cons r2 .nil⟩, h0, hG2⟩ hp
/-- d[k] -/
theorem er_dgetM (m : Md H0 G H d kvs) (h : EvV td σ G H (.ref d)) (h2 : EvR ty σ G H k) (e : lookN kvs k = some x) : EvR (tDGet td ty) σ G H x := fun G1 H1 g Q q => h G1 H1 g _ fun G2 H2 g2 => h2 G2 H2 (g.trans g2) _ fun v G3 H3 g3 r => by
  cases r
  obtain ⟨kv, h1, h2⟩ := m.ex
  obtain ⟨v, e1, e2⟩ := h2.look e
  have gg := (g.trans g2).trans g3
  exact ⟨d, v, rfl, e1 ▸ DGet.k (k := ky k) (gg.h _ _ h1), q v G3 H3 (g2.trans g3) (Rep.mono gg.g e2)⟩
theorem er_dget {dc : Dct α} (h : EvR td σ G H dc) (h2 : EvR ty σ G H k) (e : lookN dc.l k = some x) : EvR (tDGet td ty) σ G H x := fun G1 H1 g Q q => h G1 H1 g _ fun w G2 H2 g2 r1 => h2 G2 H2 (g.trans g2) _ fun v G3 H3 g3 r => by
  cases r
  obtain ⟨d, kv, rfl, h1, h2⟩ := r1
  obtain ⟨v, e1, e2⟩ := h2.look e
  exact ⟨d, v, rfl, e1 ▸ DGet.k (k := ky k) (g3.sub _ _ (g3.g _ _ h1)), q v G3 H3 (g2.trans g3) (Rep.mono g3.g e2)⟩
/-- k in d, k not in d -/
theorem er_dinM (m : Md H0 G H d kvs) (h2 : EvR ty σ G H k) (h : EvV td σ G H (.ref d)) : EvR (tDInN ty td) σ G H (hasN kvs k) := fun G1 H1 g Q q => h2 G1 H1 g _ fun v G2 H2 g2 r => h G2 H2 (g.trans g2) _ fun G3 H3 g3 => by
  cases r
  obtain ⟨kv, h1, h2⟩ := m.ex
  have gg := (g.trans g2).trans g3
  refine .inl ⟨d, _, rfl, DGet.k (k := ky k) (gg.h _ _ h1), ?_⟩
  rw [h2.has]
  exact q _ G3 H3 (g2.trans g3) rfl
theorem er_dnotinM (m : Md H0 G H d kvs) (h2 : EvR ty σ G H k) (h : EvV td σ G H (.ref d)) : EvR (tDNotInN ty td) σ G H (!hasN kvs k) := fun G1 H1 g Q q => h2 G1 H1 g _ fun v G2 H2 g2 r => h G2 H2 (g.trans g2) _ fun G3 H3 g3 => by
  cases r
  obtain ⟨kv, h1, h2⟩ := m.ex
  have gg := (g.trans g2).trans g3
  refine .inl ⟨d, _, rfl, DGet.k (k := ky k) (gg.h _ _ h1), ?_⟩
  rw [h2.has]
  exact q _ G3 H3 (g2.trans g3) rfl
/-- d[k] = e -/
theorem s_dput (m : Md H0 G H d kvs) (hv : EvR te σ G H x) (h : EvV td σ G H (.ref d)) (h2 : EvR ty σ G H k) (hz : kvs.length ≤ 1000) (B : Gro G0 H0 G H)
    (q : ∀ o G1 H1, Gro G H G1 H1 → Gro G0 H0 G1 (upd H1 d o) → Md H0 G1 (upd H1 d o) d (putN kvs k x) → D.nx σ (upd H1 d o)) : sDPut td ty te D σ H :=
  hv G H (Gro.refl B.sub) _ fun w G1 H1 g1 r1 => h G1 H1 g1 _ fun G2 H2 g2 => h2 G2 H2 (g1.trans g2) _ fun v G3 H3 g3 r => by
    cases r
    have g := (g1.trans g2).trans g3
    obtain ⟨kv, e1, e2⟩ := m.ex
    have m3 := m.up g
    refine ⟨d, _, rfl, DPut.k (k := ky k) (g.h _ _ e1) ?_, q (.dK (putK kv (ky k) w)) G3 H3 g ((B.trans g).mut m3.h0 m3.hG) ⟨⟨_, upd_same, ?_⟩, m3.h0, m3.hG⟩⟩
    · rw [e2.length]; exact Nat.lt_of_le_of_lt hz (by decide)
    · exact (e2.mono g.g).put (Rep.mono (g2.trans g3).g r1) k
theorem q_dput (m : Md H0 G H d kvs) (hv : EvR te σ G H x) (h : EvV td σ G H (.ref d)) (h2 : EvR ty σ G H k) (hz : kvs.length ≤ 1000) (B : Gro G0 H0 G H)
    (q : ∀ o G1 H1, Gro G H G1 H1 → Gro G0 H0 G1 (upd H1 d o) → Md H0 G1 (upd H1 d o) d (putN kvs k x) → tz D σ (upd H1 d o)) : tSeq (sDPut td ty te) tz D σ H := s_dput (D := { D with nx := tz D }) m hv h h2 hz B q
/-- y = l.pop(0) -/
theorem q_asgPop0 {i : Nat} (m : Ml H0 G H l (x :: xs)) (h : EvV ta σ G H (.ref l)) (B : Gro G0 H0 G H) (q : ∀ v o G1 H1, Gro G H G1 H1 → Gro G0 H0 G1 (upd H1 l o) → Ml H0 G1 (upd H1 l o) l xs → rep G1 v x → tz D (σ.set i (some v)) (upd H1 l o)) :
    tSeq (tAsg (tBM K "list" rPopAt ta (tCons (tC (.int 0)) tNil)) (gName i)) tz D σ H := h G H (Gro.refl B.sub) _ fun G1 H1 g => by
  have m1 := m.up g
  obtain ⟨vs, e1, e2⟩ := m1.ex
  cases e2 with
  | cons a t =>
    rename_i v vs
    refine ⟨.inl ⟨rfl, _, SqL.of e1⟩, l, v :: vs, 0, 0, v, rfl, rfl, e1, by decide, by decide, ?_, rfl, q v (.lst vs) G1 H1 g ((B.trans g).mut m1.h0 m1.hG) ⟨⟨vs, upd_same, t⟩, m1.h0, m1.hG⟩ a⟩
    unfold seqIndex?
    simp
/-- l.insert(0, e) -/
theorem s_ins0 (m : Ml H0 G H l xs) (h : EvV ta σ G H (.ref l)) (h2 : EvR te σ G H x) (hz : xs.length ≤ 1000) (B : Gro G0 H0 G H) (q : ∀ o G1 H1, Gro G H G1 H1 → Gro G0 H0 G1 (upd H1 l o) → Ml H0 G1 (upd H1 l o) l (x :: xs) → D.nx σ (upd H1 l o)) :
    tDrop (tBM K "list" xIns ta (tCons (tC (.int 0)) (tCons te tNil))) D σ H := h G H (Gro.refl B.sub) _ fun G1 H1 g => by
  obtain ⟨vs, e1, e2⟩ := m.ex
  refine ⟨.inl ⟨rfl, vs, SqL.of (g.h _ _ e1)⟩, h2 G1 H1 g _ fun v G2 H2 g2 r => ?_⟩
  have gg := g.trans g2
  have m2 := m.up gg
  refine ⟨l, vs, 0, v, rfl, rfl, gg.h _ _ e1, ?_, by decide, by decide, q (.lst (v :: vs)) G2 H2 gg ((B.trans gg).mut m2.h0 m2.hG) ⟨⟨v :: vs, upd_same, .cons r (e2.mono gg.g)⟩, m2.h0, m2.hG⟩⟩
  rw [e2.length]; exact Nat.lt_of_le_of_lt hz (by decide)
/-- l.extend(ys) -/
theorem s_ext {ys : List α} (m : Ml H0 G H l xs) (h : EvV ta σ G H (.ref l)) (h2 : EvN te σ G H ys) (hz : xs.length + ys.length ≤ 100000) (B : Gro G0 H0 G H) (q : ∀ o G1 H1, Gro G H G1 H1 → Gro G0 H0 G1 (upd H1 l o) → Ml H0 G1 (upd H1 l o) l (xs ++ ys) → D.nx σ (upd H1 l o)) :
    tDrop (tBM K "list" rExtend ta (tCons te tNil)) D σ H := h G H (Gro.refl B.sub) _ fun G1 H1 g => by
  obtain ⟨vs, e1, e2⟩ := m.ex
  refine ⟨.inl ⟨rfl, vs, SqL.of (g.h _ _ e1)⟩, h2 G1 H1 g _ fun p ws G2 H2 g2 hp hGp hw r => ?_⟩
  have gg := g.trans g2
  have m2 := m.up gg
  refine ⟨l, p, vs, ws, rfl, rfl, gg.h _ _ e1, hw, ?_, q (.lst (vs ++ ws)) G2 H2 gg ((B.trans gg).mut m2.h0 m2.hG) ⟨⟨vs ++ ws, upd_same, (e2.mono gg.g).append r⟩, m2.h0, m2.hG⟩⟩
  rw [e2.length, r.length]; exact Nat.le_trans hz (by decide)
/-- the last item of a changing list -/
theorem er_lastM (m : Ml H0 G H l (xs ++ [x])) (h : EvV ta σ G H (.ref l)) (hb : EvR tb σ G H (-1 : Int)) : EvR (tOp (rIxL K) ta tb) σ G H x := fun G1 H1 g Q q => h G1 H1 g _ fun G2 H2 g2 => hb G2 H2 (g.trans g2) _ fun w G3 H3 g3 rw' => by
  cases rw'
  obtain ⟨vs, h1, h2⟩ := m.ex
  have hl := h2.length
  obtain ⟨w, h3, h4⟩ := h2.get (i := xs.length) (x := x) (by simp)
  have gg := (g.trans g2).trans g3
  refine ⟨l, vs, -1, w, rfl, rfl, SqL.of (gg.h _ _ h1), ?_, q w G3 H3 (g2.trans g3) (Rep.mono gg.g h4)⟩
  unfold atI ixN
  rw [hl, List.length_append, List.length_singleton, if_neg (by decide), if_pos (by omega)]
  have : ((xs.length + 1 : Nat) + (-1 : Int)).toNat = xs.length := by omega
  show vs[((xs.length + 1 : Nat) + (-1 : Int)).toNat]? = some w
  rw [this]; exact h3
theorem er_mAt (m : Ml H0 G H l xs) {j : Nat} (ha : EvV ta σ G H (.ref l)) (hb : EvR tb σ G H j) (hj : xs[j]? = some x) : EvR (tOp (rIxL K) ta tb) σ G H x := by
  obtain ⟨vs, h1, h2⟩ := m.ex
  exact er_ixM h1 h2 ha hb hj
end

/-! ### equality -/
class RepE (α : Type) [Rep α] where
  dat : α → PyData
  dep : Nat
  dp : ∀ {K : PySem.W.Frag} {G H : Hp} {v : V} {x : α}, Ex G H → rep G v x → Dp K H v (dat x)
  lay : ∀ x : α, (dat x).canLay0 = true
  hd : ∀ x : α, (dat x).depth ≤ dep
open RepE (dat)
instance : RepE Int := ⟨.int, 0, fun _ h => by cases h; exact .int _, fun _ => by unfold PyData.canLay0; rfl, fun _ => by unfold PyData.depth; exact Nat.le_refl _⟩
instance : RepE Nat := ⟨fun n => .int n, 0, fun _ h => by cases h; exact .int _, fun _ => by unfold PyData.canLay0; rfl, fun _ => by unfold PyData.depth; exact Nat.le_refl _⟩
instance : RepE Bool := ⟨.bool, 0, fun _ h => by cases h; exact .bl _, fun _ => by unfold PyData.canLay0; rfl, fun _ => by unfold PyData.depth; exact Nat.le_refl _⟩
section
variable {α β : Type} [Rep α] [Rep β] [RepE α] [RepE β]
theorem dpAll {K : PySem.W.Frag} {G H : Hp} {vs : List V} {xs : List α} (e : Ex G H) (h : RepL G vs xs) : DpAll K H vs (xs.map dat) := by
  induction h with
  | nil => exact .nil
  | cons a _ ih => exact .cons (RepE.dp e a) ih
theorem layAll (xs : List α) : PyData.canLayAll0 (xs.map dat) = true := by
  induction xs with
  | nil => rw [List.map_nil]; unfold PyData.canLayAll0; rfl
  | cons x r ih => rw [List.map_cons]; unfold PyData.canLayAll0; rw [RepE.lay, ih]; rfl
theorem depAll (xs : List α) : PyData.depthAll (xs.map dat) ≤ RepE.dep α := by
  induction xs with
  | nil => rw [List.map_nil]; unfold PyData.depthAll; exact Nat.zero_le _
  | cons x r ih => rw [List.map_cons]; unfold PyData.depthAll; exact Nat.max_le.mpr ⟨RepE.hd x, ih⟩
instance : RepE (List α) where
  dat := fun xs => .list (xs.map dat)
  dep := RepE.dep α + 1
  dp := fun e h => by obtain ⟨a, vs, rfl, h1, h2⟩ := h; exact .lst (SqL.of (e _ _ h1)) (dpAll e h2)
  lay := fun xs => by unfold PyData.canLay0; exact layAll xs
  hd := fun xs => by unfold PyData.depth; exact Nat.succ_le_succ (depAll xs)
instance : RepE (Tup α) where
  dat := fun xs => .tuple (xs.l.map dat)
  dep := RepE.dep α + 1
  dp := fun e h => by obtain ⟨a, vs, rfl, h1, h2⟩ := h; exact .tup (SqT.of (e _ _ h1)) (dpAll e h2)
  lay := fun xs => by unfold PyData.canLay0; exact layAll xs.l
  hd := fun xs => by unfold PyData.depth; exact Nat.succ_le_succ (depAll xs.l)
instance : RepE (α × β) where
  dat := fun p => .tuple [dat p.1, dat p.2]
  dep := max (RepE.dep α) (RepE.dep β) + 1
  dp := fun e h => by obtain ⟨a, u, w, rfl, h1, h2, h3⟩ := h; exact .tup (SqT.of (e _ _ h1)) (.cons (RepE.dp e h2) (.cons (RepE.dp e h3) .nil))
  lay := fun p => by unfold PyData.canLay0 PyData.canLayAll0 PyData.canLayAll0 PyData.canLayAll0; rw [RepE.lay, RepE.lay]; rfl
  hd := fun p => by
    unfold PyData.depth PyData.depthAll PyData.depthAll PyData.depthAll
    have h1 := RepE.hd p.1
    have h2 := RepE.hd p.2
    omega
theorem shaped_of (x : α) (h : RepE.dep α ≤ 64) : SeqAt.shaped (dat x) = true := by
  unfold SeqAt.shaped
  rw [RepE.lay, decide_eq_true (Nat.le_trans (RepE.hd x) h)]
  rfl
variable {K : PySem.W.Frag} {σ : L2.St} {G H H0 : Hp} {ta tb te : TE} {x y : α} {xs : List α} {l : Addr}
theorem er_eqD (ha : EvR ta σ G H x) (hb : EvR tb σ G H y) (hd : RepE.dep α ≤ 64) : EvR (tOp (rEqD K) ta tb) σ G H (PyData.eqv (dat x) (dat y)) := er_op ha hb fun G1 H1 v w g rv rw' Q q =>
  ⟨dat x, dat y, RepE.dp g.sub rv, RepE.dp g.sub rw', shaped_of x hd, shaped_of y hd, q _ G1 H1 (Gro.refl g.sub) rfl⟩
theorem er_neD (ha : EvR ta σ G H x) (hb : EvR tb σ G H y) (hd : RepE.dep α ≤ 64) : EvR (tOp (rNeD K) ta tb) σ G H (!PyData.eqv (dat x) (dat y)) := er_op ha hb fun G1 H1 v w g rv rw' Q q =>
  ⟨dat x, dat y, RepE.dp g.sub rv, RepE.dp g.sub rw', shaped_of x hd, shaped_of y hd, q _ G1 H1 (Gro.refl g.sub) rfl⟩
theorem eqv_nil (xs : List α) : PyData.eqv (dat xs) (dat ([] : List α)) = xs.isEmpty := by
  cases xs with
  | nil => show PyData.eqv (.list []) (.list []) = true; unfold PyData.eqv PyData.eqvAll; rfl
  | cons x r => show PyData.eqv (.list (dat x :: r.map dat)) (.list []) = false; unfold PyData.eqv PyData.eqvAll; rfl
theorem er_neNil (ha : EvR ta σ G H xs) (hd : RepE.dep α ≤ 63) : EvR (tOp (rNeD K) ta (tLst tNil)) σ G H (!xs.isEmpty) := er_is (er_neD ha (er_new (en_lst el_nil (Nat.zero_le _))) (Nat.succ_le_succ hd)) (by rw [eqv_nil])
theorem er_eqNil (ha : EvR ta σ G H xs) (hd : RepE.dep α ≤ 63) : EvR (tOp (rEqD K) ta (tLst tNil)) σ G H xs.isEmpty := er_is (er_eqD ha (er_new (en_lst el_nil (Nat.zero_le _))) (Nat.succ_le_succ hd)) (by rw [eqv_nil])
/-- the same of a list that changes -/
theorem er_neNilM (m : Ml H0 G H l xs) (ha : EvV ta σ G H (.ref l)) (hd : RepE.dep α ≤ 63) : EvR (tOp (rNeD K) ta (tLst tNil)) σ G H (!xs.isEmpty) := fun G1 H1 g Q q => ha G1 H1 g _ fun G2 H2 g2 =>
  en_lst (xs := ([] : List α)) (σ := σ) el_nil (Nat.zero_le _) G2 H2 (Gro.refl g2.sub) _ fun p vs G3 H3 g3 hp hG hv hR => by
    have m3 := m.up ((g.trans g2).trans g3)
    obtain ⟨ws, e1, e2⟩ := m3.ex
    refine ⟨dat xs, dat ([] : List α), .lst (SqL.of e1) (dpAll g3.sub e2), ?_, shaped_of xs (Nat.succ_le_succ hd), shaped_of _ (Nat.succ_le_succ hd), ?_⟩
    · cases hR
      exact .lst (SqL.of hv) .nil
    · rw [eqv_nil]
      exact q _ G3 H3 (g2.trans g3) rfl
end
/-- two fractions -/
theorem eqv_fr (x y : Fr) : PyData.eqv (RepE.dat x) (RepE.dat y) = decide (x = y) := by
  show PyData.eqv (.tuple [.int x.1, .int x.2]) (.tuple [.int y.1, .int y.2]) = _
  unfold PyData.eqv PyData.eqvAll PyData.eqvAll PyData.eqvAll PyData.eqv
  by_cases h : x = y
  · subst h; simp [PyData.eqv, PyData.eqvAll]
  · rw [decide_eq_false h]
    cases e : (x.1 == y.1 && (x.2 == y.2 && true)) with
    | false => rfl
    | true =>
      exfalso
      simp at e
      exact h (Prod.ext e.1 e.2)
/-- in, not in: whole numbers from 0 on in a list, a written pair -/
theorem inV_nat (k : Nat) (xs : List Nat) : inV (.int (k : Int)) (xs.map fun (n : Nat) => V.int (n : Int)) = decide (k ∈ xs) := by
  unfold inV
  induction xs with
  | nil => simp
  | cons x r ih =>
    rw [List.map_cons, List.any_cons, ih]
    have e : eqV (V.int (x : Int)) (V.int (k : Int)) = decide (k = x) := by
      show ((x : Int) == (k : Int)) = _
      by_cases h : k = x
      · subst h; simp
      · have : ¬ ((x : Int) = (k : Int)) := by omega
        simp [h, this]
    rw [e]
    by_cases h : k = x <;> simp [h]
theorem flat_nats (xs : List Nat) : (xs.map fun (n : Nat) => V.int (n : Int)).all flatV = true := by
  rw [List.all_eq_true]
  intro v hv
  obtain ⟨n, _, rfl⟩ := List.mem_map.mp hv
  rfl
section
variable {K : PySem.W.Frag} {σ : L2.St} {G H : Hp} {ta tb : TE} {k : Nat} {xs : List Nat}
theorem er_notInL (ha : EvR ta σ G H k) (hb : EvR tb σ G H xs) : EvR (tOp (rIn K true) ta tb) σ G H (!decide (k ∈ xs)) := er_op ha hb fun G1 H1 v w g rv rw' Q q => by
  cases rv
  obtain ⟨a, vs, rfl, h1, h2⟩ := rw'
  have e := h2.nats
  subst e
  refine ⟨a, _, rfl, .inl (SqL.of (g.sub _ _ h1)), rfl, flat_nats xs, ?_⟩
  rw [if_pos rfl, inV_nat]
  exact q _ G1 H1 (Gro.refl g.sub) rfl
theorem er_notInT (ha : EvR ta σ G H k) (hb : EvR tb σ G H (Tup.mk xs)) : EvR (tOp (rIn K true) ta tb) σ G H (!decide (k ∈ xs)) := er_op ha hb fun G1 H1 v w g rv rw' Q q => by
  cases rv
  obtain ⟨a, vs, rfl, h1, h2⟩ := rw'
  have e := h2.nats
  subst e
  refine ⟨a, _, rfl, .inr (SqT.of (g.sub _ _ h1)), rfl, flat_nats xs, ?_⟩
  rw [if_pos rfl, inV_nat]
  exact q _ G1 H1 (Gro.refl g.sub) rfl
end
end G3
end
/-! G3W1 -/
section
set_option Elab.async false
set_option linter.all false
set_option maxRecDepth 100000
set_option maxHeartbeats 4000000
/-! G3W1: walks: fractions, costs. -/
namespace G3
open PySem PySem.Spec PyProof.Rows L2
open Evl (Ex fresh_back)
open Rep (rep)
theorem scNeedNumber : FnScope ["book", "number"] ["book", "number"] (defScope sNeedNumber) := ⟨rfl, rfl, rfl, by decide +kernel, rfl, by decide +kernel, by decide +kernel⟩
theorem scCostAt : FnScope ["prices", "amounts", "price", "amount"] ["prices", "amounts"] (defScope sCostAt) := ⟨rfl, rfl, rfl, by decide +kernel, rfl, by decide +kernel, by decide +kernel⟩
theorem scCostsOf : FnScope ["book", "told", "prices", "own", "other", "amounts"] ["book"] (defScope sCostsOf) := ⟨rfl, rfl, rfl, by decide +kernel, rfl, by decide +kernel, by decide +kernel⟩
theorem scDivisor : FnScope ["one", "other"] ["one", "other"] (defScope sDivisor) := ⟨rfl, rfl, rfl, by decide +kernel, rfl, by decide +kernel, by decide +kernel⟩
theorem scFraction : FnScope ["top", "bottom", "many"] ["top", "bottom"] (defScope sFraction) := ⟨rfl, rfl, rfl, by decide +kernel, rfl, by decide +kernel, by decide +kernel⟩
theorem scPlus : FnScope ["one", "other"] ["one", "other"] (defScope sPlus) := ⟨rfl, rfl, rfl, by decide +kernel, rfl, by decide +kernel, by decide +kernel⟩
theorem scMinus : FnScope ["one", "other"] ["one", "other"] (defScope sMinus) := ⟨rfl, rfl, rfl, by decide +kernel, rfl, by decide +kernel, by decide +kernel⟩
theorem scTimes : FnScope ["one", "number"] ["one", "number"] (defScope sTimes) := ⟨rfl, rfl, rfl, by decide +kernel, rfl, by decide +kernel, by decide +kernel⟩
theorem scOver : FnScope ["one", "number"] ["one", "number"] (defScope sOver) := ⟨rfl, rfl, rfl, by decide +kernel, rfl, by decide +kernel, by decide +kernel⟩
theorem scIsLess : FnScope ["one", "other"] ["one", "other"] (defScope sIsLess) := ⟨rfl, rfl, rfl, by decide +kernel, rfl, by decide +kernel, by decide +kernel⟩
theorem scLesser : FnScope ["one", "other"] ["one", "other"] (defScope sLesser) := ⟨rfl, rfl, rfl, by decide +kernel, rfl, by decide +kernel, by decide +kernel⟩
theorem scGreater : FnScope ["one", "other"] ["one", "other"] (defScope sGreater) := ⟨rfl, rfl, rfl, by decide +kernel, rfl, by decide +kernel, by decide +kernel⟩
theorem scShareOf : FnScope ["costs", "one", "other"] ["costs", "one", "other"] (defScope sShareOf) := ⟨rfl, rfl, rfl, by decide +kernel, rfl, by decide +kernel, by decide +kernel⟩
theorem scNeedFew : FnScope ["book"] ["book"] (defScope sNeedFew) := ⟨rfl, rfl, rfl, by decide +kernel, rfl, by decide +kernel, by decide +kernel⟩
section
variable {K : PySem.W.Frag} {σ : L2.St} {G H : Hp} {ta tb : TE}
theorem er_mul {m n r : Int} (ha : EvR ta σ G H m) (hb : EvR tb σ G H n) (e : mulM m n = some r) : EvR (tOp (rI CMulW fun i j => .int (i * j)) ta tb) σ G H r := by
  unfold mulM at e
  split at e
  · rename_i hc
    cases e
    exact er_I (f := fun i j => i * j) ha hb hc
  · cases e
theorem er_fdiv {m n : Int} (ha : EvR ta σ G H m) (hb : EvR tb σ G H n) (hc : CDivX m n) : EvR (tOp (rI CDivX fun i j => .int (i.fdiv j)) ta tb) σ G H (m.fdiv n) := er_I (f := fun i j => i.fdiv j) ha hb hc
theorem er_mod {m n : Int} (ha : EvR ta σ G H m) (hb : EvR tb σ G H n) (hc : 0 < n) : EvR (tOp (rI (fun _ j => 0 < j) fun i j => .int (i % j)) ta tb) σ G H (m % n) := er_I (f := fun i j => i % j) ha hb hc
theorem er_lt {m n : Int} (ha : EvR ta σ G H m) (hb : EvR tb σ G H n) : EvR (tOp (rI0 fun i j => .bl (decide (i < j))) ta tb) σ G H (decide (m < n)) := et_I0 (f := fun i j => decide (i < j)) ha hb
theorem er_le {m n : Int} (ha : EvR ta σ G H m) (hb : EvR tb σ G H n) : EvR (tOp (rI0 fun i j => .bl (decide (i ≤ j))) ta tb) σ G H (decide (m ≤ n)) := et_I0 (f := fun i j => decide (i ≤ j)) ha hb
theorem er_gt {m n : Int} (ha : EvR ta σ G H m) (hb : EvR tb σ G H n) : EvR (tOp (rI0 fun i j => .bl (decide (j < i))) ta tb) σ G H (decide (n < m)) := et_I0 (f := fun i j => decide (j < i)) ha hb
theorem er_ge {m n : Int} (ha : EvR ta σ G H m) (hb : EvR tb σ G H n) : EvR (tOp (rI0 fun i j => .bl (decide (j ≤ i))) ta tb) σ G H (decide (n ≤ m)) := et_I0 (f := fun i j => decide (j ≤ i)) ha hb
theorem er_neN {m n : Nat} (ha : EvR ta σ G H m) (hb : EvR tb σ G H n) : EvR (tOp rNe ta tb) σ G H (!decide (m = n)) := er_is (er_neI (er_int ha) (er_int hb)) (by rw [show decide ((m : Int) = (n : Int)) = decide (m = n) from decide_eq_decide.mpr (by omega)])
theorem er_eqN {m n : Nat} (ha : EvR ta σ G H m) (hb : EvR tb σ G H n) : EvR (tOp rEq ta tb) σ G H (decide (m = n)) := er_is (er_eqI (er_int ha) (er_int hb)) (decide_eq_decide.mpr (by omega))
theorem er_ofSome {α : Type} [Rep α] {x : α} (h : EvR ta σ G H (some x)) : EvR ta σ G H x := h
theorem er_chain {r r' : R2} {tc : TE} {α β γ : Type} [Rep α] [Rep β] [Rep γ] {x : α} {y : β} {z : γ} {p q : Bool} (ha : EvR ta σ G H x) (hb : EvR tb σ G H y) (hc : EvR tc σ G H z) (h1 : RR r x y G H p) (h2 : RR r' y z G H q) : EvR (tChain r r' ta tb tc) σ G H (p && q) := fun G1 H1 g Q k =>
  ha G1 H1 g _ fun v G2 H2 g2 rv => hb G2 H2 (g.trans g2) _ fun w G3 H3 g3 rw' => h1 G3 H3 v w ((g.trans g2).trans g3) (Rep.mono g3.g rv) rw' _ fun u G4 H4 g4 ru => by
    cases ru
    refine ⟨p, rfl, ?_⟩
    cases p with
    | false => exact k _ G4 H4 ((g2.trans g3).trans g4) rfl
    | true => exact hc G4 H4 (((g.trans g2).trans g3).trans g4) _ fun z' G5 H5 g5 rz => h2 G5 H5 w z' ((((g.trans g2).trans g3).trans g4).trans g5) (Rep.mono (g4.trans g5).g rw') rz _ fun u G6 H6 g6 ru => k u G6 H6 ((((g2.trans g3).trans g4).trans g5).trans g6) ru
/-- the i-th place of the j-th row -/
theorem er_idx2 {α : Type} [Rep α] {m : List (List α)} {i j : Nat} {x : α} {tc : TE} (ha : EvR ta σ G H m) (hb : EvR tb σ G H i) (hc : EvR tc σ G H j) (e : idx2 m i j = some x) : EvR (tOp (rIxL K) (tOp (rIxL K) ta tb) tc) σ G H x := by
  obtain ⟨r, e1, e2⟩ := bnd e
  exact er_ixL (er_ixL ha hb e1) hc e2
end
section
variable {P : Program} {w : World} {K : PySem.W.Frag} {mg : Str → Option Value} {base : Heap} (T : Top K mg)
include T
theorem cal_divisor : Cal P w K mg base "divisor" 1 ["one", "other"] (Sp2 divisorM) := by
  refine cal_of (T.fn 3 3) scDivisor (fun _ _ _ _ h => h.len) (fun _ _ _ _ _ _ _ us hl => match us, hl with | [_, _], _ => rfl) fun f cdv A outer s H vs Q E hr h => ?_
  obtain ⟨G, v, w', a, b, r, rfl, eG, ra, rb, e, q⟩ := h
  cases e
  refine ⟨_, (pss_cons (ps_set (i := 0) scDivisor.nd rfl (.inl rfl) (pe_callB call_absX rfl (m_abs T) bt_abs (pa_cons (pv 0) pa_nil)))
  (pss_cons (ps_set (i := 1) scDivisor.nd rfl (.inl rfl) (pe_callB call_absX rfl (m_abs T) bt_abs (pa_cons (pv 1) pa_nil)))
  (pss_cons (ps_while PassesOwn.never (pt_cmpR op_gt (pv 1) pe_int (nomark _)) (pss_one (ps_par (i := 0) (j := 1) rfl scDivisor.nd rfl rfl (by decide) rfl rfl (pa_cons (pv 1) (pa_cons (pe_op op_mod (pv 0) (pv 1)) pa_nil)) rfl)))
  (pss_one (ps_ret (pv 0)))))), ?_⟩
  have B := Gro.refl eG
  refine q_asg (er_abs (er_var rfl ra)) B fun v1 G1 H1 B1 g1 r1 => ?_
  refine q_asg (er_abs (er_var rfl rb)) B1 fun v2 G2 H2 B2 g2 r2 => ?_
  cases r1; cases r2
  have hg : Int.gcd (a.natAbs : Int) (b.natAbs : Int) = Int.gcd a b := by simp [Int.gcd]
  refine ⟨fun m σ' H' => ∃ x y : Nat, σ' = [some (.int (x : Int)), some (.int (y : Int))] ∧ Nat.gcd x y = Int.gcd a b ∧ m = y ∧ ∃ G', Gro G H G' H', ⟨b.natAbs, a.natAbs, b.natAbs, rfl, rfl, rfl, G2, B2⟩, ?_⟩
  rintro m σ' H' ⟨x, y, rfl, e1, hm, G', B'⟩
  refine et_test (er_gt (er_i (n := (y : Int)) rfl) (er_c (x := (0 : Int)) rfl)) G' H' (Gro.refl B'.sub) _ fun G3 H3 g3 => ?_
  cases hy : decide ((0 : Int) < (y : Int)) with
  | false =>
    have h0 : ¬ ((0 : Int) < (y : Int)) := of_decide_eq_false hy
    have h0 : y = 0 := by omega
    subst h0
    refine s_ret (r := (Int.gcd a b : Int)) (er_is (er_i (n := (x : Int)) rfl) ?_) (B'.trans g3) q
    rw [← e1, Nat.gcd_zero_right]
  | true =>
    have h0 : (0 : Int) < (y : Int) := of_decide_eq_true hy
    refine ⟨fun σ' H' => ∃ x' y' : Nat, σ' = [some (.int (x' : Int)), some (.int (y' : Int))] ∧ Nat.gcd x' y' = Int.gcd a b ∧ y' < m ∧ ∃ G', Gro G H G' H', ?_, ?_⟩
    · rintro σ2 H2 ⟨x', y', e2, e3, e4, e5⟩
      exact ⟨y', e4, x', y', e2, e3, rfl, e5⟩
    · refine ea_2 (er_i (n := (y : Int)) rfl) (er_mod (er_i (n := (x : Int)) rfl) (er_i (n := (y : Int)) rfl) h0) G3 H3 (Gro.refl g3.sub) _ fun vs G4 H4 g4 hR => ?_
      obtain ⟨v, w, rfl, r1, r2⟩ := hR
      cases r1; cases r2
      refine ⟨_, _, rfl, y, x % y, ?_, ?_, by rw [hm]; exact Nat.mod_lt _ (by omega), G4, (B'.trans g3).trans g4⟩
      · rw [Int.natCast_emod]; rfl
      · rw [← e1, Nat.gcd_comm, ← Nat.gcd_rec, Nat.gcd_comm]
theorem cal_fraction : Cal P w K mg base "fraction" 2 ["top", "bottom"] (Sp2 fractionM) := by
  refine cal_of (T.fn 4 4) scFraction (fun _ _ _ _ h => h.len) (fun _ _ _ _ _ _ _ us hl => match us, hl with | [_, _], _ => rfl) fun f cdv A outer s H vs Q E hr h => ?_
  obtain ⟨G, v, w', a, b, r, rfl, eG, ra, rb, e, q⟩ := h
  unfold fractionM at e
  split at e
  next hb =>
    cases e
    obtain ⟨hb0, hb1⟩ := hb
    refine ⟨_, (pss_cons (ps_set (i := 2) scFraction.nd rfl (.inl rfl) (pe_cal (cal_divisor T) hr rfl (pa_cons (pv 0) (pa_cons (pv 1) pa_nil))))
  (pss_cons (ps_if (pt_cmpR op_lt (pv 1) pe_int (nomark _)) (pss_one (ps_set (i := 2) scFraction.nd rfl (.inl rfl) (pe_op op_sub pe_int (pv 2)))) pss_nil)
  (pss_one (ps_ret (pe_tup (pa_cons (pe_op op_fdivX (pv 0) (pv 2)) (pa_cons (pe_op op_fdivX (pv 1) (pv 2)) pa_nil))))))), ?_⟩
    refine q_asg (er_call2 (er_var rfl ra) (er_var rfl rb) rfl) (Gro.refl eG) fun v1 G1 H1 B1 g1 r1 => ?_
    refine q_ifSet (et_test (er_lt (er_var rfl rb) (er_c (x := (0 : Int)) rfl))) B1 rfl r1 (fun hb => er_sub (er_c (x := (0 : Int)) rfl) (er_var rfl r1)) fun v2 G2 H2 B2 g2 r2 => ?_
    have hs : (if decide (b < 0) = true then (0 : Int) - ((Int.gcd a b : Nat) : Int) else ((Int.gcd a b : Nat) : Int)) = sgcd a b := by
      unfold sgcd
      by_cases h : b < 0 <;> simp [h]
    rw [hs] at r2
    have hg : Int.gcd a b ≠ 0 := fun h => hb0 (Int.gcd_eq_zero_iff.mp h).2
    have hc : sgcd a b ≠ 0 ∧ (sgcd a b).natAbs.log2 < 9000 := by
      have h1 : (sgcd a b).natAbs = Int.gcd a b := by unfold sgcd; split <;> omega
      have h2 : Int.gcd a b ≤ b.natAbs := Nat.le_of_dvd (by omega) (Int.gcd_dvd_natAbs_right a b)
      refine ⟨by intro h; rw [h] at h1; exact hg h1.symm, ?_⟩
      rw [h1]
      exact (Nat.log2_lt hg).mpr (Nat.lt_of_le_of_lt h2 ((Nat.log2_lt (by omega)).mp hb1))
    exact s_ret (er_tup2 (er_fdiv (er_var rfl ra) (er_var rfl r2) hc) (er_fdiv (er_var rfl rb) (er_var rfl r2) hc)) B2 q
  next => cases e
theorem fracM_call {σ : L2.St} {G H : Hp} {ta tb : TE} {x y : Int} {r : Fr} (ha : EvR ta σ G H x) (hb : EvR tb σ G H y) (e : fractionM x y = some r) : EvR (tCall (Sp2 fractionM) [] E0 (tCons ta (tCons tb tNil))) σ G H r := er_call2 ha hb e
theorem cal_plus : Cal P w K mg base "plus" 3 ["one", "other"] (Sp2 plusM) := by
  refine cal_of (T.fn 5 5) scPlus (fun _ _ _ _ h => h.len) (fun _ _ _ _ _ _ _ us hl => match us, hl with | [_, _], _ => rfl) fun f cdv A outer s H vs Q E hr h => ?_
  obtain ⟨G, v, w', a, b, r, rfl, eG, ra, rb, e, q⟩ := h
  obtain ⟨x, h1, e⟩ := bnd e
  obtain ⟨y, h2, e⟩ := bnd e
  obtain ⟨z, h3, e⟩ := bnd e
  refine ⟨_, (pss_one (ps_ret (pe_cal (cal_fraction T) hr rfl (pa_cons (pe_op op_add (pe_op op_mulW (pe_ix (k_ixT K) (pv 0) pe_int (fun _ _ => rfl)) (pe_ix (k_ixT K) (pv 1) pe_int (fun _ _ => rfl))) (pe_op op_mulW (pe_ix (k_ixT K) (pv 1) pe_int (fun _ _ => rfl)) (pe_ix (k_ixT K) (pv 0) pe_int (fun _ _ => rfl)))) (pa_cons (pe_op op_mulW (pe_ix (k_ixT K) (pv 0) pe_int (fun _ _ => rfl)) (pe_ix (k_ixT K) (pv 1) pe_int (fun _ _ => rfl))) pa_nil))))), ?_⟩
  exact s_ret (er_call2 (er_add (er_mul (er_ix0 (er_var rfl ra)) (er_ix1 (er_var rfl rb)) h1) (er_mul (er_ix0 (er_var rfl rb)) (er_ix1 (er_var rfl ra)) h2)) (er_mul (er_ix1 (er_var rfl ra)) (er_ix1 (er_var rfl rb)) h3) e) (Gro.refl eG) q
theorem cal_minus : Cal P w K mg base "minus" 3 ["one", "other"] (Sp2 minusM) := by
  refine cal_of (T.fn 6 6) scMinus (fun _ _ _ _ h => h.len) (fun _ _ _ _ _ _ _ us hl => match us, hl with | [_, _], _ => rfl) fun f cdv A outer s H vs Q E hr h => ?_
  obtain ⟨G, v, w', a, b, r, rfl, eG, ra, rb, e, q⟩ := h
  obtain ⟨x, h1, e⟩ := bnd e
  obtain ⟨y, h2, e⟩ := bnd e
  obtain ⟨z, h3, e⟩ := bnd e
  refine ⟨_, (pss_one (ps_ret (pe_cal (cal_fraction T) hr rfl (pa_cons (pe_op op_sub (pe_op op_mulW (pe_ix (k_ixT K) (pv 0) pe_int (fun _ _ => rfl)) (pe_ix (k_ixT K) (pv 1) pe_int (fun _ _ => rfl))) (pe_op op_mulW (pe_ix (k_ixT K) (pv 1) pe_int (fun _ _ => rfl)) (pe_ix (k_ixT K) (pv 0) pe_int (fun _ _ => rfl)))) (pa_cons (pe_op op_mulW (pe_ix (k_ixT K) (pv 0) pe_int (fun _ _ => rfl)) (pe_ix (k_ixT K) (pv 1) pe_int (fun _ _ => rfl))) pa_nil))))), ?_⟩
  exact s_ret (er_call2 (er_sub (er_mul (er_ix0 (er_var rfl ra)) (er_ix1 (er_var rfl rb)) h1) (er_mul (er_ix0 (er_var rfl rb)) (er_ix1 (er_var rfl ra)) h2)) (er_mul (er_ix1 (er_var rfl ra)) (er_ix1 (er_var rfl rb)) h3) e) (Gro.refl eG) q
theorem cal_times : Cal P w K mg base "times" 3 ["one", "number"] (Sp2 timesM) := by
  refine cal_of (T.fn 7 7) scTimes (fun _ _ _ _ h => h.len) (fun _ _ _ _ _ _ _ us hl => match us, hl with | [_, _], _ => rfl) fun f cdv A outer s H vs Q E hr h => ?_
  obtain ⟨G, v, w', a, b, r, rfl, eG, ra, rb, e, q⟩ := h
  obtain ⟨x, h1, e⟩ := bnd e
  refine ⟨_, (pss_one (ps_ret (pe_cal (cal_fraction T) hr rfl (pa_cons (pe_op op_mulW (pe_ix (k_ixT K) (pv 0) pe_int (fun _ _ => rfl)) (pv 1)) (pa_cons (pe_ix (k_ixT K) (pv 0) pe_int (fun _ _ => rfl)) pa_nil))))), ?_⟩
  exact s_ret (er_call2 (er_mul (er_ix0 (er_var rfl ra)) (er_var rfl rb) h1) (er_ix1 (er_var rfl ra)) e) (Gro.refl eG) q
theorem cal_over : Cal P w K mg base "over" 3 ["one", "number"] (Sp2 overM) := by
  refine cal_of (T.fn 8 8) scOver (fun _ _ _ _ h => h.len) (fun _ _ _ _ _ _ _ us hl => match us, hl with | [_, _], _ => rfl) fun f cdv A outer s H vs Q E hr h => ?_
  obtain ⟨G, v, w', a, b, r, rfl, eG, ra, rb, e, q⟩ := h
  obtain ⟨x, h1, e⟩ := bnd e
  refine ⟨_, (pss_one (ps_ret (pe_cal (cal_fraction T) hr rfl (pa_cons (pe_ix (k_ixT K) (pv 0) pe_int (fun _ _ => rfl)) (pa_cons (pe_op op_mulW (pe_ix (k_ixT K) (pv 0) pe_int (fun _ _ => rfl)) (pv 1)) pa_nil))))), ?_⟩
  exact s_ret (er_call2 (er_ix0 (er_var rfl ra)) (er_mul (er_ix1 (er_var rfl ra)) (er_var rfl rb) h1) e) (Gro.refl eG) q
theorem cal_is_less : Cal P w K mg base "is_less" 1 ["one", "other"] (Sp2 isLessM) := by
  refine cal_of (T.fn 9 9) scIsLess (fun _ _ _ _ h => h.len) (fun _ _ _ _ _ _ _ us hl => match us, hl with | [_, _], _ => rfl) fun f cdv A outer s H vs Q E hr h => ?_
  obtain ⟨G, v, w', a, b, r, rfl, eG, ra, rb, e, q⟩ := h
  obtain ⟨x, h1, e⟩ := bnd e
  obtain ⟨y, h2, e⟩ := bnd e
  cases e
  refine ⟨_, (pss_one (ps_ret (pe_cmpR op_lt (pe_op op_mulW (pe_ix (k_ixT K) (pv 0) pe_int (fun _ _ => rfl)) (pe_ix (k_ixT K) (pv 1) pe_int (fun _ _ => rfl))) (pe_op op_mulW (pe_ix (k_ixT K) (pv 1) pe_int (fun _ _ => rfl)) (pe_ix (k_ixT K) (pv 0) pe_int (fun _ _ => rfl))) (nomark _)))), ?_⟩
  exact s_ret (er_lt (er_mul (er_ix0 (er_var rfl ra)) (er_ix1 (er_var rfl rb)) h1) (er_mul (er_ix0 (er_var rfl rb)) (er_ix1 (er_var rfl ra)) h2)) (Gro.refl eG) q
theorem cal_lesser : Cal P w K mg base "lesser" 2 ["one", "other"] (Sp2 lesserM) := by
  refine cal_of (T.fn 10 10) scLesser (fun _ _ _ _ h => h.len) (fun _ _ _ _ _ _ _ us hl => match us, hl with | [_, _], _ => rfl) fun f cdv A outer s H vs Q E hr h => ?_
  obtain ⟨G, v, w', a, b, r, rfl, eG, ra, rb, e, q⟩ := h
  obtain ⟨x, h1, e⟩ := bnd e
  cases e
  refine ⟨_, (pss_cons (ps_if (pt_val (pe_cal (cal_is_less T) hr rfl (pa_cons (pv 1) (pa_cons (pv 0) pa_nil)))) (pss_one (ps_ret (pv 1))) pss_nil)
  (pss_one (ps_ret (pv 0)))), ?_⟩
  refine q_when (et_B (er_call2 (er_var rfl rb) (er_var rfl ra) h1)) (Gro.refl eG) (fun hx G1 H1 B1 g1 => ?_) (fun hx G1 H1 B1 g1 => ?_)
  · subst hx; exact s_ret (er_var rfl rb) B1 q
  · subst hx; exact s_ret (er_var rfl ra) B1 q
theorem cal_greater : Cal P w K mg base "greater" 2 ["one", "other"] (Sp2 greaterM) := by
  refine cal_of (T.fn 11 11) scGreater (fun _ _ _ _ h => h.len) (fun _ _ _ _ _ _ _ us hl => match us, hl with | [_, _], _ => rfl) fun f cdv A outer s H vs Q E hr h => ?_
  obtain ⟨G, v, w', a, b, r, rfl, eG, ra, rb, e, q⟩ := h
  obtain ⟨x, h1, e⟩ := bnd e
  cases e
  refine ⟨_, (pss_cons (ps_if (pt_val (pe_cal (cal_is_less T) hr rfl (pa_cons (pv 0) (pa_cons (pv 1) pa_nil)))) (pss_one (ps_ret (pv 1))) pss_nil)
  (pss_one (ps_ret (pv 0)))), ?_⟩
  refine q_when (et_B (er_call2 (er_var rfl ra) (er_var rfl rb) h1)) (Gro.refl eG) (fun hx G1 H1 B1 g1 => ?_) (fun hx G1 H1 B1 g1 => ?_)
  · subst hx; exact s_ret (er_var rfl rb) B1 q
  · subst hx; exact s_ret (er_var rfl ra) B1 q
theorem cal_share_of : Cal P w K mg base "share_of" 3 ["costs", "one", "other"] (Sp3 shareOfM) := by
  refine cal_of (T.fn 23 23) scShareOf (fun _ _ _ _ h => h.len) (fun _ _ _ _ _ _ _ us hl => match us, hl with | [_, _, _], _ => rfl) fun f cdv A outer s H vs Q E hr h => ?_
  obtain ⟨G, v, w', u', c, i, j, r, rfl, eG, rc, ri, rj, e, q⟩ := h
  obtain ⟨x, h1, e⟩ := bnd e
  obtain ⟨y, h2, e⟩ := bnd e
  refine ⟨_, (pss_one (ps_ret (pe_cal (cal_fraction T) hr rfl (pa_cons (pe_ix (k_ixL K) (pe_ix (k_ixL K) (pv 0) (pv 1) (fun _ _ => rfl)) (pv 2) (fun _ _ => rfl)) (pa_cons (pe_ix (k_ixL K) (pe_ix (k_ixL K) (pv 0) (pv 1) (fun _ _ => rfl)) (pv 1) (fun _ _ => rfl)) pa_nil))))), ?_⟩
  exact s_ret (er_call2 (er_idx2 (er_var rfl rc) (er_var rfl ri) (er_var rfl rj) h1) (er_idx2 (er_var rfl rc) (er_var rfl ri) (er_var rfl ri) h2) e) (Gro.refl eG) q
theorem cal_need_number : Cal P w K mg base "need_number" 1 ["book", "number"] (Sp2 needNumberM) := by
  refine cal_of (T.fn 0 0) scNeedNumber (fun _ _ _ _ h => h.len) (fun _ _ _ _ _ _ _ us hl => match us, hl with | [_, _], _ => rfl) fun f cdv A outer s H vs Q E hr h => ?_
  obtain ⟨G, v, w', b, k, r, rfl, eG, rb, rk, e, q⟩ := h
  unfold needNumberM at e
  split at e
  next hk =>
    refine ⟨_, (pss_one (ps_if (pt_not (pt_chain op_le op_lt pe_int (pv 1) (pe_callB (k_len K) rfl (m_len T) bt_len (pa_cons (pv 0) pa_nil)))) (pss_one ps_never) pss_nil)), ?_⟩
    refine s_when (b := false) ?_ (Gro.refl eG) (fun hx => nomatch hx) (fun hx G1 H1 B1 g1 => q _ G1 H1 B1 rfl)
    refine et_not (a := true) (et_test (er_is (er_chain (x := (0 : Int)) (y := (k : Int)) (er_c rfl) (er_int (er_var rfl rk)) (er_int (er_len (er_var rfl rb))) (rr_I0 fun _ => rfl) (rr_I0 fun _ => rfl)) ?_))
    rw [Bool.and_eq_true]
    exact ⟨decide_eq_true (by omega), decide_eq_true (by omega)⟩
  next => cases e
theorem cal_need_few : Cal P w K mg base "need_few" 1 ["book"] (Sp1 needFewM) := by
  refine cal_of (T.fn 29 29) scNeedFew (fun _ _ _ _ h => h.len) (fun _ _ _ _ _ _ _ us hl => match us, hl with | [_], _ => rfl) fun f cdv A outer s H vs Q E hr h => ?_
  obtain ⟨G, v, b, r, rfl, eG, rb, e, q⟩ := h
  unfold needFewM at e
  split at e
  next hk =>
    refine ⟨_, (pss_one (ps_if (pt_cmpR op_gt (pe_callB (k_len K) rfl (m_len T) bt_len (pa_cons (pv 0) pa_nil)) (pe_glob (v := .int 8) rfl (m_MOST_SLIPS T).choose_spec ⟨_, rfl⟩) (nomark _)) (pss_one ps_never) pss_nil)), ?_⟩
    refine s_when (et_test (er_gt (er_int (er_len (er_var rfl rb))) (er_c (x := (8 : Int)) rfl))) (Gro.refl eG) (fun hx => ?_) (fun hx G1 H1 B1 g1 => q _ G1 H1 B1 rfl)
    have := of_decide_eq_true hx
    omega
  next => cases e
omit T in
theorem compO_map {α β : Type} {f : α → Option (Option β)} {g : α → β} : ∀ {xs : List α}, (∀ x ∈ xs, f x = some (some (g x))) → compO f xs = some (xs.map g)
  | [], _ => rfl
  | x :: r, h => by
    unfold compO
    rw [h x (List.mem_cons_self ..), compO_map (xs := r) fun y hy => h y (List.mem_cons_of_mem _ hy)]
    rfl
omit T in
theorem foldO_snoc {α β : Type} {f : List β → α → Option (List β)} {g : α → β} : ∀ {xs : List α} {acc : List β}, acc.length + xs.length ≤ 1000 → (∀ a x, x ∈ xs → a.length ≤ 1000 → f a x = some (a ++ [g x])) → foldO f acc xs = some (acc ++ xs.map g)
  | [], acc, _, _ => by simp [foldO]
  | x :: r, acc, hl, h => by
    rw [List.length_cons] at hl
    unfold foldO
    rw [h acc x (List.mem_cons_self ..) (by omega)]
    show foldO f (acc ++ [g x]) r = _
    rw [foldO_snoc (xs := r) (by rw [List.length_append, List.length_singleton]; omega) fun a y hy => h a y (List.mem_cons_of_mem _ hy)]
    simp
theorem cal_cost_at : Cal P w K mg base "cost_at" 1 ["prices", "amounts"] (Sp2 costAtM) := by
  refine cal_of (T.fn 1 1) scCostAt (fun _ _ _ _ h => h.len) (fun _ _ _ _ _ _ _ us hl => match us, hl with | [_, _], _ => rfl) fun f cdv A outer s H vs Q E hr h => ?_
  obtain ⟨G, v, w', p, a, r, rfl, eG, rp, ra, e, q⟩ := h
  unfold costAtM at e
  split at e
  next hk =>
    cases e
    rw [Bool.and_eq_true] at hk
    obtain ⟨hk1, hk2⟩ := hk
    unfold okInts at hk1 hk2
    rw [Bool.and_eq_true, List.all_eq_true] at hk1 hk2
    refine ⟨_, (pss_one (ps_ret (pe_callB (k_sum K rfl) rfl (m_sum T) bt_sum (pa_cons (pe_lc (own := [("price", 2), ("amount", 3)]) rfl scCostAt.nd  (RZ.pi_zipA rfl (m_zip T) (pa_cons (pv 0) (pa_cons (pv 1) pa_nil))) (blkOk_by (N := ["prices", "amounts", "price", "amount"]) (sc := defScope sCostAt) (by decide +kernel)) (fun _ _ _ _ _ => (k_pgT K 2 rfl (pgs_cons (pg_name (i := 2) scCostAt.nd rfl (.inl rfl)) (pgs_cons (pg_name (i := 3) scCostAt.nd rfl (.inl rfl)) pgs_nil)))) (fun _ _ _ _ _ => pts_nil) (fun _ _ _ _ _ => (pe_op op_mulW (pv 2) (pv 3)))) pa_nil)))), ?_⟩
    refine s_ret (r := costAt p.l a.l) (er_sum (er_new (en_lc (f := fun (x : Int × Int) => some (some (x.1 * x.2))) (compO_map fun x _ => rfl) (ei_zipT (er_var rfl rp) (er_var rfl ra)) ?_ ?_))) (Gro.refl eG) q
    · have := of_decide_eq_true hk1.1
      rw [List.length_map, List.length_zip]; omega
    · intro x o v G1 H1 eo hx g1 rx Q' k
      cases eo
      refine gt2 rx g1.sub fun u w hu hw => ?_
      refine k _ rfl et_yes fun y ey => ?_
      cases ey
      have h1 := of_decide_eq_true (hk1.2 _ (List.of_mem_zip hx).1)
      have h2 := of_decide_eq_true (hk2.2 _ (List.of_mem_zip hx).2)
      exact er_I (f := fun i j => i * j) (er_var rfl hu) (er_var rfl hw) (wide_mul (a := 64) (b := 64) h1 h2 (by decide) (by decide) (by decide))
  next => cases e
theorem cal_costs_of : Cal P w K mg base "costs_of" 2 ["book"] (Sp1 costsM) := by
  refine cal_of (T.fn 2 2) scCostsOf (fun _ _ _ _ h => h.len) (fun _ _ _ _ _ _ _ us hl => match us, hl with | [_], _ => rfl) fun f cdv A outer s H vs Q E hr h => ?_
  obtain ⟨G, v, b, r, rfl, eG, rb, e, q⟩ := h
  unfold costsM at e
  split at e
  next hk =>
    cases e
    unfold okBook at hk
    rw [Bool.and_eq_true, List.all_eq_true] at hk
    obtain ⟨hk1, hk2⟩ := hk
    have hk1 := of_decide_eq_true hk1
    refine ⟨_, (pss_cons (ps_set (i := 1) scCostsOf.nd rfl (.inl rfl) (pe_lst pa_nil))
  (pss_cons (ps_for PassesOwn.never rfl (k_piL K (pv 0)) (k_pgT K 2 rfl (pgs_cons (pg_name (i := 2) scCostsOf.nd rfl (.inr rfl)) (pgs_cons (pg_name (i := 3) scCostsOf.nd rfl (.inl rfl)) pgs_nil)))
  (pss_one (ps_expr (pe_bm PySem.F.plainAttrs_list PySem.F.slot_list_append PySem.F.type_list_append mt_append (pv 1) (pa_cons (pe_lc (own := [("other", 4), ("amounts", 5)]) rfl scCostsOf.nd  (k_piL K (pv 0)) (blkOk_by (N := ["book", "told", "prices", "own", "other", "amounts"]) (sc := defScope sCostsOf) (by decide +kernel)) (fun _ _ _ _ _ => (k_pgT K 2 rfl (pgs_cons (pg_name (i := 4) scCostsOf.nd rfl (.inl rfl)) (pgs_cons (pg_name (i := 5) scCostsOf.nd rfl (.inl rfl)) pgs_nil)))) (fun _ _ _ _ _ => pts_nil) (fun _ _ _ _ _ => (pe_cal (cal_cost_at T) hr rfl (pa_cons (pv 2) (pa_cons (pv 5) pa_nil))))) pa_nil)))))
  (pss_one (ps_ret (pv 1))))), ?_⟩
    refine q_asgN (en_lst (xs := ([] : Costs)) el_nil (Nat.zero_le _)) (Gro.refl eG) fun l G1 H1 B1 g1 m1 _ => ?_
    refine q_for (f := fun told (x : Buy) => snocM told (b.map fun (y : Buy) => costAt x.1.l y.2.l)) (s1 := costs b) (s0 := []) ?_ (ei_list (er_var rfl rb)) B1
      (fun told σ' G' H' => ∃ x2 x3, σ' = [some v, some (.ref l), x2, x3, none, none] ∧ Ml H G' H' l told) (fun G2 H2 g2 => ⟨none, none, rfl, m1.up g2⟩) ?_ ?_ ?_
    · exact foldO_snoc (g := fun (x : Buy) => b.map fun (y : Buy) => costAt x.1.l y.2.l) (by rw [List.length_nil]; omega) fun a x _ ha => by unfold snocM; rw [if_pos ha]
    · rintro s σ' G' H' G2 H2 ⟨x2, x3, e, m⟩ g
      exact ⟨x2, x3, e, m.up g⟩
    · rintro Gb told x s' vx σ' G' H' _ ef hx _ B' ⟨x2, x3, rfl, m⟩ rx N hN
      obtain ⟨z, rfl⟩ := snocM_inv ef
      refine gt2 rx B'.sub fun u w hu hw => ?_
      refine s_app (x := b.map fun y => costAt x.1.l y.2.l) m (ev_var rfl) (er_new (en_lc (f := fun y => some (some (costAt x.1.l y.2.l))) (compO_map fun x _ => rfl) (ei_list (er_var rfl rb)) ?_ ?_)) (by omega) B' fun o G3 H3 g3 B3 m3 => ?_
      · rw [List.length_map]; omega
      · intro y o v2 G4 H4 eo hy g4 ry Q' k
        cases eo
        refine gt2 ry g4.sub fun u2 w2 hu2 hw2 => ?_
        refine k _ rfl et_yes fun z ez => ?_
        cases ez
        have h1 := hk2 _ hx
        have h2 := hk2 _ hy
        rw [Bool.and_eq_true] at h1 h2
        refine er_call2 (er_var rfl hu) (er_var rfl hw2) ?_
        unfold costAtM
        rw [h1.1, h2.2]; rfl
      · refine hN _ _ ⟨G3, inferInstance, B3, some u, some w, rfl, m3⟩
    · rintro σ' G' H' _ B' ⟨x2, x3, rfl, m⟩
      exact s_retM (ev_var rfl) B' m q
  next => cases e
end
end G3
end
/-! G3W2 -/
section
set_option Elab.async false
set_option linter.all false
set_option maxRecDepth 100000
set_option maxHeartbeats 4000000
/-! G3W2: walks: way_between. -/
namespace G3
open PySem PySem.Spec PyProof.Rows L2
open Evl (Ex fresh_back)
open Rep (rep)
theorem scWayBetween : FnScope ["ways", "one", "other", "behind", "waiting", "here", "there", "told"] ["ways", "one", "other"] (defScope sWayBetween) := ⟨rfl, rfl, rfl, by decide +kernel, rfl, by decide +kernel, by decide +kernel⟩
section
variable {P : Program} {w : World} {K : PySem.W.Frag} {mg : Str → Option Value} {base : Heap} (T : Top K mg)
include T
theorem cal_way_between : Cal P w K mg base "way_between" 1 ["ways", "one", "other"] (Sp3 wayM) := by
  refine cal_of (T.fn 12 12) scWayBetween (fun _ _ _ _ h => h.len) (fun _ _ _ _ _ _ _ us hl => match us, hl with | [_, _, _], _ => rfl) fun f cdv A outer s H vs Q E hr h => ?_
  obtain ⟨G, vw, vo, vt, ways, one, other, r, rfl, eG, rw', ro, rt, e, q⟩ := h
  cases ro; cases rt
  unfold wayM at e
  split at e
  next hl =>
    obtain ⟨s, h1, e⟩ := bnd e
    refine ⟨_, (pss_cons (ps_set (i := 3) scWayBetween.nd rfl (.inl rfl) (pe_disp (pps_cons (pv 1) pe_non pps_nil) (by rfl) (by rfl) (fun z => by cases z) (by decide)))
  (pss_cons (ps_set (i := 4) scWayBetween.nd rfl (.inl rfl) (pe_lst (pa_cons (pv 1) pa_nil)))
  (pss_cons (ps_while PassesOwn.never (PW.pt (pw_and (pt_cmpR (k_neD K hr.units) (pv 4) (pe_lst pa_nil) (nomark _)) (pw_and1 (pt_cmp (pc_dnotinN (hu_of hr) (pv 2) (pv 3)))))) (pss_cons (ps_set (i := 5) scWayBetween.nd rfl (.inl rfl) (pe_bm PySem.F.plainAttrs_list PySem.F.slot_list_pop PySem.F.type_list_pop mt_popAt (pv 4) (pa_cons pe_int pa_nil)))
  (pss_one (ps_for PassesOwn.never rfl (pi_range1 rfl (m_range T) (pa_cons (pe_callB (k_len K) rfl (m_len T) bt_len (pa_cons (pv 0) pa_nil)) pa_nil)) (pg_name (i := 6) scWayBetween.nd rfl (.inl rfl))
  (pss_one (ps_if (PW.pt (pw_and (pt_val (pe_ix (k_ixL K) (pe_ix (k_ixL K) (pv 0) (pv 5) (fun _ _ => rfl)) (pv 6) (fun _ _ => rfl))) (pw_and1 (pt_cmp (pc_dnotinN (hu_of hr) (pv 6) (pv 3)))))) (pss_cons (ps_dput (hu_of hr) (pv 3) (pv 6) (pv 5) rfl)
  (pss_one (ps_expr (pe_bm PySem.F.plainAttrs_list PySem.F.slot_list_append PySem.F.type_list_append mt_append (pv 4) (pa_cons (pv 6) pa_nil))))) pss_nil))))))
  (pss_cons (ps_if (pt_cmp (pc_dnotinN (hu_of hr) (pv 2) (pv 3))) (pss_one (ps_ret pe_non)) pss_nil)
  (pss_cons (ps_set (i := 7) scWayBetween.nd rfl (.inl rfl) (pe_lst (pa_cons (pv 2) pa_nil)))
  (pss_cons (ps_while PassesOwn.never (pt_cmpR op_ne (pe_ix (k_ixL K) (pv 7) pe_int (fun _ _ => rfl)) (pv 1) (nomark _)) (pss_one (ps_expr (pe_bm PySem.F.plainAttrs_list PySem.F.slot_list_insert PySem.F.type_list_insert mt_insX (pv 7) (pa_cons pe_int (pa_cons (pe_dget (hu_of hr) (pv 3) (pe_ix (k_ixL K) (pv 7) pe_int (fun _ _ => rfl)) (fun _ _ => rfl)) pa_nil))))))
  (pss_one (ps_ret (pv 7))))))))), ?_⟩
    refine q_asgD1 (x := (none : Option Nat)) (er_n (n := one) rfl) (er_c (x := (none : Option Nat)) rfl) (Gro.refl eG) fun d G1 H1 B1 g1 md1 _ => ?_
    refine q_asgN (xs := [one]) (en_lst (el_cons (er_n rfl) el_nil) (by simp)) B1 fun l G2 H2 B2 g2 ml2 _ => ?_
    refine q_while h1 B2 (fun s σ' G' H' => ∃ x5 x6, σ' = [some vw, some (.int one), some (.int other), some (.ref d), some (.ref l), x5, x6, none] ∧ Md H G' H' d s.1 ∧ Ml H G' H' l s.2) ⟨none, none, rfl, md1.up g2, ml2⟩ ?_ ?_ ?_ ?_
    · rintro s k σ' G' H' ec _ B' ⟨x5, x6, rfl, md, ml⟩
      cases ec
      exact et_and (et_test (er_neNilM ml (ev_var rfl) (Nat.zero_le _))) fun _ => et_B (er_dnotinM md (er_n rfl) (ev_var rfl))
    · rintro s σ' G' H' G3 H3 ⟨x5, x6, rfl, md, ml⟩ g
      exact ⟨x5, x6, rfl, md.up g, ml.up g⟩
    · rintro ⟨beh, wt⟩ s' σ' G' H' ec ef gst B' ⟨x5, x6, rfl, md, ml⟩
      unfold bfsStep at ef
      cases wt with
      | nil => cases ef
      | cons here rest =>
        have ef : foldO (bfsTurn ways here) (beh, rest) (List.range ways.length) = some s' := ef
        refine q_asgPop0 ml (ev_var rfl) B' fun v o G3 H3 g3 B3 ml3 rv => ?_
        cases rv
        have md3 : Md H G3 (upd H3 l o) d beh := (md.up g3).oth (md_ne_ml md ml)
        refine s_for ef (ei_range (er_len (er_var rfl rw')) (by omega)) B3
          (fun s σ' G' H' => ∃ x6, σ' = [some vw, some (.int one), some (.int other), some (.ref d), some (.ref l), some (.int here), x6, none] ∧ Md H G' H' d s.1 ∧ Ml H G' H' l s.2) (fun G4 H4 g4 => ⟨x6, rfl, md3.up g4, ml3.up g4⟩) ?_ ?_ ?_
        · rintro s σ' G' H' G3 H3 ⟨x6, rfl, md, ml⟩ g
          exact ⟨x6, rfl, md.up g, ml.up g⟩
        · rintro Gb ⟨beh, wt⟩ there s' vx σ' G5 H5 _ ef hx _ B5 ⟨x6, rfl, md, ml⟩ rx N hN
          cases rx
          unfold bfsTurn at ef
          obtain ⟨b, h2, ef⟩ := bnd ef
          refine s_when (b := b && !hasN beh there) (et_and (et_B (er_idx2 (er_var rfl rw') (er_n rfl) (er_n rfl) h2)) fun _ => et_B (er_dnotinM md (er_n rfl) (ev_var rfl))) B5 (fun hx G6 H6 B6 g6 => ?_) (fun hx G6 H6 B6 g6 => ?_)
          · have ef : (if (b && !hasN beh there) = true then (if beh.length ≤ 1000 then (snocM wt there).bind fun q => some (putN beh there (some here), q) else none) else some (beh, wt)) = some s' := ef
            rw [if_pos hx] at ef
            split at ef
            next hz =>
              obtain ⟨qq, h3, ef⟩ := bnd ef
              obtain ⟨hz2, rfl⟩ := snocM_inv h3
              cases ef
              refine q_dput (x := some here) (md.up g6) (er_n rfl) (ev_var rfl) (er_n rfl) hz B6 fun o G7 H7 g7 B7 md7 => ?_
              have ml7 := ((ml.up g6).up g7).oth (o := o) (md_ne_ml (md.up g6) (ml.up g6)).symm
              refine s_app ml7 (ev_var rfl) (er_n rfl) (show wt.length < 100000 by omega) B7 fun o2 G8 H8 g8 B8 ml8 => ?_
              exact hN _ _ ⟨G8, inferInstance, B8, _, rfl, (md7.up g8).oth (md_ne_ml md7 ml7), ml8⟩
            next => cases ef
          · have ef : (if (b && !hasN beh there) = true then (if beh.length ≤ 1000 then (snocM wt there).bind fun q => some (putN beh there (some here), q) else none) else some (beh, wt)) = some s' := ef
            rw [if_neg (by rw [hx]; decide)] at ef
            cases ef
            exact hN _ _ ⟨G6, inferInstance, B6, _, rfl, md.up g6, ml.up g6⟩
        · rintro σ' G5 H5 _ B5 ⟨x6, rfl, md, ml⟩
          exact ⟨G5, inferInstance, B5, _, _, rfl, md, ml⟩
    · rintro σ' G3 H3 _ _ B3 ⟨x5, x6, rfl, md, ml⟩
      refine q_when (et_B (er_dnotinM md (er_n rfl) (ev_var rfl))) B3 (fun hx G6 H6 B6 g6 => ?_) (fun hx G6 H6 B6 g6 => ?_)
      · rw [if_neg (by simpa using hx)] at e
        cases e
        exact s_ret (r := (none : Option (List Nat))) (er_c rfl) B6 q
      · rw [if_pos (by simpa using hx)] at e
        obtain ⟨told, h3, e⟩ := bnd e
        cases e
        refine q_asgN (xs := [other]) (en_lst (el_cons (er_n rfl) el_nil) (by simp)) B6 fun l2 G7 H7 B7 g7 ml7 _ => ?_
        refine q_while h3 B7 (fun tl σ' G' H' => σ' = [some vw, some (.int one), some (.int other), some (.ref d), some (.ref l), x5, x6, some (.ref l2)] ∧ Md H G' H' d s.1 ∧ Ml H G' H' l2 tl) ⟨rfl, (md.up g6).up g7, ml7⟩ ?_ ?_ ?_ ?_
        · rintro tl k σ' G' H' ec _ B' ⟨rfl, md, ml⟩
          obtain ⟨h, h4, ec⟩ := bnd ec
          cases ec
          exact et_test (er_neN (er_mAt ml (ev_var rfl) (er_c (x := (0 : Nat)) rfl) h4) (er_n rfl))
        · rintro tl σ' G' H' G3 H3 ⟨rfl, md, ml⟩ g
          exact ⟨rfl, md.up g, ml.up g⟩
        · rintro tl s' σ' G' H' ec ef _ B' ⟨rfl, md, ml⟩
          obtain ⟨h, h4, ef⟩ := bnd ef
          obtain ⟨p, h5, ef⟩ := bnd ef
          obtain ⟨qq, rfl, ef⟩ := bnd ef
          split at ef
          next hz =>
            cases ef
            refine s_ins0 (x := qq) ml (ev_var rfl) (er_ofSome (er_dgetM md (ev_var rfl) (er_mAt ml (ev_var rfl) (er_c (x := (0 : Nat)) rfl) h4) h5)) hz B' fun o G8 H8 g8 B8 ml8 => ?_
            exact ⟨G8, inferInstance, B8, rfl, (md.up g8).oth (md_ne_ml md ml), ml8⟩
          next => cases ef
        · rintro σ' G8 H8 _ _ B8 ⟨rfl, md, ml⟩
          obtain ⟨G9, B9, e9, r9⟩ := ml.frz B8
          exact s_retV (ev_var rfl) B8 fun G1 H1 B1 g1 => Back.frz (xs := told) (fun v G2 H2 g2 r2 => q v G2 H2 g2 (show repO G2 v (some told) from r2)) B1 (ml.up g1)
  next => cases e
end
end G3
end
/-! G3W3 -/
section
set_option Elab.async false
set_option linter.all false
set_option maxRecDepth 100000
set_option maxHeartbeats 4000000
/-! G3W3: walks: open_ways, barring_round, top_class, stand_no_lower. -/
namespace G3
open PySem PySem.Spec PyProof.Rows L2
open Evl (Ex fresh_back)
open Rep (rep)
theorem scOpenWays : FnScope ["costs", "many", "told", "k", "j"] ["costs"] (defScope sOpenWays) := ⟨rfl, rfl, rfl, by decide +kernel, rfl, by decide +kernel, by decide +kernel⟩
theorem scBarringRound : FnScope ["costs", "ways", "k", "j", "way"] ["costs", "ways"] (defScope sBarringRound) := ⟨rfl, rfl, rfl, by decide +kernel, rfl, by decide +kernel, by decide +kernel⟩
theorem scTopClass : FnScope ["ways", "left", "k", "above", "j"] ["ways", "left"] (defScope sTopClass) := ⟨rfl, rfl, rfl, by decide +kernel, rfl, by decide +kernel, by decide +kernel⟩
theorem scStandNoLower : FnScope ["book", "number", "ways", "k"] ["book", "number"] (defScope sStandNoLower) := ⟨rfl, rfl, rfl, by decide +kernel, rfl, by decide +kernel, by decide +kernel⟩
section
variable {P : Program} {w : World} {K : PySem.W.Frag} {mg : Str → Option Value} {base : Heap} (T : Top K mg)
theorem compO_len {α β : Type} {f : α → Option (Option β)} : ∀ {xs : List α} {ys : List β}, compO f xs = some ys → ys.length ≤ xs.length
  | [], ys, h => by cases h; exact Nat.le_refl _
  | x :: r, ys, h => by
    obtain ⟨o, l', h1, h2, rfl⟩ := compO_cons h
    have := compO_len h2
    rw [List.length_append, List.length_cons]
    cases o <;> simp <;> omega
include T
theorem cal_open_ways : Cal P w K mg base "open_ways" 1 ["costs"] (Sp1 openWaysM) := by
  refine cal_of (T.fn 13 13) scOpenWays (fun _ _ _ _ h => h.len) (fun _ _ _ _ _ _ _ us hl => match us, hl with | [_], _ => rfl) fun f cdv A outer s H vs Q E hr h => ?_
  obtain ⟨G, vc, c, r, rfl, eG, rc, e, q⟩ := h
  unfold openWaysM at e
  split at e
  next hl =>
    refine ⟨_, (pss_cons (ps_set (i := 1) scOpenWays.nd rfl (.inl rfl) (pe_listRg rfl rfl (m_list T) (prg_1 rfl (m_range T) (pe_callB (k_len K) rfl (m_len T) bt_len (pa_cons (pv 0) pa_nil)))))
  (pss_cons (ps_set (i := 2) scOpenWays.nd rfl (.inl rfl) (pe_lst pa_nil))
  (pss_cons (ps_for PassesOwn.never rfl (k_piL K (pv 1)) (pg_name (i := 3) scOpenWays.nd rfl (.inr rfl))
  (pss_one (ps_expr (pe_bm PySem.F.plainAttrs_list PySem.F.slot_list_append PySem.F.type_list_append mt_append (pv 2) (pa_cons (pe_lc (own := [("j", 4)]) rfl scOpenWays.nd  (k_piL K (pv 1)) (blkOk_by (N := ["costs", "many", "told", "k", "j"]) (sc := defScope sOpenWays) (by decide +kernel)) (fun _ _ _ _ _ => (pg_name (i := 4) scOpenWays.nd rfl (.inl rfl))) (fun _ _ _ _ _ => pts_nil) (fun _ _ _ _ _ => (pe_and (pe_cmpR op_ne (pv 4) (pv 3) (nomark _)) (pe_one (pe_cmpR op_le (pe_ix (k_ixL K) (pe_ix (k_ixL K) (pv 0) (pv 3) (fun _ _ => rfl)) (pv 4) (fun _ _ => rfl)) (pe_ix (k_ixL K) (pe_ix (k_ixL K) (pv 0) (pv 3) (fun _ _ => rfl)) (pv 3) (fun _ _ => rfl)) (nomark _)))))) pa_nil)))))
  (pss_one (ps_ret (pv 2)))))), ?_⟩
    refine q_asg (x := List.range c.length) (er_new (en_listRg (er_len (er_var rfl rc)) (by omega))) (Gro.refl eG) fun vm G1 H1 B1 g1 rm => ?_
    refine q_asgN (xs := ([] : List (List Bool))) (en_lst el_nil (Nat.zero_le _)) B1 fun l G2 H2 B2 g2 ml2 _ => ?_
    refine q_for e (ei_list (er_var rfl rm)) B2 (fun told σ' G' H' => ∃ x3, σ' = [some vc, some vm, some (.ref l), x3, none] ∧ Ml H G' H' l told) (fun G3 H3 g3 => ⟨none, rfl, ml2.up g3⟩) ?_ ?_ ?_
    · rintro s σ' G' H' G3 H3 ⟨x3, rfl, ml⟩ g
      exact ⟨x3, rfl, ml.up g⟩
    · rintro Gb told k s' vx σ' G5 H5 _ ef hx _ B5 ⟨x3, rfl, ml⟩ rx N hN
      cases rx
      obtain ⟨row, h2, ef⟩ := bnd ef
      obtain ⟨hz, rfl⟩ := snocM_inv ef
      have hrow := compO_len h2
      rw [List.length_range] at hrow
      refine s_app ml (ev_var rfl) (er_new (en_lcn h2 (ei_list (er_var rfl rm)) (by omega) (fun _ => rfl) ?_)) (by omega) B5 fun o G6 H6 g6 B6 ml6 => ?_
      · intro j o v G6 H6 eo hx g6 rv
        cases rv
        unfold owCell at eo
        split at eo
        next hjk =>
          obtain ⟨x, h3, eo⟩ := bnd eo
          obtain ⟨y, h4, eo⟩ := bnd eo
          cases eo
          refine ⟨et_yes, fun z ez => ?_⟩
          cases ez
          refine er_is (er_andV (er_neN (er_n rfl) (er_n rfl)) fun _ => er_le (er_idx2 (er_var rfl rc) (er_n rfl) (er_n rfl) h3) (er_idx2 (er_var rfl rc) (er_n rfl) (er_n rfl) h4)) ?_
          rw [decide_eq_false hjk]; rfl
        next hjk =>
          cases eo
          refine ⟨et_yes, fun z ez => ?_⟩
          cases ez
          have hjk : j = k := by omega
          refine er_is (er_andV (b := false) (er_neN (er_n rfl) (er_n rfl)) fun hh => ?_) ?_
          · rw [decide_eq_true hjk] at hh; cases hh
          · rw [decide_eq_true hjk]; rfl
      · exact hN _ _ ⟨G6, inferInstance, B6, _, rfl, ml6⟩
    · rintro σ' G5 H5 _ B5 ⟨x3, rfl, ml⟩
      exact s_retM (ev_var rfl) B5 ml q
  next => cases e
theorem cal_barring_round : Cal P w K mg base "barring_round" 2 ["costs", "ways"] (Sp2 barringM) := by
  refine cal_of (T.fn 14 14) scBarringRound (fun _ _ _ _ h => h.len) (fun _ _ _ _ _ _ _ us hl => match us, hl with | [_, _], _ => rfl) fun f cdv A outer s H vs Q E hr h => ?_
  obtain ⟨G, vc, vw, c, ways, r, rfl, eG, rc, rw', e, q⟩ := h
  unfold barringM at e
  split at e
  next hl =>
    obtain ⟨o, h1, e⟩ := bnd e
    cases e
    refine ⟨_, (pss_cons (ps_for PassesOwn.never rfl (pi_range1 rfl (m_range T) (pa_cons (pe_callB (k_len K) rfl (m_len T) bt_len (pa_cons (pv 0) pa_nil)) pa_nil)) (pg_name (i := 2) scBarringRound.nd rfl (.inl rfl))
  (pss_one (ps_for PassesOwn.never rfl (pi_range1 rfl (m_range T) (pa_cons (pe_callB (k_len K) rfl (m_len T) bt_len (pa_cons (pv 0) pa_nil)) pa_nil)) (pg_name (i := 3) scBarringRound.nd rfl (.inl rfl))
  (pss_one (ps_if (pt_cmpR op_lt (pe_ix (k_ixL K) (pe_ix (k_ixL K) (pv 0) (pv 2) (fun _ _ => rfl)) (pv 3) (fun _ _ => rfl)) (pe_ix (k_ixL K) (pe_ix (k_ixL K) (pv 0) (pv 2) (fun _ _ => rfl)) (pv 2) (fun _ _ => rfl)) (nomark _)) (pss_cons (ps_set (i := 4) scBarringRound.nd rfl (.inl rfl) (pe_cal (cal_way_between T) hr rfl (pa_cons (pv 1) (pa_cons (pv 3) (pa_cons (pv 2) pa_nil)))))
  (pss_one (ps_if (pt_cmpR op_notX (pv 4) pe_non (nomark _)) (pss_one (ps_ret (pv 4))) pss_nil))) pss_nil)))))
  (pss_one (ps_ret pe_non))), ?_⟩
    refine q_forr h1 (ei_range (er_len (er_var rfl rc)) (by omega)) (Gro.refl eG) (fun _ σ' G' H' => ∃ x2 x3 x4, σ' = [some vc, some vw, x2, x3, x4]) (fun G3 H3 g3 => ⟨none, none, none, rfl⟩) ?_ ?_ ?_
    · rintro s σ' G' H' G3 H3 ⟨x2, x3, x4, rfl⟩ g
      exact ⟨x2, x3, x4, rfl⟩
    · rintro Gb _ k o' vx σ' G5 H5 _ ef hx hret _ B5 ⟨x2, x3, x4, rfl⟩ rx
      cases rx
      refine s_forr ef (ei_range (er_len (er_var rfl rc)) (by omega)) B5 (fun _ σ' G' H' => ∃ x3 x4, σ' = [some vc, some vw, some (.int k), x3, x4]) (fun G3 H3 g3 => ⟨x3, x4, rfl⟩) ?_ ?_ ?_
      · rintro s σ' G' H' G3 H3 ⟨x3, x4, rfl⟩ g
        exact ⟨x3, x4, rfl⟩
      · rintro Gc _ j o2 vx σ' G6 H6 _ ef hx hret2 _ B6 ⟨x3, x4, rfl⟩ rx
        cases rx
        unfold brTurn at ef
        obtain ⟨x, h2, ef⟩ := bnd ef
        obtain ⟨y, h3, ef⟩ := bnd ef
        refine s_when (et_test (er_lt (er_idx2 (er_var rfl rc) (er_n rfl) (er_n rfl) h2) (er_idx2 (er_var rfl rc) (er_n rfl) (er_n rfl) h3))) B6 (fun hx G7 H7 B7 g7 => ?_) (fun hx G7 H7 B7 g7 => ?_)
        · rw [if_pos (of_decide_eq_true hx)] at ef
          obtain ⟨wo, h4, ef⟩ := bnd ef
          refine q_asg (er_call3 (er_var rfl rw') (er_n rfl) (er_n rfl) h4) B7 fun v G8 H8 B8 g8 r8 => ?_
          refine s_when (et_test (er_notN (er_var rfl r8))) B8 (fun hx G9 H9 B9 g9 => ?_) (fun hx G9 H9 B9 g9 => ?_)
          · cases wo with
            | none => cases hx
            | some p =>
              cases ef
              have eo := hret p (hret2 p rfl)
              subst eo
              exact s_ret (r := some p) (er_var rfl r8) B9 q
          · cases wo with
            | some p => cases hx
            | none =>
              cases ef
              exact ⟨(), rfl, G9, inferInstance, B9, _, _, rfl⟩
        · rw [if_neg (of_decide_eq_false hx)] at ef
          cases ef
          exact ⟨(), rfl, G7, inferInstance, B7, _, _, rfl⟩
      · rintro _ σ' G6 H6 eo _ B6 ⟨x3, x4, rfl⟩
        exact ⟨(), eo, G6, inferInstance, B6, _, _, _, rfl⟩
    · rintro _ σ' G6 H6 eo _ B6 ⟨x2, x3, x4, rfl⟩
      subst eo
      exact s_ret (r := (none : Option (List Nat))) (er_c rfl) B6 q
  next => cases e
theorem cal_top_class : Cal P w K mg base "top_class" 2 ["ways", "left"] (Sp2 topClassM) := by
  refine cal_of (T.fn 15 15) scTopClass (fun _ _ _ _ h => h.len) (fun _ _ _ _ _ _ _ us hl => match us, hl with | [_, _], _ => rfl) fun f cdv A outer s H vs Q E hr h => ?_
  obtain ⟨G, vw, vl, ways, left, r, rfl, eG, rw', rl, e, q⟩ := h
  unfold topClassM at e
  split at e
  next hl =>
    obtain ⟨o, h1, e⟩ := bnd e
    cases e
    refine ⟨_, (pss_cons (ps_for PassesOwn.never rfl (k_piL K (pv 1)) (pg_name (i := 2) scTopClass.nd rfl (.inr rfl))
  (pss_cons (ps_setLc (i := 3) (own := [("j", 4)]) rfl scTopClass.nd rfl rfl (sw_true rfl rfl rfl (by decide +kernel)) (k_piL K (pv 1)) (blkOk_by (N := ["ways", "left", "k", "above", "j"]) (sc := defScope sTopClass) (by decide +kernel)) (fun _ _ _ _ _ => (pg_name (i := 4) scTopClass.nd rfl (.inl rfl))) (fun _ _ _ _ _ => pts_one (pt_cmpR op_notX (pe_cal (cal_way_between T) hr rfl (pa_cons (pv 0) (pa_cons (pv 4) (pa_cons (pv 2) pa_nil)))) pe_non (nomark _))) (fun _ _ _ _ _ => (pv 4)))
  (pss_one (ps_if (pt_val (pe_callB (k_all K rfl) rfl (m_all T) bt_all (pa_cons (pe_lc (own := [("j", 4)]) rfl scTopClass.nd  (k_piL K (pv 3)) (blkOk_by (N := ["ways", "left", "k", "above", "j"]) (sc := defScope sTopClass) (by decide +kernel)) (fun _ _ _ _ _ => (pg_name (i := 4) scTopClass.nd rfl (.inl rfl))) (fun _ _ _ _ _ => pts_nil) (fun _ _ _ _ _ => (pe_cmpR op_notX (pe_cal (cal_way_between T) hr rfl (pa_cons (pv 0) (pa_cons (pv 2) (pa_cons (pv 4) pa_nil)))) pe_non (nomark _)))) pa_nil))) (pss_one (ps_ret (pv 3))) pss_nil))))
  (pss_one (ps_ret (pe_lst pa_nil)))), ?_⟩
    refine q_forr h1 (ei_list (er_var rfl rl)) (Gro.refl eG) (fun _ σ' G' H' => ∃ x2 x3, σ' = [some vw, some vl, x2, x3, none]) (fun G3 H3 g3 => ⟨none, none, rfl⟩) ?_ ?_ ?_
    · rintro s σ' G' H' G3 H3 ⟨x2, x3, rfl⟩ g
      exact ⟨x2, x3, rfl⟩
    · rintro Gb _ k o' vx σ' G5 H5 _ ef hx hret _ B5 ⟨x2, x3, rfl⟩ rx
      cases rx
      unfold tcTurn at ef
      obtain ⟨above, h2, ef⟩ := bnd ef
      obtain ⟨bs, h3, ef⟩ := bnd ef
      have ha := compO_len h2
      have hb := compO_len h3
      refine q_asg (er_new (en_lcn h2 (ei_list (er_var rfl rl)) (by omega) (fun _ => rfl) ?_)) B5 fun v G6 H6 B6 g6 r6 => ?_
      · intro j o v G6 H6 eo hx g6 rv
        cases rv
        obtain ⟨wo, h4, eo⟩ := bnd eo
        cases eo
        refine ⟨et_is (et_test (er_notN (er_call3 (er_var rfl rw') (er_n rfl) (er_n rfl) h4))) (by cases wo <;> rfl), fun y ey => ?_⟩
        split at ey
        · cases ey; exact er_n rfl
        · cases ey
      refine s_when (et_B (er_all (er_new (en_lcn h3 (ei_list (er_var rfl r6)) (by omega) (fun _ => rfl) ?_)))) B6 (fun hx G7 H7 B7 g7 => ?_) (fun hx G7 H7 B7 g7 => ?_)
      · intro j o v G6 H6 eo hx g6 rv
        cases rv
        obtain ⟨wo, h4, eo⟩ := bnd eo
        cases eo
        refine ⟨et_yes, fun y ey => ?_⟩
        cases ey
        exact er_notN (er_call3 (er_var rfl rw') (er_n rfl) (er_n rfl) h4)
      · rw [if_pos hx] at ef
        cases ef
        have eo := hret above rfl
        subst eo
        exact s_ret (er_var rfl r6) B7 q
      · rw [if_neg (by rw [hx]; decide)] at ef
        cases ef
        exact ⟨(), rfl, G7, inferInstance, B7, _, _, rfl⟩
    · rintro _ σ' G6 H6 eo _ B6 ⟨x2, x3, rfl⟩
      subst eo
      exact s_ret (r := ([] : List Nat)) (er_new (en_lst el_nil (Nat.zero_le _))) B6 q
  next => cases e
theorem cal_stand_no_lower : Cal P w K mg base "stand_no_lower" 3 ["book", "number"] (Sp2 standM) := by
  refine cal_of (T.fn 28 28) scStandNoLower (fun _ _ _ _ h => h.len) (fun _ _ _ _ _ _ _ us hl => match us, hl with | [_, _], _ => rfl) fun f cdv A outer s H vs Q E hr h => ?_
  obtain ⟨G, vb, vk, b, k, r, rfl, eG, rb, rk, e, q⟩ := h
  cases rk
  obtain ⟨_, h1, e⟩ := bnd e
  obtain ⟨c, h2, e⟩ := bnd e
  obtain ⟨ways, h3, e⟩ := bnd e
  split at e
  next hl =>
    refine ⟨_, (pss_cons (ps_expr (pe_cal (cal_need_number T) (hr.mono (by decide)) rfl (pa_cons (pv 0) (pa_cons (pv 1) pa_nil))))
  (pss_cons (ps_set (i := 2) scStandNoLower.nd rfl (.inr rfl) (pe_cal (cal_open_ways T) (hr.mono (by decide)) rfl (pa_cons (pe_cal (cal_costs_of T) hr rfl (pa_cons (pv 0) pa_nil)) pa_nil)))
  (pss_one (ps_ret (pe_lc (own := [("k", 3)]) rfl scStandNoLower.nd  (pi_range1 rfl (m_range T) (pa_cons (pe_callB (k_len K) rfl (m_len T) bt_len (pa_cons (pv 0) pa_nil)) pa_nil)) (blkOk_by (N := ["book", "number", "ways", "k"]) (sc := defScope sStandNoLower) (by decide +kernel)) (fun _ _ _ _ _ => (pg_name (i := 3) scStandNoLower.nd rfl (.inl rfl))) (fun _ _ _ _ _ => pts_one (pt_cmpR op_notX (pe_cal (cal_way_between T) (hr.mono (by decide)) rfl (pa_cons (pv 2) (pa_cons (pv 3) (pa_cons (pv 1) pa_nil)))) pe_non (nomark _))) (fun _ _ _ _ _ => (pv 3))))))), ?_⟩
    refine q_drop (v := .non) (EvR.val (er_call2 (er_var rfl rb) (er_n rfl) h1) fun _ _ r => r) (Gro.refl eG) fun G1 H1 B1 g1 => ?_
    refine q_asg (er_call1 (er_call1 (er_var rfl rb) h2) h3) B1 fun vw G2 H2 B2 g2 r2 => ?_
    have ha := compO_len e
    rw [List.length_range] at ha
    refine s_ret (er_new (en_lcn e (ei_range (er_len (er_var rfl rb)) (by omega)) (by omega) (fun _ => rfl) ?_)) B2 q
    intro j o v G6 H6 eo hx g6 rv
    cases rv
    obtain ⟨wo, h4, eo⟩ := bnd eo
    cases eo
    refine ⟨et_is (et_test (er_notN (er_call3 (er_var rfl r2) (er_n rfl) (er_n rfl) h4))) (by cases wo <;> rfl), fun y ey => ?_⟩
    split at ey
    · cases ey; exact er_n rfl
    · cases ey
  next => cases e
end
end G3
end
/-! G3Base5 -/
section
set_option Elab.async false
set_option linter.all false
set_option maxRecDepth 100000
set_option maxHeartbeats 4000000
/-! G3Base5: a loop over a dict's keys (the dict locked); anything; the promises of step_worth and lowered. -/
namespace G3
open PySem PySem.Spec PyProof.Rows L2
open Evl (Ex fresh_back)
open Rep (rep)
instance : Rep AnyD := ⟨fun _ _ _ => True, fun _ h => h⟩
/-- a dict of our own, locked -/
structure Lk {α : Type} [Rep α] (H0 G H : Hp) (d : Addr) (od : Obj) (kv : List (Key × V)) (kvs : List (Nat × α)) : Prop where
  ex : H d = some (.frz od (.dK kv))
  r : RepD G kv kvs
  h0 : H0 d = none
  hG : G d = none
section
variable {α S : Type} [Rep α] {G H G0 H0 G1 H1 : Hp} {d : Addr} {od : Obj} {kv : List (Key × V)} {kvs : List (Nat × α)} {x : α} {k : Nat} {σ : L2.St} {td ty : TE} {D : Ends} {tz tu : TS} {g : TG} {K : PySem.W.Frag} {s0 : S}
theorem Lk.up (m : Lk H0 G H d od kv kvs) (g : Gro G H G1 H1) : Lk H0 G1 H1 d od kv kvs := ⟨g.h _ _ m.ex, m.r.mono g.g, m.h0, g.none m.ex m.hG⟩
theorem er_dgetF (m : Lk H0 G H d od kv kvs) (h : EvV td σ G H (.ref d)) (h2 : EvR ty σ G H k) (e : lookN kvs k = some x) : EvR (tDGet td ty) σ G H x := fun G1 H1 g Q q => h G1 H1 g _ fun G2 H2 g2 => h2 G2 H2 (g.trans g2) _ fun v G3 H3 g3 r => by
  cases r
  obtain ⟨v, e1, e2⟩ := m.r.look e
  have gg := (g.trans g2).trans g3
  exact ⟨d, v, rfl, .inl ⟨kv, ky k, .inr ⟨od, gg.h _ _ m.ex⟩, rfl, e1.symm⟩, q v G3 H3 (g2.trans g3) (Rep.mono gg.g e2)⟩
/-- for k in d: d is locked within -/
theorem s_forK {f : S → Nat → Option S} {s1 : S} {i : Nat} (hf : foldO f s0 (kvs.map (·.1)) = some s1) (m : Md H0 G H d kvs) (hσ : σ[i]? = some (some (.ref d))) (B : Gro G0 H0 G H) (I : S → L2.St → Hp → Hp → Prop) (h0 : I s0 σ G H)
    (hi : ∀ s σ' G' H' G2 H2, I s σ' G' H' → Gro G' H' G2 H2 → I s σ' G2 H2)
    (hU : ∀ s σ' G' H' o, I s σ' G' H' → I s σ' G' (upd H' d o))
    (hs : ∀ od kv G1 s (x : Nat) s' σ' G' H', GSt G G1 → f s x = some s' → GSt G1 G' → Gro G0 H0 G' H' → I s σ' G' H' → Lk H0 G' H' d od kv kvs → ∀ N : L2.St → Hp → Prop, (∀ σ2 H2, At G0 H0 G1 (fun σ G H => I s' σ G H ∧ Lk H0 G H d od kv kvs) σ2 H2 → N σ2 H2) → g (.int (x : Int)) σ' H' fun σ2 H2 => tu { nx := N, rt := fun v H' => H' d = some (.frz od (.dK kv)) ∧ D.rt v (upd H' d (.dK kv)), ct := N, bk := fun σ' H' => H' d = some (.frz od (.dK kv)) ∧ D.nx σ' (upd H' d (.dK kv)) } σ2 H2)
    (hd : ∀ σ' G' H', GSt G G' → Gro G0 H0 G' H' → I s1 σ' G' H' → Md H0 G' H' d kvs → D.nx σ' H') : tLock (tFor (iKeys (tVar i)) g tu) D σ H := by
  obtain ⟨kv, e1, e2⟩ := m.ex
  refine ⟨d, .dK kv, e1, trivial, fun od => ?_⟩
  have B1 : Gro G0 H0 G (upd H d (.frz od (.dK kv))) := B.mut m.h0 m.hG
  have L1 : Lk H0 G (upd H d (.frz od (.dK kv))) d od kv kvs := ⟨upd_same, e2, m.h0, m.hG⟩
  refine ⟨.ref d, hσ, d, od, rfl, .inl ⟨kv, upd_same, ?_⟩⟩
  have hlen := e2.length
  refine for_core (n := kv.length) (fun i σ' H' => ∃ s, foldO f s ((kvs.map (·.1)).drop i) = some s1 ∧ ∃ G', Ex G G' ∧ Gro G0 H0 G' H' ∧ I s σ' G' H' ∧ Lk H0 G' H' d od kv kvs) ⟨s0, hf, G, Ex.refl G, B1, hU _ _ _ _ _ h0, L1⟩ ?_ ?_
  · intro i σ' H' hi' ⟨s, hs1, G', x1, x2, x3, x4⟩
    have hlt : i < (kvs.map (·.1)).length := by rw [List.length_map, ← hlen]; exact hi'
    rw [List.drop_eq_getElem_cons hlt] at hs1
    obtain ⟨s', q1, q3⟩ := foldO_cons hs1
    refine ⟨⟨x4.ex, hi'⟩, At G0 H0 G (fun σ G H => I s' σ G H ∧ Lk H0 G H d od kv kvs), fun σ2 H2 z => ?_, fun v H2 y => ?_⟩
    · obtain ⟨G2, y1, y2, y3, y4⟩ := z
      exact ⟨s', q3, G2, y1.ex, y2, y3, y4⟩
    · obtain ⟨e, k, u, hk, e3⟩ := y
      subst e
      have hkk : kv.map (fun p => p.1) = kvs.map fun p => ky p.1 := e2.keys
      have h3 : (kv.map (fun p => p.1))[i]? = some k := by rw [List.getElem?_map, hk]; rfl
      rw [hkk, List.getElem?_map] at h3
      have h4 : kvs[i]? = some (kvs[i]'(by rw [← hlen]; exact hi')) := List.getElem?_eq_getElem _
      rw [h4] at h3
      cases h3
      have e4 : v = .int (((kvs.map (fun p => p.1))[i]'hlt : Nat) : Int) := by rw [e3, List.getElem_map]; rfl
      rw [e4]
      exact hs od kv G s _ s' σ' G' H2 ⟨Ex.refl G⟩ q1 ⟨x1⟩ x2 x3 x4 _ fun σ2 H2 z => z
  · intro σ' H' ⟨s, hs1, G', x1, x2, x3, x4⟩
    rw [List.drop_of_length_le (by rw [List.length_map, hlen]; exact Nat.le_refl _)] at hs1
    cases hs1
    exact ⟨⟨x4.ex, Nat.le_refl _⟩, x4.ex, hd σ' G' _ ⟨x1⟩ (x2.mut x4.h0 x4.hG) (hU _ _ _ _ _ x3) ⟨⟨kv, upd_same, x4.r⟩, x4.h0, x4.hG⟩⟩
theorem q_forK {f : S → Nat → Option S} {s1 : S} {i : Nat} (hf : foldO f s0 (kvs.map (·.1)) = some s1) (m : Md H0 G H d kvs) (hσ : σ[i]? = some (some (.ref d))) (B : Gro G0 H0 G H) (I : S → L2.St → Hp → Hp → Prop) (h0 : I s0 σ G H)
    (hi : ∀ s σ' G' H' G2 H2, I s σ' G' H' → Gro G' H' G2 H2 → I s σ' G2 H2)
    (hU : ∀ s σ' G' H' o, I s σ' G' H' → I s σ' G' (upd H' d o))
    (hs : ∀ od kv G1 s (x : Nat) s' σ' G' H', GSt G G1 → f s x = some s' → GSt G1 G' → Gro G0 H0 G' H' → I s σ' G' H' → Lk H0 G' H' d od kv kvs → ∀ N : L2.St → Hp → Prop, (∀ σ2 H2, At G0 H0 G1 (fun σ G H => I s' σ G H ∧ Lk H0 G H d od kv kvs) σ2 H2 → N σ2 H2) → g (.int (x : Int)) σ' H' fun σ2 H2 => tu { nx := N, rt := fun v H' => H' d = some (.frz od (.dK kv)) ∧ D.rt v (upd H' d (.dK kv)), ct := N, bk := fun σ' H' => H' d = some (.frz od (.dK kv)) ∧ tz D σ' (upd H' d (.dK kv)) } σ2 H2)
    (hd : ∀ σ' G' H', GSt G G' → Gro G0 H0 G' H' → I s1 σ' G' H' → Md H0 G' H' d kvs → tz D σ' H') : tSeq (tLock (tFor (iKeys (tVar i)) g tu)) tz D σ H := s_forK (D := { D with nx := tz D }) hf m hσ B I h0 hi hU hs hd
end
/-! ### a list and a dict of the caller's -/
def SpStep : Sp := fun vs H Q _ => ∃ G kind vc c l one other r w ws, vs = [.str kind, vc, .ref l, .int ((one : Nat) : Int), .int ((other : Nat) : Int)] ∧ Ex G H ∧ rep G vc c ∧ H l = some (.lst ws) ∧ RepL G ws w ∧ stepWorthM kind c w one other = some r ∧ Back G H r Q
theorem SpStep.len {vs H Q E} (h : SpStep vs H Q E) : vs.length = 5 := by obtain ⟨_, _, _, _, _, _, _, _, _, _, rfl, _⟩ := h; rfl
def del2 (H : Hp) (l d : Addr) : Hp := fun a => if a = l ∨ a = d then none else H a
theorem del2_l {H : Hp} {l d : Addr} : del2 H l d l = none := by unfold del2; rw [if_pos (.inl rfl)]
theorem del2_d {H : Hp} {l d : Addr} : del2 H l d d = none := by unfold del2; rw [if_pos (.inr rfl)]
theorem del2_ex {H : Hp} {l d : Addr} : Ex (del2 H l d) H := fun a o h => by
  unfold del2 at h
  split at h
  · cases h
  · exact h
def SpLow : Sp := fun vs H Q _ => ∃ G kind vc c l d w b r, vs = [.str kind, vc, .ref l, .ref d] ∧ Ex G H ∧ rep G vc c ∧ Ml (del2 H l d) G H l w ∧ Md (del2 H l d) G H d b ∧ loweredM kind c w b = some r ∧
  ∀ v G2 H2, Gro G (del2 H l d) G2 H2 → Ml (del2 H l d) G2 H2 l r.w → Md (del2 H l d) G2 H2 d r.b → rep G2 v r.last → Q v H2
theorem SpLow.len {vs H Q E} (h : SpLow vs H Q E) : vs.length = 4 := by obtain ⟨_, _, _, _, _, _, _, _, _, rfl, _⟩ := h; rfl
section
variable {σ : L2.St} {G H G0 H0 : Hp} {ta tb tc td te : TE} {E : XK} {kind : Str} {c : Costs} {l d : Addr} {w : List Fr} {b : List (Nat × Nat)} {one other : Nat} {r : Fr} {D : Ends} {tz : TS}
theorem er_callStep (h1 : EvR ta σ G H kind) (h2 : EvR tb σ G H c) (h3 : EvV tc σ G H (.ref l)) (m : Ml H0 G H l w) (h4 : EvR td σ G H one) (h5 : EvR te σ G H other) (e : stepWorthM kind c w one other = some r) :
    EvR (tCall SpStep [] E (tCons ta (tCons tb (tCons tc (tCons td (tCons te tNil)))))) σ G H r := fun G1 H1 g Q q => h1 G1 H1 g _ fun v1 G2 H2 g2 r1 => h2 G2 H2 (g.trans g2) _ fun v2 G3 H3 g3 r2 => h3 G3 H3 ((g.trans g2).trans g3) _ fun G4 H4 g4 =>
  h4 G4 H4 (((g.trans g2).trans g3).trans g4) _ fun v4 G5 H5 g5 r4 => h5 G5 H5 ((((g.trans g2).trans g3).trans g4).trans g5) _ fun v5 G6 H6 g6 r5 => by
    cases r1; cases r4; cases r5
    have gg := ((((g.trans g2).trans g3).trans g4).trans g5).trans g6
    obtain ⟨ws, e1, e2⟩ := m.ex
    exact ⟨G6, kind, v2, c, l, one, other, r, w, ws, rfl, g6.sub, Rep.mono ((g4.trans g5).trans g6).g r2, gg.h _ _ e1, e2.mono gg.g, e, fun v G7 H7 g7 r7 => q v G7 H7 (((((g2.trans g3).trans g4).trans g5).trans g6).trans g7) r7⟩
theorem q_asgLow {i : Nat} {o : Lo} (h1 : EvR ta σ G H kind) (h2 : EvR tb σ G H c) (h3 : EvV tc σ G H (.ref l)) (m : Ml H0 G H l w) (h4 : EvV td σ G H (.ref d)) (md : Md H0 G H d b) (e : loweredM kind c w b = some o) (B : Gro G0 H0 G H)
    (k : ∀ v G1 H1, Gro G0 H0 G1 H1 → GSt G G1 → Ml H0 G1 H1 l o.w → Md H0 G1 H1 d o.b → rep G1 v o.last → tz D (σ.set i (some v)) H1) :
    tSeq (tAsg (tCall SpLow [] E (tCons ta (tCons tb (tCons tc (tCons td tNil))))) (gName i)) tz D σ H := h1 G H (Gro.refl B.sub) _ fun v1 G2 H2 g2 r1 => h2 G2 H2 g2 _ fun v2 G3 H3 g3 r2 => h3 G3 H3 (g2.trans g3) _ fun G4 H4 g4 =>
  h4 G4 H4 ((g2.trans g3).trans g4) _ fun G5 H5 g5 => by
    cases r1
    have gg := ((g2.trans g3).trans g4).trans g5
    have m5 := m.up gg
    have md5 := md.up gg
    have B5 := B.trans gg
    obtain ⟨ws, e1, e2⟩ := m5.ex
    obtain ⟨kv, f1, f2⟩ := md5.ex
    refine ⟨G5, kind, v2, c, l, d, w, b, o, rfl, g5.sub, Rep.mono (g4.trans g5).g r2, ⟨⟨ws, e1, e2⟩, del2_l, m5.hG⟩, ⟨⟨kv, f1, f2⟩, del2_d, md5.hG⟩, e, fun v G6 H6 g6 m6 md6 r6 => ?_⟩
    obtain ⟨ws6, a1, a2⟩ := m6.ex
    obtain ⟨kv6, b1, b2⟩ := md6.ex
    refine k v G6 H6 ⟨B5.g.trans g6.g, g6.sub, fun a u h => ?_, fun a u h => ?_⟩ ⟨gg.g.trans g6.g⟩ ⟨⟨ws6, a1, a2⟩, m.h0, m6.hG⟩ ⟨⟨kv6, b1, b2⟩, md.h0, md6.hG⟩ r6
    · refine g6.h _ _ ?_
      unfold del2
      rw [if_neg]
      · exact B5.h _ _ h
      · rintro (z | z)
        · subst z; rw [m.h0] at h; cases h
        · subst z; rw [md.h0] at h; cases h
    · rcases g6.new a u h with z | z
      · exact B5.new a u z
      · unfold del2 at z
        split at z
        next hz =>
          rcases hz with y | y
          · subst y; exact .inr m.h0
          · subst y; exact .inr md.h0
        next hz => exact .inr (fresh_back B5.h z)
end
end G3
end
/-! G3W4 -/
section
set_option Elab.async false
set_option linter.all false
set_option maxRecDepth 100000
set_option maxHeartbeats 4000000
/-! G3W4: walks: any_wish, told_any. -/
namespace G3
open PySem PySem.Spec PyProof.Rows L2
open Evl (Ex fresh_back)
open Rep (rep)
theorem scAnyWish : FnScope ["costs", "ways", "worths", "weights", "left", "level", "worth", "weight", "j", "k", "there", "many"] ["costs", "ways"] (defScope sAnyWish) := ⟨rfl, rfl, rfl, by decide +kernel, rfl, by decide +kernel, by decide +kernel⟩
theorem scToldAny : FnScope ["costs", "ways", "found"] ["costs"] (defScope sToldAny) := ⟨rfl, rfl, rfl, by decide +kernel, rfl, by decide +kernel, by decide +kernel⟩
theorem er_any {α : Type} [Rep α] {σ : L2.St} {G H : Hp} {te : TE} {x : α} {a : AnyD} (h : EvR te σ G H x) : EvR te σ G H a := fun G1 H1 g Q q => h G1 H1 g Q fun v G2 H2 g2 r => q v G2 H2 g2 trivial
theorem compO_filt {α : Type} (p : α → Bool) : ∀ xs : List α, compO (fun x => some (if p x = true then some x else none)) xs = some (xs.filter p)
  | [] => rfl
  | x :: r => by
    unfold compO
    rw [compO_filt p r, List.filter_cons]
    by_cases h : p x = true <;> simp [h]
theorem md_ne {α : Type} [Rep α] {H0 G H H1 : Hp} {d d2 : Addr} {kvs : List (Nat × α)} (m : Md H0 G H d kvs) (h : H d2 = none) : d ≠ d2 := by
  obtain ⟨kv, e, _⟩ := m.ex
  intro z; subst z; rw [h] at e; cases e
section
variable {P : Program} {w : World} {K : PySem.W.Frag} {mg : Str → Option Value} {base : Heap} (T : Top K mg)
include T
theorem cal_any_wish : Cal P w K mg base "any_wish" 4 ["costs", "ways"] (Sp2 anyWishM) := by
  refine cal_of (T.fn 16 16) scAnyWish (fun _ _ _ _ h => h.len) (fun _ _ _ _ _ _ _ us hl => match us, hl with | [_, _], _ => rfl) fun f cdv A outer s H vs Q E hr h => ?_
  obtain ⟨G, vc, vw, c, ways, r, rfl, eG, rc, rw', e, q⟩ := h
  unfold anyWishM at e
  split at e
  next hl =>
    obtain ⟨s, h1, e⟩ := bnd e
    obtain ⟨la, h2, e⟩ := bnd e
    obtain ⟨lb, h3, e⟩ := bnd e
    cases e
    have hla := compO_len h2
    have hlb := compO_len h3
    rw [List.length_range] at hla hlb
    refine ⟨_, (pss_cons (ps_set (i := 2) scAnyWish.nd rfl (.inr rfl) pe_dnewK)
  (pss_cons (ps_set (i := 3) scAnyWish.nd rfl (.inr rfl) pe_dnewK)
  (pss_cons (ps_set (i := 4) scAnyWish.nd rfl (.inl rfl) (pe_listRg rfl rfl (m_list T) (prg_1 rfl (m_range T) (pe_callB (k_len K) rfl (m_len T) bt_len (pa_cons (pv 0) pa_nil)))))
  (pss_cons (ps_while PassesOwn.never (pt_cmpR (k_neD K hr.units) (pv 4) (pe_lst pa_nil) (nomark _)) (pss_cons (ps_set (i := 5) scAnyWish.nd rfl (.inr rfl) (pe_cal (cal_top_class T) (hr.mono (by decide)) rfl (pa_cons (pv 1) (pa_cons (pv 4) pa_nil))))
  (pss_cons (ps_set (i := 6) scAnyWish.nd rfl (.inl rfl) (pe_tup (pa_cons pe_int (pa_cons pe_int pa_nil))))
  (pss_cons (ps_set (i := 7) scAnyWish.nd rfl (.inl rfl) (pe_tup (pa_cons pe_int (pa_cons pe_int pa_nil))))
  (pss_cons (ps_lock (ps_for PassesOwn.never rfl (pi_keys (pv 2)) (pg_name (i := 8) scAnyWish.nd rfl (.inl rfl))
  (pss_one (ps_for PassesOwn.never rfl (k_piL K (pv 5)) (pg_name (i := 9) scAnyWish.nd rfl (.inl rfl))
  (pss_cons (ps_set (i := 10) scAnyWish.nd rfl (.inl rfl) (pe_cal (cal_plus T) hr rfl (pa_cons (pe_dget (hu_of hr) (pv 2) (pv 8) (fun _ _ => rfl)) (pa_cons (pe_cal (cal_times T) hr rfl (pa_cons (pe_dget (hu_of hr) (pv 3) (pv 8) (fun _ _ => rfl)) (pa_cons (pe_op op_sub (pe_ix (k_ixL K) (pe_ix (k_ixL K) (pv 0) (pv 8) (fun _ _ => rfl)) (pv 9) (fun _ _ => rfl)) (pe_ix (k_ixL K) (pe_ix (k_ixL K) (pv 0) (pv 8) (fun _ _ => rfl)) (pv 8) (fun _ _ => rfl))) pa_nil))) pa_nil))))
  (pss_one (ps_set (i := 6) scAnyWish.nd rfl (.inl rfl) (pe_cal (cal_lesser T) (hr.mono (by decide)) rfl (pa_cons (pv 6) (pa_cons (pe_cal (cal_lesser T) (hr.mono (by decide)) rfl (pa_cons (pv 10) (pa_cons (pe_dget (hu_of hr) (pv 2) (pv 8) (fun _ _ => rfl)) pa_nil))) pa_nil))))))))))
  (pss_cons (ps_lock (ps_for PassesOwn.never rfl (pi_keys (pv 2)) (pg_name (i := 8) scAnyWish.nd rfl (.inl rfl))
  (pss_one (ps_for PassesOwn.never rfl (k_piL K (pv 5)) (pg_name (i := 9) scAnyWish.nd rfl (.inl rfl))
  (pss_one (ps_set (i := 7) scAnyWish.nd rfl (.inl rfl) (pe_cal (cal_greater T) (hr.mono (by decide)) rfl (pa_cons (pv 7) (pa_cons (pe_cal (cal_over T) hr rfl (pa_cons (pe_cal (cal_minus T) hr rfl (pa_cons (pe_dget (hu_of hr) (pv 2) (pv 8) (fun _ _ => rfl)) (pa_cons (pv 6) pa_nil))) (pa_cons (pe_op op_sub (pe_ix (k_ixL K) (pe_ix (k_ixL K) (pv 0) (pv 9) (fun _ _ => rfl)) (pv 8) (fun _ _ => rfl)) (pe_ix (k_ixL K) (pe_ix (k_ixL K) (pv 0) (pv 9) (fun _ _ => rfl)) (pv 9) (fun _ _ => rfl))) pa_nil))) pa_nil)))))))))
  (pss_cons (ps_setLc (i := 4) (own := [("k", 9)]) rfl scAnyWish.nd rfl rfl (sw_true rfl rfl rfl (by decide +kernel)) (k_piL K (pv 4)) (blkOk_by (N := ["costs", "ways", "worths", "weights", "left", "level", "worth", "weight", "j", "k", "there", "many"]) (sc := defScope sAnyWish) (by decide +kernel)) (fun _ _ _ _ _ => (pg_name (i := 9) scAnyWish.nd rfl (.inl rfl))) (fun _ _ _ _ _ => pts_one (pt_cmpR (k_notIn K) (pv 9) (pv 5) rfl)) (fun _ _ _ _ _ => (pv 9)))
  (pss_one (ps_for PassesOwn.never rfl (k_piL K (pv 5)) (pg_name (i := 9) scAnyWish.nd rfl (.inl rfl))
  (pss_cons (ps_dput (hu_of hr) (pv 2) (pv 9) (pv 6) rfl)
  (pss_one (ps_dput (hu_of hr) (pv 3) (pv 9) (pv 7) rfl))))))))))))
  (pss_cons (ps_set (i := 11) scAnyWish.nd rfl (.inl rfl) (pe_listRg rfl rfl (m_list T) (prg_1 rfl (m_range T) (pe_callB (k_len K) rfl (m_len T) bt_len (pa_cons (pv 0) pa_nil)))))
  (pss_one (ps_ret (pe_tup (pa_cons (pe_lc (own := [("k", 9)]) rfl scAnyWish.nd  (k_piL K (pv 11)) (blkOk_by (N := ["costs", "ways", "worths", "weights", "left", "level", "worth", "weight", "j", "k", "there", "many"]) (sc := defScope sAnyWish) (by decide +kernel)) (fun _ _ _ _ _ => (pg_name (i := 9) scAnyWish.nd rfl (.inl rfl))) (fun _ _ _ _ _ => pts_nil) (fun _ _ _ _ _ => (pe_dget (hu_of hr) (pv 2) (pv 9) (fun _ _ => rfl)))) (pa_cons (pe_lc (own := [("k", 9)]) rfl scAnyWish.nd  (k_piL K (pv 11)) (blkOk_by (N := ["costs", "ways", "worths", "weights", "left", "level", "worth", "weight", "j", "k", "there", "many"]) (sc := defScope sAnyWish) (by decide +kernel)) (fun _ _ _ _ _ => (pg_name (i := 9) scAnyWish.nd rfl (.inl rfl))) (fun _ _ _ _ _ => pts_nil) (fun _ _ _ _ _ => (pe_dget (hu_of hr) (pv 3) (pv 9) (fun _ _ => rfl)))) pa_nil)))))))))), ?_⟩
    refine q_asgD0 (α := Fr) (Gro.refl eG) fun d1 G1 H1 B1 g1 md1 _ => ?_
    refine q_asgD0 (α := Fr) B1 fun d2 G2 H2 B2 g2 md2 hd2 => ?_
    have hne : d1 ≠ d2 := md_ne (H1 := H1) md1 hd2
    refine q_asg (x := List.range c.length) (er_new (en_listRg (er_len (er_var rfl rc)) (by omega))) B2 fun v4 G3 H3 B3 g3 r4 => ?_
    refine q_while h1 B3 (fun s σ' G' H' => ∃ v4 x5 x6 x7 x8 x9 x10, σ' = [some vc, some vw, some (.ref d1), some (.ref d2), some v4, x5, x6, x7, x8, x9, x10, none] ∧ rep G' v4 s.left ∧ Md H G' H' d1 s.ws ∧ Md H G' H' d2 s.vs) ⟨v4, none, none, none, none, none, none, rfl, r4, (md1.up g2).up g3, md2.up g3⟩ ?_ ?_ ?_ ?_
    · rintro s k σ' G' H' ec _ B' ⟨v4, x5, x6, x7, x8, x9, x10, rfl, r4, m1, m2⟩
      cases ec
      exact et_test (er_neNil (er_var rfl r4) (Nat.zero_le _))
    · rintro s σ' G' H' G3 H3 ⟨v4, x5, x6, x7, x8, x9, x10, rfl, r4, m1, m2⟩ g
      exact ⟨v4, x5, x6, x7, x8, x9, x10, rfl, Rep.mono g.g r4, m1.up g, m2.up g⟩
    · rintro ⟨ws, vs, left⟩ s' σ' G' H' ec ef gst B' ⟨v4, x5, x6, x7, x8, x9, x10, rfl, r4, m1, m2⟩
      unfold awStep at ef
      obtain ⟨level, k1, ef⟩ := bnd ef
      obtain ⟨worth, k2, ef⟩ := bnd ef
      obtain ⟨weight, k3, ef⟩ := bnd ef
      obtain ⟨p, k4, ef⟩ := bnd ef
      cases ef
      refine q_asg (er_call2 (er_var rfl rw') (er_var rfl r4) k1) B' fun v5 G4 H4 B4 g4 r5 => ?_
      refine q_asg (x := ((1, 1) : Fr)) (er_tup2 (er_c (x := (1 : Int)) rfl) (er_c (x := (1 : Int)) rfl)) B4 fun v6 G5 H5 B5 g5 r6 => ?_
      refine q_asg (x := ((1, 1) : Fr)) (er_tup2 (er_c (x := (1 : Int)) rfl) (er_c (x := (1 : Int)) rfl)) B5 fun v7 G6 H6 B6 g6 r7 => ?_
      have m1' := ((m1.up g4).up g5).up g6
      have m2' := ((m2.up g4).up g5).up g6
      -- worth
      refine q_forK k2 m1' rfl B6 (fun s σ' G' H' => ∃ v6 x8 x9 x10, σ' = [some vc, some vw, some (.ref d1), some (.ref d2), some v4, some v5, some v6, some v7, x8, x9, x10, none] ∧ rep G' v6 s ∧ Md H G' H' d2 vs) ⟨v6, x8, x9, x10, rfl, Rep.mono g6.g r6, m2'⟩ ?_ ?_ ?_ ?_
      · rintro s σ' G' H' G3 H3 ⟨v6, x8, x9, x10, rfl, r6, m2⟩ g
        exact ⟨v6, x8, x9, x10, rfl, Rep.mono g.g r6, m2.up g⟩
      · rintro s σ' G' H' o ⟨v6, x8, x9, x10, rfl, r6, m2⟩
        exact ⟨v6, x8, x9, x10, rfl, r6, m2.oth hne.symm⟩
      · rintro od kv Gb s j s' σ' G7 H7 _ ef _ B7 ⟨v6, x8, x9, x10, rfl, r6, m2⟩ lk N hN
        refine s_for ef (ei_list (er_var rfl r5)) B7 (fun s σ' G' H' => ∃ v6 x9 x10, σ' = [some vc, some vw, some (.ref d1), some (.ref d2), some v4, some v5, some v6, some v7, some (.int (j : Int)), x9, x10, none] ∧ rep G' v6 s ∧ Md H G' H' d2 vs ∧ Lk H G' H' d1 od kv ws) (fun G8 H8 g8 => ⟨v6, x9, x10, rfl, Rep.mono g8.g r6, m2.up g8, lk.up g8⟩) ?_ ?_ ?_
        · rintro s σ' G' H' G3 H3 ⟨v6, x9, x10, rfl, r6, m2, lk⟩ g
          exact ⟨v6, x9, x10, rfl, Rep.mono g.g r6, m2.up g, lk.up g⟩
        · rintro Gc s k s' vx σ' G8 H8 _ ef hx _ B8 ⟨v6, x9, x10, rfl, r6, m2, lk⟩ rx N hN
          cases rx
          unfold awWorth awThere at ef
          obtain ⟨th, e1, ef⟩ := bnd ef
          obtain ⟨wj, e2, e1⟩ := bnd e1
          obtain ⟨vj, e3, e1⟩ := bnd e1
          obtain ⟨x, e4, e1⟩ := bnd e1
          obtain ⟨y, e5, e1⟩ := bnd e1
          obtain ⟨t, e6, e1⟩ := bnd e1
          obtain ⟨wj', e7, ef⟩ := bnd ef
          obtain ⟨l, e8, ef⟩ := bnd ef
          refine q_asg (er_call2 (er_dgetF lk (ev_var rfl) (er_n rfl) e2) (er_call2 (er_dgetM m2 (ev_var rfl) (er_n rfl) e3) (er_sub (er_idx2 (er_var rfl rc) (er_n rfl) (er_n rfl) e4) (er_idx2 (er_var rfl rc) (er_n rfl) (er_n rfl) e5)) e6) e1) B8 fun v10 G9 H9 B9 g9 r10 => ?_
          refine s_asg (er_call2 (er_var rfl r6) (er_call2 (er_var rfl r10) (er_dgetF (lk.up g9) (ev_var rfl) (er_n rfl) e7) e8) ef) B9 fun v6' G10 H10 B10 g10 r6' => ?_
          exact hN _ _ ⟨G10, inferInstance, B10, v6', _, _, rfl, r6', (m2.up g9).up g10, (lk.up g9).up g10⟩
        · rintro σ' G8 H8 _ B8 ⟨v6, x9, x10, rfl, r6, m2, lk⟩
          exact hN _ _ ⟨G8, inferInstance, B8, ⟨v6, _, _, _, rfl, r6, m2⟩, lk⟩
      rintro σ' G7 H7 _ B7 ⟨v6, x8, x9, x10, rfl, r6, m2⟩ m1
      -- weight
      refine q_forK k3 m1 rfl B7 (fun s σ' G' H' => ∃ v7 x8 x9 x10, σ' = [some vc, some vw, some (.ref d1), some (.ref d2), some v4, some v5, some v6, some v7, x8, x9, x10, none] ∧ rep G' v7 s ∧ Md H G' H' d2 vs) ⟨v7, x8, x9, x10, rfl, up r7, m2⟩ ?_ ?_ ?_ ?_
      · rintro s σ' G' H' G3 H3 ⟨v7, x8, x9, x10, rfl, r7, m2⟩ g
        exact ⟨v7, x8, x9, x10, rfl, Rep.mono g.g r7, m2.up g⟩
      · rintro s σ' G' H' o ⟨v7, x8, x9, x10, rfl, r7, m2⟩
        exact ⟨v7, x8, x9, x10, rfl, r7, m2.oth hne.symm⟩
      · rintro od kv Gb s j s' σ' G7 H7 _ ef _ B7 ⟨v7, x8, x9, x10, rfl, r7, m2⟩ lk N hN
        refine s_for ef (ei_list (er_var rfl r5)) B7 (fun s σ' G' H' => ∃ v7 x9 x10, σ' = [some vc, some vw, some (.ref d1), some (.ref d2), some v4, some v5, some v6, some v7, some (.int (j : Int)), x9, x10, none] ∧ rep G' v7 s ∧ Md H G' H' d2 vs ∧ Lk H G' H' d1 od kv ws) (fun G8 H8 g8 => ⟨v7, x9, x10, rfl, Rep.mono g8.g r7, m2.up g8, lk.up g8⟩) ?_ ?_ ?_
        · rintro s σ' G' H' G3 H3 ⟨v7, x9, x10, rfl, r7, m2, lk⟩ g
          exact ⟨v7, x9, x10, rfl, Rep.mono g.g r7, m2.up g, lk.up g⟩
        · rintro Gc s k s' vx σ' G8 H8 _ ef hx _ B8 ⟨v7, x9, x10, rfl, r7, m2, lk⟩ rx N hN
          cases rx
          unfold awWeight at ef
          obtain ⟨wj, e1, ef⟩ := bnd ef
          obtain ⟨m, e2, ef⟩ := bnd ef
          obtain ⟨x, e3, ef⟩ := bnd ef
          obtain ⟨y, e4, ef⟩ := bnd ef
          obtain ⟨o, e5, ef⟩ := bnd ef
          refine s_asg (er_call2 (er_var rfl r7) (er_call2 (er_call2 (er_dgetF lk (ev_var rfl) (er_n rfl) e1) (er_var rfl r6) e2) (er_sub (er_idx2 (er_var rfl rc) (er_n rfl) (er_n rfl) e3) (er_idx2 (er_var rfl rc) (er_n rfl) (er_n rfl) e4)) e5) ef) B8 fun v7' G10 H10 B10 g10 r7' => ?_
          exact hN _ _ ⟨G10, inferInstance, B10, v7', _, _, rfl, r7', m2.up g10, lk.up g10⟩
        · rintro σ' G8 H8 _ B8 ⟨v7, x9, x10, rfl, r7, m2, lk⟩
          exact hN _ _ ⟨G8, inferInstance, B8, ⟨v7, _, _, _, rfl, r7, m2⟩, lk⟩
      rintro σ' G8 H8 _ B8 ⟨v7, x8, x9, x10, rfl, r7, m2⟩ m1
      -- left
      have hfl : left.length ≤ 100000 := by
        have k1 : (if left.length ≤ 1000 then _ else none) = some level := k1
        split at k1
        · omega
        · cases k1
      refine q_asg (er_new (en_lcn (compO_filt (fun k => !decide (k ∈ level)) left) (ei_list (er_var rfl r4)) (Nat.le_trans (List.length_filter_le _ _) hfl) (fun _ => rfl) ?_)) B8 fun v4' G9 H9 B9 g9 r4' => ?_
      · intro k o v G6 H6 eo hx g6 rv
        cases rv
        cases eo
        refine ⟨et_is (et_test (er_notInL (er_n rfl) (er_var rfl r5))) ?_, fun y ey => ?_⟩
        · by_cases hk : k ∈ level <;> simp [hk]
        · split at ey
          · cases ey; exact er_n rfl
          · cases ey
      -- for k in level
      refine s_for k4 (ei_list (er_var rfl r5)) B9 (fun s σ' G' H' => ∃ x9, σ' = [some vc, some vw, some (.ref d1), some (.ref d2), some v4', some v5, some v6, some v7, x8, x9, x10, none] ∧ Md H G' H' d1 s.1 ∧ Md H G' H' d2 s.2) (fun G10 H10 g10 => ⟨x9, rfl, (m1.up g9).up g10, (m2.up g9).up g10⟩) ?_ ?_ ?_
      · rintro s σ' G' H' G3 H3 ⟨x9, rfl, m1, m2⟩ g
        exact ⟨x9, rfl, m1.up g, m2.up g⟩
      · rintro Gc s k s' vx σ' G10 H10 _ ef hx _ B10 ⟨x9, rfl, m1, m2⟩ rx N hN
        cases rx
        unfold awPut at ef
        split at ef
        next hz =>
          cases ef
          refine q_dput m1 (er_var rfl r6) (ev_var rfl) (er_n rfl) hz.1 B10 fun o G11 H11 g11 B11 m11 => ?_
          refine s_dput ((m2.up g11).oth hne.symm) (er_var rfl r7) (ev_var rfl) (er_n rfl) hz.2 B11 fun o2 G12 H12 g12 B12 m12 => ?_
          exact hN _ _ ⟨G12, inferInstance, B12, _, rfl, (m11.up g12).oth hne, m12⟩
        next => cases ef
      · rintro σ' G10 H10 _ B10 ⟨x9, rfl, m1, m2⟩
        exact ⟨G10, inferInstance, B10, v4', _, _, _, _, _, _, rfl, up r4', m1, m2⟩
    · rintro σ' G4 H4 _ _ B4 ⟨v4, x5, x6, x7, x8, x9, x10, rfl, r4, m1, m2⟩
      refine q_asg (x := List.range c.length) (er_new (en_listRg (er_len (er_var rfl rc)) (by omega))) B4 fun v11 G5 H5 B5 g5 r11 => ?_
      refine s_ret (er_tup2 (er_new (en_lcn h2 (ei_list (er_var rfl r11)) (by omega) (fun _ => rfl) ?_)) (er_new (en_lcn h3 (ei_list (er_var rfl r11)) (by omega) (fun _ => rfl) ?_))) B5 q
      · intro k o v G6 H6 eo hx g6 rv
        cases rv
        obtain ⟨x, e1, eo⟩ := bnd eo
        cases eo
        refine ⟨et_yes, fun y ey => ?_⟩
        cases ey
        exact er_dgetM ((m1.up g5).up g6) (ev_var rfl) (er_n rfl) e1
      · intro k o v G6 H6 eo hx g6 rv
        cases rv
        obtain ⟨x, e1, eo⟩ := bnd eo
        cases eo
        refine ⟨et_yes, fun y ey => ?_⟩
        cases ey
        exact er_dgetM ((m2.up g5).up g6) (ev_var rfl) (er_n rfl) e1
  next => cases e
theorem cal_told_any : Cal P w K mg base "told_any" 5 ["costs"] (Sp1 toldAnyM) := by
  refine cal_of (T.fn 17 17) scToldAny (fun _ _ _ _ h => h.len) (fun _ _ _ _ _ _ _ us hl => match us, hl with | [_], _ => rfl) fun f cdv A outer s H vs Q E hr h => ?_
  obtain ⟨G, vc, c, r, rfl, eG, rc, e, q⟩ := h
  obtain ⟨ways, h1, e⟩ := bnd e
  obtain ⟨fo, h2, e⟩ := bnd e
  refine ⟨_, (pss_cons (ps_set (i := 1) scToldAny.nd rfl (.inl rfl) (pe_cal (cal_open_ways T) (hr.mono (by decide)) rfl (pa_cons (pv 0) pa_nil)))
  (pss_cons (ps_set (i := 2) scToldAny.nd rfl (.inl rfl) (pe_cal (cal_barring_round T) (hr.mono (by decide)) rfl (pa_cons (pv 0) (pa_cons (pv 1) pa_nil))))
  (pss_cons (ps_if (pt_cmpR op_notX (pv 2) pe_non (nomark _)) (pss_one (ps_ret (pe_tup (pa_cons pe_str (pa_cons (pv 2) pa_nil))))) pss_nil)
  (pss_one (ps_ret (pe_tup (pa_cons pe_str (pa_cons (pe_cal (cal_any_wish T) hr rfl (pa_cons (pv 0) (pa_cons (pv 1) pa_nil))) pa_nil)))))))), ?_⟩
  refine q_asg (er_call1 (er_var rfl rc) h1) (Gro.refl eG) fun vw G1 H1 B1 g1 r1 => ?_
  refine q_asg (er_call2 (er_var rfl rc) (er_var rfl r1) h2) B1 fun vf G2 H2 B2 g2 r2 => ?_
  refine q_when (et_test (er_notN (er_var rfl r2))) B2 (fun hx G3 H3 B3 g3 => ?_) (fun hx G3 H3 B3 g3 => ?_)
  · rw [if_pos hx] at e
    cases e
    exact s_ret (er_tup2 (er_c rfl) (er_any (er_var rfl r2))) B3 q
  · rw [if_neg (by rw [hx]; decide)] at e
    obtain ⟨aw, h3, e⟩ := bnd e
    cases e
    exact s_ret (er_tup2 (er_c rfl) (er_any (er_call2 (er_var rfl rc) (er_var rfl r1) h3))) B3 q
end
end G3
end
/-! G3W5 -/
section
set_option Elab.async false
set_option linter.all false
set_option maxRecDepth 100000
set_option maxHeartbeats 4000000
/-! G3W5: walks: step_worth, round_back, lowered, told_by, has_wish. -/
namespace G3
open PySem PySem.Spec PyProof.Rows L2
open Evl (Ex fresh_back)
open Rep (rep)
theorem scStepWorth : FnScope ["kind", "costs", "worths", "one", "other"] ["kind", "costs", "worths", "one", "other"] (defScope sStepWorth) := ⟨rfl, rfl, rfl, by decide +kernel, rfl, by decide +kernel, by decide +kernel⟩
theorem scRoundBack : FnScope ["behind", "last", "many", "here", "k", "told"] ["behind", "last", "many"] (defScope sRoundBack) := ⟨rfl, rfl, rfl, by decide +kernel, rfl, by decide +kernel, by decide +kernel⟩
theorem scLowered : FnScope ["kind", "costs", "worths", "behind", "last", "one", "other", "there"] ["kind", "costs", "worths", "behind"] (defScope sLowered) := ⟨rfl, rfl, rfl, by decide +kernel, rfl, by decide +kernel, by decide +kernel⟩
theorem scToldBy : FnScope ["book", "kind", "costs", "many", "worths", "behind", "turn", "last", "weights", "k"] ["book", "kind"] (defScope sToldBy) := ⟨rfl, rfl, rfl, by decide +kernel, rfl, by decide +kernel, by decide +kernel⟩
theorem scHasWish : FnScope ["book", "kind"] ["book", "kind"] (defScope sHasWish) := ⟨rfl, rfl, rfl, by decide +kernel, rfl, by decide +kernel, by decide +kernel⟩
theorem er_s {σ : L2.St} {G H : Hp} {i : Nat} {n : Str} (h : σ[i]? = some (some (.str n))) : EvR (tVar i) σ G H n := er_var (G0 := G) h rfl
theorem er_anyV {σ : L2.St} {G H : Hp} {te : TE} {v : V} {a : AnyD} (h : EvV te σ G H v) : EvR te σ G H a := fun G1 H1 g Q q => h G1 H1 g Q fun G2 H2 g2 => q v G2 H2 g2 trivial
section
variable {P : Program} {w : World} {K : PySem.W.Frag} {mg : Str → Option Value} {base : Heap} (T : Top K mg)
include T
theorem cal_step_worth : Cal P w K mg base "step_worth" 4 ["kind", "costs", "worths", "one", "other"] (SpStep) := by
  refine cal_of (T.fn 18 18) scStepWorth (fun _ _ _ _ h => h.len) (fun _ _ _ _ _ _ _ us hl => match us, hl with | [_, _, _, _, _], _ => rfl) fun f cdv A outer s H vs Q E hr h => ?_
  obtain ⟨G, kind, vc, c, l, one, other, r, w, ws, rfl, eG, rc, hl, hw, e, q⟩ := h
  unfold stepWorthM at e
  refine ⟨_, (pss_cons (ps_if (pt_cmpR op_eq (pv 0) pe_str (nomark _)) (pss_one (ps_ret (pe_cal (cal_plus T) hr rfl (pa_cons (pe_ix (k_ixL K) (pv 2) (pv 3) (fun _ _ => rfl)) (pa_cons (pe_tup (pa_cons (pe_op op_sub (pe_ix (k_ixL K) (pe_ix (k_ixL K) (pv 1) (pv 3) (fun _ _ => rfl)) (pv 4) (fun _ _ => rfl)) (pe_ix (k_ixL K) (pe_ix (k_ixL K) (pv 1) (pv 3) (fun _ _ => rfl)) (pv 3) (fun _ _ => rfl))) (pa_cons pe_int pa_nil))) pa_nil))))) pss_nil)
  (pss_one (ps_ret (pe_cal (cal_over T) hr rfl (pa_cons (pe_cal (cal_times T) hr rfl (pa_cons (pe_ix (k_ixL K) (pv 2) (pv 3) (fun _ _ => rfl)) (pa_cons (pe_ix (k_ixL K) (pe_ix (k_ixL K) (pv 1) (pv 3) (fun _ _ => rfl)) (pv 4) (fun _ _ => rfl)) pa_nil))) (pa_cons (pe_ix (k_ixL K) (pe_ix (k_ixL K) (pv 1) (pv 3) (fun _ _ => rfl)) (pv 3) (fun _ _ => rfl)) pa_nil)))))), ?_⟩
  refine q_when (et_test (er_eqS (er_s rfl) (er_c rfl))) (Gro.refl eG) (fun hx G1 H1 B1 g1 => ?_) (fun hx G1 H1 B1 g1 => ?_)
  · rw [if_pos (of_decide_eq_true hx)] at e
    obtain ⟨x, e1, e⟩ := bnd e
    obtain ⟨y, e2, e⟩ := bnd e
    obtain ⟨z, e3, e⟩ := bnd e
    exact s_ret (er_call2 (er_ixM (g1.h _ _ hl) (upL hw) (ev_var rfl) (er_n rfl) e1) (er_tup2 (er_sub (er_idx2 (er_var rfl rc) (er_n rfl) (er_n rfl) e2) (er_idx2 (er_var rfl rc) (er_n rfl) (er_n rfl) e3)) (er_c (x := (1 : Int)) rfl)) e) B1 q
  · rw [if_neg (of_decide_eq_false hx)] at e
    obtain ⟨x, e1, e⟩ := bnd e
    obtain ⟨y, e2, e⟩ := bnd e
    obtain ⟨t, e3, e⟩ := bnd e
    obtain ⟨z, e4, e⟩ := bnd e
    exact s_ret (er_call2 (er_call2 (er_ixM (g1.h _ _ hl) (upL hw) (ev_var rfl) (er_n rfl) e1) (er_idx2 (er_var rfl rc) (er_n rfl) (er_n rfl) e2) e3) (er_idx2 (er_var rfl rc) (er_n rfl) (er_n rfl) e4) e) B1 q
theorem cal_round_back : Cal P w K mg base "round_back" 1 ["behind", "last", "many"] (Sp3 (fun (b : Dct Nat) (last many : Nat) => roundBackM b.l last many)) := by
  refine cal_of (T.fn 19 19) scRoundBack (fun _ _ _ _ h => h.len) (fun _ _ _ _ _ _ _ us hl => match us, hl with | [_, _, _], _ => rfl) fun f cdv A outer s H vs Q E hr h => ?_
  obtain ⟨G, vb, vl, vm, b, last, many, r, rfl, eG, rb, rl, rm, e, q⟩ := h
  cases rl; cases rm
  have e : roundBackM b.l last many = some r := e
  unfold roundBackM at e
  split at e
  next hl =>
    obtain ⟨here, h1, e⟩ := bnd e
    refine ⟨_, (pss_cons (ps_set (i := 3) scRoundBack.nd rfl (.inl rfl) (pv 1))
  (pss_cons (ps_for PassesOwn.never rfl (pi_range1 rfl (m_range T) (pa_cons (pv 2) pa_nil)) (pg_name (i := 4) scRoundBack.nd rfl (.inl rfl))
  (pss_one (ps_set (i := 3) scRoundBack.nd rfl (.inl rfl) (pe_dget (hu_of hr) (pv 0) (pv 3) (fun _ _ => rfl)))))
  (pss_cons (ps_set (i := 5) scRoundBack.nd rfl (.inl rfl) (pe_lst (pa_cons (pv 3) pa_nil)))
  (pss_cons (ps_while PassesOwn.never (pt_cmpR op_ne (pe_dget (hu_of hr) (pv 0) (pe_ix (k_ixL K) (pv 5) pe_int (fun _ _ => rfl)) (fun _ _ => rfl)) (pv 3) (nomark _)) (pss_one (ps_expr (pe_bm PySem.F.plainAttrs_list PySem.F.slot_list_insert PySem.F.type_list_insert mt_insX (pv 5) (pa_cons pe_int (pa_cons (pe_dget (hu_of hr) (pv 0) (pe_ix (k_ixL K) (pv 5) pe_int (fun _ _ => rfl)) (fun _ _ => rfl)) pa_nil))))))
  (pss_one (ps_ret (pv 5))))))), ?_⟩
    refine q_asg (er_n (n := last) rfl) (Gro.refl eG) fun v3 G1 H1 B1 g1 r3 => ?_
    cases r3
    refine q_for h1 (ei_range (er_n rfl) (by omega)) B1 (fun s σ' G' H' => ∃ x4, σ' = [some vb, some (.int (last : Int)), some (.int (many : Int)), some (.int ((s : Nat) : Int)), x4, none]) (fun G3 H3 g3 => ⟨none, rfl⟩) ?_ ?_ ?_
    · rintro s σ' G' H' G3 H3 ⟨x4, rfl⟩ g
      exact ⟨x4, rfl⟩
    · rintro Gb s k s' vx σ' G5 H5 _ ef hx _ B5 ⟨x4, rfl⟩ rx N hN
      cases rx
      refine s_asg (er_dget (er_var rfl rb) (er_n rfl) ef) B5 fun v3 G6 H6 B6 g6 r6 => ?_
      cases r6
      exact hN _ _ ⟨G6, inferInstance, B6, _, rfl⟩
    · rintro σ' G5 H5 _ B5 ⟨x4, rfl⟩
      refine q_asgN (xs := [here]) (en_lst (el_cons (er_n rfl) el_nil) (by simp)) B5 fun l2 G7 H7 B7 g7 ml7 _ => ?_
      refine q_while e B7 (fun tl σ' G' H' => σ' = [some vb, some (.int (last : Int)), some (.int (many : Int)), some (.int (here : Int)), x4, some (.ref l2)] ∧ Ml H G' H' l2 tl) ⟨rfl, ml7⟩ ?_ ?_ ?_ ?_
      · rintro tl k σ' G' H' ec _ B' ⟨rfl, ml⟩
        obtain ⟨h, h4, ec⟩ := bnd ec
        obtain ⟨qq, h5, ec⟩ := bnd ec
        cases ec
        exact et_test (er_neN (er_dget (er_var rfl rb) (er_mAt ml (ev_var rfl) (er_c (x := (0 : Nat)) rfl) h4) h5) (er_n rfl))
      · rintro tl σ' G' H' G3 H3 ⟨rfl, ml⟩ g
        exact ⟨rfl, ml.up g⟩
      · rintro tl s' σ' G' H' ec ef _ B' ⟨rfl, ml⟩
        obtain ⟨h, h4, ef⟩ := bnd ef
        obtain ⟨qq, h5, ef⟩ := bnd ef
        split at ef
        next hz =>
          cases ef
          refine s_ins0 (x := qq) ml (ev_var rfl) (er_dget (er_var rfl rb) (er_mAt ml (ev_var rfl) (er_c (x := (0 : Nat)) rfl) h4) h5) hz B' fun o G8 H8 g8 B8 ml8 => ?_
          exact ⟨G8, inferInstance, B8, rfl, ml8⟩
        next => cases ef
      · rintro σ' G8 H8 _ _ B8 ⟨rfl, ml⟩
        exact s_retM (ev_var rfl) B8 ml q
  next => cases e
theorem cal_lowered : Cal P w K mg base "lowered" 5 ["kind", "costs", "worths", "behind"] (SpLow) := by
  refine cal_of (T.fn 20 20) scLowered (fun _ _ _ _ h => h.len) (fun _ _ _ _ _ _ _ us hl => match us, hl with | [_, _, _, _], _ => rfl) fun f cdv A outer s H vs Q E hr h => ?_
  obtain ⟨G, kind, vc, c, l, d, w, b, r, rfl, eG, rc, ml, md, e, q⟩ := h
  unfold loweredM at e
  split at e
  next hl =>
    refine ⟨_, (pss_cons (ps_set (i := 4) scLowered.nd rfl (.inl rfl) pe_non)
  (pss_cons (ps_for PassesOwn.never rfl (pi_range1 rfl (m_range T) (pa_cons (pe_callB (k_len K) rfl (m_len T) bt_len (pa_cons (pv 1) pa_nil)) pa_nil)) (pg_name (i := 5) scLowered.nd rfl (.inl rfl))
  (pss_one (ps_for PassesOwn.never rfl (pi_range1 rfl (m_range T) (pa_cons (pe_callB (k_len K) rfl (m_len T) bt_len (pa_cons (pv 1) pa_nil)) pa_nil)) (pg_name (i := 6) scLowered.nd rfl (.inl rfl))
  (pss_cons (ps_set (i := 7) scLowered.nd rfl (.inl rfl) (pe_cal (cal_step_worth T) hr rfl (pa_cons (pv 0) (pa_cons (pv 1) (pa_cons (pv 2) (pa_cons (pv 5) (pa_cons (pv 6) pa_nil)))))))
  (pss_one (ps_if (pt_val (pe_cal (cal_is_less T) (hr.mono (by decide)) rfl (pa_cons (pv 7) (pa_cons (pe_ix (k_ixL K) (pv 2) (pv 6) (fun _ _ => rfl)) pa_nil)))) (pss_cons (ps_asg (pv 7) (pg_sub (pv 2) (pv 6) set_list))
  (pss_cons (ps_dput (hu_of hr) (pv 3) (pv 6) (pv 5) rfl)
  (pss_one (ps_set (i := 4) scLowered.nd rfl (.inl rfl) (pv 6))))) pss_nil))))))
  (pss_one (ps_ret (pv 4))))), ?_⟩
    have B : Gro G (del2 H l d) G H := ⟨Ex.refl G, eG, del2_ex, fun _ _ h => .inl h⟩
    refine q_asg (x := (none : Option Nat)) (er_c rfl) B fun v4 G1 H1 B1 g1 r4 => ?_
    refine q_for e (ei_range (er_len (er_var rfl rc)) (by omega)) B1 (fun s σ' G' H' => ∃ v4 x5 x6 x7, σ' = [some (.str kind), some vc, some (.ref l), some (.ref d), some v4, x5, x6, x7] ∧ rep G' v4 s.last ∧ Ml (del2 H l d) G' H' l s.w ∧ Md (del2 H l d) G' H' d s.b)
      (fun G3 H3 g3 => ⟨v4, none, none, none, rfl, Rep.mono (α := Option Nat) g3.g r4, (ml.up g1).up g3, (md.up g1).up g3⟩) ?_ ?_ ?_
    · rintro s σ' G' H' G3 H3 ⟨v4, x5, x6, x7, rfl, r4, ml, md⟩ g
      exact ⟨v4, x5, x6, x7, rfl, Rep.mono g.g r4, ml.up g, md.up g⟩
    · rintro Gb s one s' vx σ' G5 H5 _ ef hx _ B5 ⟨v4, x5, x6, x7, rfl, r4, ml, md⟩ rx N hN
      cases rx
      refine s_for ef (ei_range (er_len (er_var rfl rc)) (by omega)) B5 (fun s σ' G' H' => ∃ v4 x6 x7, σ' = [some (.str kind), some vc, some (.ref l), some (.ref d), some v4, some (.int (one : Int)), x6, x7] ∧ rep G' v4 s.last ∧ Ml (del2 H l d) G' H' l s.w ∧ Md (del2 H l d) G' H' d s.b)
        (fun G3 H3 g3 => ⟨v4, x6, x7, rfl, Rep.mono g3.g r4, ml.up g3, md.up g3⟩) ?_ ?_ ?_
      · rintro s σ' G' H' G3 H3 ⟨v4, x6, x7, rfl, r4, ml, md⟩ g
        exact ⟨v4, x6, x7, rfl, Rep.mono g.g r4, ml.up g, md.up g⟩
      · rintro Gc s other s' vx σ' G6 H6 _ ef hx _ B6 ⟨v4, x6, x7, rfl, r4, ml, md⟩ rx N hN
        cases rx
        unfold loTurn at ef
        obtain ⟨there, e1, ef⟩ := bnd ef
        obtain ⟨x, e2, ef⟩ := bnd ef
        obtain ⟨k, e3, ef⟩ := bnd ef
        refine q_asg (er_callStep (er_s rfl) (er_var rfl rc) (ev_var rfl) ml (er_n rfl) (er_n rfl) e1) B6 fun v7 G7 H7 B7 g7 r7 => ?_
        refine s_when (et_B (er_call2 (er_var rfl r7) (er_mAt (ml.up g7) (ev_var rfl) (er_n rfl) e2) e3)) B7 (fun hx G8 H8 B8 g8 => ?_) (fun hx G8 H8 B8 g8 => ?_)
        · subst hx
          rw [if_pos rfl] at ef
          split at ef
          next hz =>
            cases ef
            have hj : other < s.w.length := (List.getElem?_eq_some_iff.mp e2).1
            refine q_setL ((ml.up g7).up g8) (er_var rfl r7) (ev_var rfl) (er_n rfl) hj B8 fun o G9 H9 g9 B9 ml9 => ?_
            have md9 := (((md.up g7).up g8).up g9).oth (o := o) (md_ne_ml ((md.up g7).up g8) ((ml.up g7).up g8))
            refine q_dput md9 (er_n rfl) (ev_var rfl) (er_n rfl) hz B9 fun o2 G10 H10 g10 B10 md10 => ?_
            have ml10 := (ml9.up g10).oth (o := o2) (md_ne_ml md9 ml9).symm
            refine s_asg (x := some other) (er_some (er_n rfl)) B10 fun v4 G11 H11 B11 g11 r11 => ?_
            exact hN _ _ ⟨G11, inferInstance, B11, v4, _, _, rfl, r11, ml10.up g11, md10.up g11⟩
          next => cases ef
        · subst hx
          rw [if_neg (by decide)] at ef
          cases ef
          exact hN _ _ ⟨G8, inferInstance, B8, v4, _, _, rfl, up r4, (ml.up g7).up g8, (md.up g7).up g8⟩
      · rintro σ' G6 H6 _ B6 ⟨v4, x6, x7, rfl, r4, ml, md⟩
        exact hN _ _ ⟨G6, inferInstance, B6, v4, _, _, _, rfl, r4, ml, md⟩
    · rintro σ' G6 H6 _ B6 ⟨v4, x5, x6, x7, rfl, r4, ml, md⟩
      exact s_retR (er_var rfl r4) B6 fun v G7 H7 B7 g7 r7 => q v G7 H7 B7 (ml.up g7) (md.up g7) r7
  next => cases e
theorem cal_told_by : Cal P w K mg base "told_by" 6 ["book", "kind"] (Sp2 toldByM) := by
  refine cal_of (T.fn 21 21) scToldBy (fun _ _ _ _ h => h.len) (fun _ _ _ _ _ _ _ us hl => match us, hl with | [_, _], _ => rfl) fun f cdv A outer s H vs Q E hr h => ?_
  obtain ⟨G, vb, vk, b, kind, r, rfl, eG, rb, rk, e, q⟩ := h
  cases rk
  obtain ⟨c, h1, e⟩ := bnd e
  unfold toldC at e
  refine ⟨_, (pss_cons (ps_set (i := 2) scToldBy.nd rfl (.inr rfl) (pe_cal (cal_costs_of T) (hr.mono (by decide)) rfl (pa_cons (pv 0) pa_nil)))
  (pss_cons (ps_if (pt_cmpR op_eq (pv 1) pe_str (nomark _)) (pss_one (ps_ret (pe_cal (cal_told_any T) hr rfl (pa_cons (pv 2) pa_nil)))) pss_nil)
  (pss_cons (ps_set (i := 3) scToldBy.nd rfl (.inl rfl) (pe_callB (k_len K) rfl (m_len T) bt_len (pa_cons (pv 0) pa_nil)))
  (pss_cons (ps_set (i := 4) scToldBy.nd rfl (.inr rfl) (pe_op op_rep (pe_lst (pa_cons (pe_tup (pa_cons pe_int (pa_cons pe_int pa_nil))) pa_nil)) (pv 3)))
  (pss_cons (ps_set (i := 5) scToldBy.nd rfl (.inl rfl) pe_dnewK)
  (pss_cons (ps_for PassesOwn.never rfl (pi_range1 rfl (m_range T) (pa_cons (pv 3) pa_nil)) (pg_name (i := 6) scToldBy.nd rfl (.inl rfl))
  (pss_cons (ps_set (i := 7) scToldBy.nd rfl (.inl rfl) (pe_cal (cal_lowered T) hr rfl (pa_cons (pv 1) (pa_cons (pv 2) (pa_cons (pv 4) (pa_cons (pv 5) pa_nil))))))
  (pss_one (ps_if (pt_cmpR op_isX (pv 7) pe_non (nomark _)) (pss_cons (ps_set (i := 8) scToldBy.nd rfl (.inl rfl) (pe_op op_rep (pe_lst (pa_cons (pe_tup (pa_cons pe_int (pa_cons pe_int pa_nil))) pa_nil)) (pv 3)))
  (pss_cons (ps_if (pt_cmpR op_eq (pv 1) pe_str (nomark _)) (pss_one (ps_setLc (i := 8) (own := [("k", 9)]) rfl scToldBy.nd rfl rfl (sw_true rfl rfl rfl (by decide +kernel)) (pi_range1 rfl (m_range T) (pa_cons (pv 3) pa_nil)) (blkOk_by (N := ["book", "kind", "costs", "many", "worths", "behind", "turn", "last", "weights", "k"]) (sc := defScope sToldBy) (by decide +kernel)) (fun _ _ _ _ _ => (pg_name (i := 9) scToldBy.nd rfl (.inl rfl))) (fun _ _ _ _ _ => pts_nil) (fun _ _ _ _ _ => (pe_cal (cal_over T) (hr.mono (by decide)) rfl (pa_cons (pe_ix (k_ixL K) (pv 4) (pv 9) (fun _ _ => rfl)) (pa_cons (pe_ix (k_ixL K) (pe_ix (k_ixL K) (pv 2) (pv 9) (fun _ _ => rfl)) (pv 9) (fun _ _ => rfl)) pa_nil)))))) pss_nil)
  (pss_one (ps_ret (pe_tup (pa_cons pe_str (pa_cons (pe_tup (pa_cons (pv 4) (pa_cons (pv 8) pa_nil))) pa_nil))))))) pss_nil))))
  (pss_one (ps_ret (pe_tup (pa_cons pe_str (pa_cons (pe_cal (cal_round_back T) (hr.mono (by decide)) rfl (pa_cons (pv 5) (pa_cons (pv 7) (pa_cons (pv 3) pa_nil)))) pa_nil))))))))))), ?_⟩
  refine q_asg (er_call1 (er_var rfl rb) h1) (Gro.refl eG) fun vc G1 H1 B1 g1 rc => ?_
  refine q_when (et_test (er_eqS (er_s rfl) (er_c rfl))) B1 (fun hx G2 H2 B2 g2 => ?_) (fun hx G2 H2 B2 g2 => ?_)
  · rw [if_pos (of_decide_eq_true hx)] at e
    exact s_ret (er_call1 (er_var rfl rc) e) B2 q
  rw [if_neg (of_decide_eq_false hx)] at e
  split at e
  next hl =>
    obtain ⟨o, h2, e⟩ := bnd e
    refine q_asg (er_len (er_var rfl rb)) B2 fun v3 G3 H3 B3 g3 r3 => ?_
    cases r3
    refine q_asgN (en_rep (x := ((1, 1) : Fr)) (n := b.length) (er_tup2 (er_c (x := (1 : Int)) rfl) (er_c (x := (1 : Int)) rfl)) (er_n rfl) (by omega)) B3 fun l G4 H4 B4 g4 ml4 _ => ?_
    refine q_asgD0 (α := Nat) B4 fun d G5 H5 B5 g5 md5 _ => ?_
    refine q_forr h2 (ei_range (er_n rfl) (by omega)) B5 (fun s σ' G' H' => ∃ x6 x7 x8, σ' = [some vb, some (.str kind), some vc, some (.int (b.length : Int)), some (.ref l), some (.ref d), x6, x7, x8, none] ∧ Ml H G' H' l s.w ∧ Md H G' H' d s.b ∧ ∀ k, s.last = some k → x7 = some (.int (k : Int)))
      (fun G6 H6 g6 => ⟨none, none, none, rfl, (ml4.up g5).up g6, md5.up g6, fun k ek => nomatch ek⟩) ?_ ?_ ?_
    · rintro s σ' G' H' G3 H3 ⟨x6, x7, x8, rfl, ml, md, hk⟩ g
      exact ⟨x6, x7, x8, rfl, ml.up g, md.up g, hk⟩
    · rintro Gb s t o' vx σ' G6 H6 _ ef hx hret _ B6 ⟨x6, x7, x8, rfl, ml, md, hk⟩ rx
      cases rx
      unfold tbTurn at ef
      obtain ⟨lo, e1, ef⟩ := bnd ef
      refine q_asgLow (er_s rfl) (er_var rfl rc) (ev_var rfl) ml (ev_var rfl) md e1 B6 fun v7 G7 H7 B7 g7 ml7 md7 r7 => ?_
      refine s_when (et_test (er_isN (er_var rfl r7))) B7 (fun hx G8 H8 B8 g8 => ?_) (fun hx G8 H8 B8 g8 => ?_)
      · cases el : lo.last with
        | some k => rw [el] at hx; cases hx
        | none =>
          rw [el] at ef
          refine q_asg (er_new (en_rep (x := ((1, 1) : Fr)) (n := b.length) (er_tup2 (er_c (x := (1 : Int)) rfl) (er_c (x := (1 : Int)) rfl)) (er_n rfl) (by omega))) B8 fun v8 G9 H9 B9 g9 r9 => ?_
          have ml9 := (ml7.up g8).up g9
          refine q_when (et_test (er_eqS (er_s rfl) (er_c rfl))) B9 (fun hy G10 H10 B10 g10 => ?_) (fun hy G10 H10 B10 g10 => ?_)
          · have ef : (if kind = Str.ofString "scaled" then _ else _) = some o' := ef
            rw [if_pos (of_decide_eq_true hy)] at ef
            obtain ⟨ws, e2, ef⟩ := bnd ef
            cases ef
            have hw := compO_len e2
            rw [List.length_range] at hw
            refine s_asg (er_new (en_lcn e2 (ei_range (er_n rfl) (by omega)) (by omega) (fun _ => rfl) ?_)) B10 fun v8' G11 H11 B11 g11 r11 => ?_
            · intro k o v G6 H6 eo hx g6 rv
              cases rv
              obtain ⟨x, f1, eo⟩ := bnd eo
              obtain ⟨y, f2, eo⟩ := bnd eo
              obtain ⟨z, f3, eo⟩ := bnd eo
              cases eo
              refine ⟨et_yes, fun y ey => ?_⟩
              cases ey
              exact er_call2 (er_mAt ((ml9.up g10).up g6) (ev_var rfl) (er_n rfl) f1) (er_idx2 (er_var rfl rc) (er_n rfl) (er_n rfl) f2) f3
            have eo := hret _ rfl
            subst eo
            cases e
            exact s_ret (er_tup2 (er_c rfl) (er_any (er_tup2 (er_anyV (a := {}) (ev_var rfl)) (er_var rfl r11)))) B11 q
          · have ef : (if kind = Str.ofString "scaled" then _ else _) = some o' := ef
            rw [if_neg (of_decide_eq_false hy)] at ef
            cases ef
            have eo := hret _ rfl
            subst eo
            cases e
            exact s_ret (er_tup2 (er_c rfl) (er_any (er_tup2 (er_anyV (a := {}) (ev_var rfl)) (er_var rfl r9)))) B10 q
      · cases el : lo.last with
        | none => rw [el] at hx; cases hx
        | some k =>
          rw [el] at ef
          cases ef
          have r7 : rep G7 v7 lo.last := r7
          rw [el] at r7
          have r7 : v7 = .int (k : Int) := r7
          subst r7
          exact ⟨_, rfl, G8, inferInstance, B8, _, _, _, rfl, ml7.up g8, md7.up g8, fun k' e' => by cases e'; rfl⟩
    · rintro s σ' G6 H6 eo _ B6 ⟨x6, x7, x8, rfl, ml, md, hk⟩
      subst eo
      obtain ⟨lk, e1, e⟩ := bnd e
      obtain ⟨rd, e2, e⟩ := bnd e
      cases e
      have h7 := hk lk e1
      subst h7
      obtain ⟨G7, B7, x67, rd7⟩ := md.frz B6
      exact s_ret (er_tup2 (er_c rfl) (er_any (er_call3 (er_var rfl rd7) (er_n rfl) (er_n rfl) e2))) B7 q
  next => cases e
theorem cal_has_wish : Cal P w K mg base "has_wish" 7 ["book", "kind"] (Sp2 hasWishM) := by
  refine cal_of (T.fn 22 22) scHasWish (fun _ _ _ _ h => h.len) (fun _ _ _ _ _ _ _ us hl => match us, hl with | [_, _], _ => rfl) fun f cdv A outer s H vs Q E hr h => ?_
  obtain ⟨G, vb, vk, b, kind, r, rfl, eG, rb, rk, e, q⟩ := h
  cases rk
  obtain ⟨t, h1, e⟩ := bnd e
  cases e
  refine ⟨_, (pss_one (ps_ret (pe_cmpR op_eq (pe_ix (k_ixT K) (pe_cal (cal_told_by T) hr rfl (pa_cons (pv 0) (pa_cons (pv 1) pa_nil))) pe_int (fun _ _ => rfl)) pe_str (nomark _)))), ?_⟩
  exact s_ret (er_eqS (er_ix0 (er_call2 (er_var rfl rb) (er_s rfl) h1)) (er_c rfl)) (Gro.refl eG) q
end
end G3
end
/-! G3Base6 -/
section
set_option Elab.async false
set_option linter.all false
set_option maxRecDepth 100000
set_option maxHeartbeats 4000000
/-! G3Base6: freezing a list beside others; some more expressions. -/
namespace G3
open PySem PySem.Spec PyProof.Rows L2
open Evl (Ex fresh_back)
open Rep (rep)
section
variable {α β : Type} [Rep α] [Rep β] {G H G0 H0 G' : Hp} {l l2 : Addr} {xs : List α} {ys : List β} {σ : L2.St} {te : TE}
/-- it changes no more, others do -/
theorem Ml.frzO (m : Ml H0 G H l xs) (B : Gro G0 H0 G H) : ∃ G', Gro G0 H0 G' H ∧ GSt G G' ∧ rep G' (.ref l) xs ∧ ∀ a, a ≠ l → G a = none → G' a = none := by
  obtain ⟨vs, h1, h2⟩ := m.ex
  exact ⟨upd G l (.lst vs), B.frz m.h0 m.hG h1, ⟨Ex.new m.hG⟩, ⟨l, vs, rfl, upd_same, h2.mono (Ex.new m.hG)⟩, fun a ha hg => by rw [upd_ne ha]; exact hg⟩
theorem Ml.lift (m : Ml H0 G H l xs) (e : GSt G G') (h : G' l = none) : Ml H0 G' H l xs := by
  obtain ⟨vs, h1, h2⟩ := m.ex
  exact ⟨⟨vs, h1, h2.mono e.ex⟩, m.h0, h⟩
theorem Ml.ne (m : Ml H0 G H l xs) (h : H l2 = none) : l ≠ l2 := by
  obtain ⟨vs, e, _⟩ := m.ex
  intro z; subst z; rw [h] at e; cases e
theorem er_neg {i : Int} (h : EvR te σ G H i) : EvR (tUn (rU fun i => .int (-i)) te) σ G H (-i) := fun G1 H1 g Q q => h G1 H1 g _ fun v G2 H2 g2 r => by
  cases r
  exact ⟨i, rfl, q _ G2 H2 g2 rfl⟩
theorem er_nsub {ta tb : TE} {m n : Nat} (ha : EvR ta σ G H m) (hb : EvR tb σ G H n) (h : n ≤ m) : EvR (tOp (rI0 fun i j => .int (i - j)) ta tb) σ G H (m - n : Nat) := er_nat (er_is (er_sub (er_int ha) (er_int hb)) (by omega))
theorem last_of {x : α} (h : xs.getLast? = some x) : ∃ ys, xs = ys ++ [x] := List.getLast?_eq_some_iff.mp h
end
end G3
end
/-! G3W6 -/
section
set_option Elab.async false
set_option linter.all false
set_option maxRecDepth 100000
set_option maxHeartbeats 4000000
/-! G3W6: walks: walks, least_mean, lifted, dearest. -/
namespace G3
open PySem PySem.Spec PyProof.Rows L2
open Evl (Ex fresh_back)
open Rep (rep)
theorem scWalks : FnScope ["costs", "many", "told", "turn", "row", "there", "some", "one"] ["costs"] (defScope sWalks) := ⟨rfl, rfl, rfl, by decide +kernel, rfl, by decide +kernel, by decide +kernel⟩
section
variable {P : Program} {w : World} {K : PySem.W.Frag} {mg : Str → Option Value} {base : Heap} (T : Top K mg)
include T
theorem cal_walks : Cal P w K mg base "walks" 1 ["costs"] (Sp1 walksM) := by
  refine cal_of (T.fn 24 24) scWalks (fun _ _ _ _ h => h.len) (fun _ _ _ _ _ _ _ us hl => match us, hl with | [_], _ => rfl) fun f cdv A outer s H vs Q E hr h => ?_
  obtain ⟨G, vc, c, r, rfl, eG, rc, e, q⟩ := h
  unfold walksM at e
  split at e
  next hl =>
    obtain ⟨hl1, hl2⟩ := hl
    refine ⟨_, (pss_cons (ps_set (i := 1) scWalks.nd rfl (.inl rfl) (pe_callB (k_len K) rfl (m_len T) bt_len (pa_cons (pv 0) pa_nil)))
  (pss_cons (ps_set (i := 2) scWalks.nd rfl (.inl rfl) (pe_lst (pa_cons (pe_op op_cat (pe_lst (pa_cons pe_int pa_nil)) (pe_op op_rep (pe_lst (pa_cons pe_non pa_nil)) (pe_op op_sub (pv 1) pe_int))) pa_nil)))
  (pss_cons (ps_for PassesOwn.never rfl (pi_range1 rfl (m_range T) (pa_cons (pv 1) pa_nil)) (pg_name (i := 3) scWalks.nd rfl (.inl rfl))
  (pss_cons (ps_set (i := 4) scWalks.nd rfl (.inl rfl) (pe_lst pa_nil))
  (pss_cons (ps_for PassesOwn.never rfl (pi_range1 rfl (m_range T) (pa_cons (pv 1) pa_nil)) (pg_name (i := 5) scWalks.nd rfl (.inl rfl))
  (pss_cons (ps_set (i := 6) scWalks.nd rfl (.inl rfl) (pe_lst pa_nil))
  (pss_cons (ps_for PassesOwn.never rfl (pi_range1 rfl (m_range T) (pa_cons (pv 1) pa_nil)) (pg_name (i := 7) scWalks.nd rfl (.inl rfl))
  (pss_one (ps_if (PW.pt (pw_and (pt_cmpR op_ne (pv 7) (pv 5) (nomark _)) (pw_and1 (pt_cmpR op_notX (pe_ix (k_ixL K) (pe_ix (k_ixL K) (pv 2) (pe_un un_neg pe_int) (fun _ _ => rfl)) (pv 7) (fun _ _ => rfl)) pe_non (nomark _))))) (pss_one (ps_expr (pe_bm PySem.F.plainAttrs_list PySem.F.slot_list_append PySem.F.type_list_append mt_append (pv 6) (pa_cons (pe_op op_sub (pe_op op_add (pe_ix (k_ixL K) (pe_ix (k_ixL K) (pv 2) (pe_un un_neg pe_int) (fun _ _ => rfl)) (pv 7) (fun _ _ => rfl)) (pe_ix (k_ixL K) (pe_ix (k_ixL K) (pv 0) (pv 7) (fun _ _ => rfl)) (pv 5) (fun _ _ => rfl))) (pe_ix (k_ixL K) (pe_ix (k_ixL K) (pv 0) (pv 7) (fun _ _ => rfl)) (pv 7) (fun _ _ => rfl))) pa_nil)))) pss_nil)))
  (pss_one (ps_expr (pe_bm PySem.F.plainAttrs_list PySem.F.slot_list_append PySem.F.type_list_append mt_append (pv 4) (pa_cons (pe_ifExp (pt_cmpR (k_neD K hr.units) (pv 6) (pe_lst pa_nil) (nomark _)) (pe_callB (k_min K rfl) rfl (m_min T) bt_min (pa_cons (pv 6) pa_nil)) pe_non) pa_nil)))))))
  (pss_one (ps_expr (pe_bm PySem.F.plainAttrs_list PySem.F.slot_list_append PySem.F.type_list_append mt_append (pv 2) (pa_cons (pv 4) pa_nil)))))))
  (pss_one (ps_ret (pv 2)))))), ?_⟩
    refine q_asg (er_len (er_var rfl rc)) (Gro.refl eG) fun v1 G1 H1 B1 g1 r1 => ?_
    cases r1
    refine q_asgN (xs := [some (0 : Int) :: List.replicate (c.length - 1) none]) (en_lst (el_cons (er_new (en_cat (xs := [some (0 : Int)]) (ys := List.replicate (c.length - 1) none) (er_new (en_lst (el_cons (er_some (er_c (x := (0 : Int)) rfl)) el_nil) (by simp)))
      (er_new (en_rep (x := (none : Option Int)) (er_c rfl) (er_nsub (er_n rfl) (er_c (x := (1 : Nat)) rfl) hl1) (by omega))) (by rw [List.length_replicate]; show 1 + _ ≤ _; omega))) el_nil) (by simp)) B1 fun l G2 H2 B2 g2 ml _ => ?_
    refine q_for e (ei_range (er_n rfl) (by omega)) B2 (fun s σ' G' H' => ∃ x3 x4 x5 x6 x7, σ' = [some vc, some (.int (c.length : Int)), some (.ref l), x3, x4, x5, x6, x7] ∧ Ml H G' H' l s) (fun G3 H3 g3 => ⟨none, none, none, none, none, rfl, ml.up g3⟩) ?_ ?_ ?_
    · rintro s σ' G' H' G3 H3 ⟨x3, x4, x5, x6, x7, rfl, ml⟩ g
      exact ⟨x3, x4, x5, x6, x7, rfl, ml.up g⟩
    · rintro Gb s t s' vx σ' G3 H3 _ ef hx _ B3 ⟨x3, x4, x5, x6, x7, rfl, ml⟩ rx N hN
      cases rx
      unfold wkTurn at ef
      obtain ⟨prev, e1, ef⟩ := bnd ef
      obtain ⟨row, e2, ef⟩ := bnd ef
      obtain ⟨hz, rfl⟩ := snocM_inv ef
      obtain ⟨init, rfl⟩ := last_of e1
      refine q_asgN (xs := ([] : List (Option Int))) (en_lst el_nil (Nat.zero_le _)) B3 fun l2 G4 H4 B4 g4 ml2 hl2 => ?_
      have hne : l ≠ l2 := ml.ne hl2
      refine q_for e2 (ei_range (er_n rfl) (by omega)) B4 (fun s σ' G' H' => ∃ x5 x6 x7, σ' = [some vc, some (.int (c.length : Int)), some (.ref l), some (.int (t : Int)), some (.ref l2), x5, x6, x7] ∧ Ml H G' H' l (init ++ [prev]) ∧ Ml H G' H' l2 s) (fun G5 H5 g5 => ⟨x5, x6, x7, rfl, (ml.up g4).up g5, ml2.up g5⟩) ?_ ?_ ?_
      · rintro s σ' G' H' G3 H3 ⟨x5, x6, x7, rfl, ml, ml2⟩ g
        exact ⟨x5, x6, x7, rfl, ml.up g, ml2.up g⟩
      · rintro Gc s there s' vx σ' G5 H5 _ ef hx _ B5 ⟨x5, x6, x7, rfl, ml, ml2⟩ rx N hN
        cases rx
        unfold wkCell at ef
        obtain ⟨acc, e3, ef⟩ := bnd ef
        obtain ⟨hz2, rfl⟩ := snocM_inv ef
        refine q_asgN (xs := ([] : List Int)) (en_lst el_nil (Nat.zero_le _)) B5 fun l3 G6 H6 B6 g6 ml3 hl3 => ?_
        have hne3 : l ≠ l3 := ml.ne hl3
        have hne23 : l2 ≠ l3 := ml2.ne hl3
        refine q_for e3 (ei_range (er_n rfl) (by omega)) B6 (fun s' σ' G' H' => ∃ x7, σ' = [some vc, some (.int (c.length : Int)), some (.ref l), some (.int (t : Int)), some (.ref l2), some (.int (there : Int)), some (.ref l3), x7] ∧ Ml H G' H' l (init ++ [prev]) ∧ Ml H G' H' l2 s ∧ Ml H G' H' l3 s') (fun G7 H7 g7 => ⟨x7, rfl, (ml.up g6).up g7, (ml2.up g6).up g7, ml3.up g7⟩) ?_ ?_ ?_
        · rintro s σ' G' H' G3 H3 ⟨x7, rfl, ml, ml2, ml3⟩ g
          exact ⟨x7, rfl, ml.up g, ml2.up g, ml3.up g⟩
        · rintro Gd acc one acc' vx σ' G7 H7 _ ef hx _ B7 ⟨x7, rfl, ml, ml2, ml3⟩ rx N hN
          cases rx
          unfold wkSome at ef
          split at ef
          next hne' =>
            obtain ⟨p, e4, ef⟩ := bnd ef
            have hp : ∀ G8 H8, Gro G7 H7 G8 H8 → EvR (tOp (rIxL K) (tOp (rIxL K) (tVar 2) (tUn (rU fun i => .int (-i)) (tC (.int 1)))) (tVar 7)) [some vc, some (.int (c.length : Int)), some (.ref l), some (.int (t : Int)), some (.ref l2), some (.int (there : Int)), some (.ref l3), some (.int (one : Int))] G8 H8 p := fun G8 H8 g8 =>
              er_ixL (er_lastM (ml.up g8) (ev_var rfl) (er_neg (er_c (x := (1 : Int)) rfl))) (er_n rfl) e4
            refine s_when (b := p.isSome) (et_is (et_and (et_test (er_neN (er_n rfl) (er_n rfl))) fun _ => et_test (er_notN (hp G7 H7 (Gro.refl B7.sub)))) (by rw [decide_eq_false hne']; rfl)) B7 (fun hx G8 H8 B8 g8 => ?_) (fun hx G8 H8 B8 g8 => ?_)
            · cases p with
              | none => cases hx
              | some x =>
                obtain ⟨y, e5, ef⟩ := bnd ef
                obtain ⟨z, e6, ef⟩ := bnd ef
                obtain ⟨hz3, rfl⟩ := snocM_inv ef
                refine s_app (ml3.up g8) (ev_var rfl) (er_sub (er_add (er_ofSome (hp G8 H8 g8)) (er_idx2 (er_var rfl rc) (er_n rfl) (er_n rfl) e5)) (er_idx2 (er_var rfl rc) (er_n rfl) (er_n rfl) e6)) (by omega) B8 fun o G9 H9 g9 B9 ml9 => ?_
                exact hN _ _ ⟨G9, inferInstance, B9, _, rfl, ((ml.up g8).up g9).oth hne3, ((ml2.up g8).up g9).oth hne23, ml9⟩
            · cases p with
              | some x => cases hx
              | none =>
                cases ef
                exact hN _ _ ⟨G8, inferInstance, B8, _, rfl, ml.up g8, ml2.up g8, ml3.up g8⟩
          next hne' =>
            cases ef
            have hne' : one = there := by omega
            refine s_when (b := false) (et_is (et_and (b := false) (et_test (er_neN (er_n rfl) (er_n rfl))) fun hh => ?_) (by rw [decide_eq_true hne']; rfl)) B7 (fun hx => nomatch hx) (fun hx G8 H8 B8 g8 => ?_)
            · rw [decide_eq_true hne'] at hh; cases hh
            · exact hN _ _ ⟨G8, inferInstance, B8, _, rfl, ml.up g8, ml2.up g8, ml3.up g8⟩
        · rintro σ' G7 H7 _ B7 ⟨x7, rfl, ml, ml2, ml3⟩
          obtain ⟨G8, B8, st8, r8, hk8⟩ := ml3.frzO B7
          have ml8 := ml.lift st8 (hk8 _ hne3 ml.hG)
          have ml28 := ml2.lift st8 (hk8 _ hne23 ml2.hG)
          refine s_app (x := minI acc) ml28 (ev_var rfl) (er_ifE (b := !acc.isEmpty) (et_test (er_neNil (er_var rfl r8) (Nat.zero_le _))) (fun hb => ?_) (fun hb => ?_)) (by omega) B8 fun o G9 H9 g9 B9 ml9 => ?_
          · cases acc with
            | nil => cases hb
            | cons a t => exact er_some (er_min (er_var rfl r8) rfl)
          · cases acc with
            | nil => exact er_c rfl
            | cons a t => cases hb
          · exact hN _ _ ⟨G9, inferInstance, B9, _, _, _, rfl, (ml8.up g9).oth hne, ml9⟩
      · rintro σ' G5 H5 _ B5 ⟨x5, x6, x7, rfl, ml, ml2⟩
        obtain ⟨G8, B8, st8, r8, hk8⟩ := ml2.frzO B5
        have ml8 := ml.lift st8 (hk8 _ hne ml.hG)
        refine s_app ml8 (ev_var rfl) (er_var rfl r8) (by omega) B8 fun o G9 H9 g9 B9 ml9 => ?_
        exact hN _ _ ⟨G9, inferInstance, B9, _, _, _, _, _, rfl, ml9⟩
    · rintro σ' G5 H5 _ B5 ⟨x3, x4, x5, x6, x7, rfl, ml⟩
      exact s_retM (ev_var rfl) B5 ml q
  next => cases e
end
end G3
end
/-! G3W7 -/
section
set_option Elab.async false
set_option linter.all false
set_option maxRecDepth 100000
set_option maxHeartbeats 4000000
/-! G3W7: walks: least_mean, lifted, dearest. -/
namespace G3
open PySem PySem.Spec PyProof.Rows L2
open Evl (Ex fresh_back)
open Rep (rep)
theorem scLeastMean : FnScope ["costs", "many", "told", "best", "there", "worst", "k", "here"] ["costs"] (defScope sLeastMean) := ⟨rfl, rfl, rfl, by decide +kernel, rfl, by decide +kernel, by decide +kernel⟩
theorem scLifted : FnScope ["costs", "mean", "many", "worths", "turn", "one", "other", "there"] ["costs", "mean"] (defScope sLifted) := ⟨rfl, rfl, rfl, by decide +kernel, rfl, by decide +kernel, by decide +kernel⟩
theorem scDearest : FnScope ["book", "costs", "mean", "worths", "ways", "one", "row", "other", "there", "way"] ["book"] (defScope sDearest) := ⟨rfl, rfl, rfl, by decide +kernel, rfl, by decide +kernel, by decide +kernel⟩
section
variable {P : Program} {w : World} {K : PySem.W.Frag} {mg : Str → Option Value} {base : Heap} (T : Top K mg)
include T
theorem cal_least_mean : Cal P w K mg base "least_mean" 3 ["costs"] (Sp1 leastMeanM) := by
  refine cal_of (T.fn 25 25) scLeastMean (fun _ _ _ _ h => h.len) (fun _ _ _ _ _ _ _ us hl => match us, hl with | [_], _ => rfl) fun f cdv A outer s H vs Q E hr h => ?_
  obtain ⟨G, vc, c, r, rfl, eG, rc, e, q⟩ := h
  unfold leastMeanM at e
  split at e
  next hl =>
    obtain ⟨told, h1, e⟩ := bnd e
    refine ⟨_, (pss_cons (ps_set (i := 1) scLeastMean.nd rfl (.inl rfl) (pe_callB (k_len K) rfl (m_len T) bt_len (pa_cons (pv 0) pa_nil)))
  (pss_cons (ps_set (i := 2) scLeastMean.nd rfl (.inl rfl) (pe_cal (cal_walks T) (hr.mono (by decide)) rfl (pa_cons (pv 0) pa_nil)))
  (pss_cons (ps_set (i := 3) scLeastMean.nd rfl (.inl rfl) pe_non)
  (pss_cons (ps_for PassesOwn.never rfl (pi_range1 rfl (m_range T) (pa_cons (pv 1) pa_nil)) (pg_name (i := 4) scLeastMean.nd rfl (.inl rfl))
  (pss_one (ps_if (pt_cmpR op_notX (pe_ix (k_ixL K) (pe_ix (k_ixL K) (pv 2) (pv 1) (fun _ _ => rfl)) (pv 4) (fun _ _ => rfl)) pe_non (nomark _)) (pss_cons (ps_set (i := 5) scLeastMean.nd rfl (.inl rfl) pe_non)
  (pss_cons (ps_for PassesOwn.never rfl (pi_range1 rfl (m_range T) (pa_cons (pv 1) pa_nil)) (pg_name (i := 6) scLeastMean.nd rfl (.inl rfl))
  (pss_one (ps_if (pt_cmpR op_notX (pe_ix (k_ixL K) (pe_ix (k_ixL K) (pv 2) (pv 6) (fun _ _ => rfl)) (pv 4) (fun _ _ => rfl)) pe_non (nomark _)) (pss_cons (ps_set (i := 7) scLeastMean.nd rfl (.inl rfl) (pe_cal (cal_fraction T) hr rfl (pa_cons (pe_op op_sub (pe_ix (k_ixL K) (pe_ix (k_ixL K) (pv 2) (pv 1) (fun _ _ => rfl)) (pv 4) (fun _ _ => rfl)) (pe_ix (k_ixL K) (pe_ix (k_ixL K) (pv 2) (pv 6) (fun _ _ => rfl)) (pv 4) (fun _ _ => rfl))) (pa_cons (pe_op op_sub (pv 1) (pv 6)) pa_nil))))
  (pss_one (ps_if (PW.pt (pw_or (pt_cmpR op_isX (pv 5) pe_non (nomark _)) (pw_or1 (pt_val (pe_cal (cal_is_less T) (hr.mono (by decide)) rfl (pa_cons (pv 5) (pa_cons (pv 7) pa_nil))))))) (pss_one (ps_set (i := 5) scLeastMean.nd rfl (.inl rfl) (pv 7))) pss_nil))) pss_nil)))
  (pss_one (ps_if (PW.pt (pw_or (pt_cmpR op_isX (pv 3) pe_non (nomark _)) (pw_or1 (pt_val (pe_cal (cal_is_less T) (hr.mono (by decide)) rfl (pa_cons (pv 5) (pa_cons (pv 3) pa_nil))))))) (pss_one (ps_set (i := 3) scLeastMean.nd rfl (.inl rfl) (pv 5))) pss_nil)))) pss_nil)))
  (pss_one (ps_ret (pv 3))))))), ?_⟩
    refine q_asg (er_len (er_var rfl rc)) (Gro.refl eG) fun v1 G1 H1 B1 g1 r1 => ?_
    cases r1
    refine q_asg (er_call1 (er_var rfl rc) h1) B1 fun v2 G2 H2 B2 g2 r2 => ?_
    refine q_asg (x := (none : Option Fr)) (er_c rfl) B2 fun v3 G3 H3 B3 g3 r3 => ?_
    refine q_for e (ei_range (er_n rfl) (by omega)) B3 (fun s σ' G' H' => ∃ v3 x4 x5 x6 x7, σ' = [some vc, some (.int (c.length : Int)), some v2, some v3, x4, x5, x6, x7] ∧ rep G' v3 s) (fun G4 H4 g4 => ⟨v3, none, none, none, none, rfl, Rep.mono g4.g r3⟩) ?_ ?_ ?_
    · rintro s σ' G' H' G3 H3 ⟨v3, x4, x5, x6, x7, rfl, r3⟩ g
      exact ⟨v3, x4, x5, x6, x7, rfl, Rep.mono g.g r3⟩
    · rintro Gb best there s' vx σ' G4 H4 _ ef hx _ B4 ⟨v3, x4, x5, x6, x7, rfl, r3⟩ rx N hN
      cases rx
      unfold lmTurn at ef
      obtain ⟨p, e1, ef⟩ := bnd ef
      refine s_when (et_test (er_notN (er_idx2 (er_var rfl r2) (er_n rfl) (er_n rfl) e1))) B4 (fun hx G5 H5 B5 g5 => ?_) (fun hx G5 H5 B5 g5 => ?_)
      · cases p with
        | none => cases hx
        | some dn =>
          obtain ⟨worst, e2, ef⟩ := bnd ef
          refine q_asg (x := (none : Option Fr)) (er_c rfl) B5 fun v5 G6 H6 B6 g6 r5 => ?_
          refine q_for e2 (ei_range (er_n rfl) (by omega)) B6 (fun s σ' G' H' => ∃ v5 x6 x7, σ' = [some vc, some (.int (c.length : Int)), some v2, some v3, some (.int (there : Int)), some v5, x6, x7] ∧ rep G' v5 s) (fun G4 H4 g4 => ⟨v5, x6, x7, rfl, Rep.mono g4.g r5⟩) ?_ ?_ ?_
          · rintro s σ' G' H' G3 H3 ⟨v5, x6, x7, rfl, r5⟩ g
            exact ⟨v5, x6, x7, rfl, Rep.mono g.g r5⟩
          · rintro Gc worst k s' vx σ' G7 H7 _ ef hk _ B7 ⟨v5, x6, x7, rfl, r5⟩ rx N hN
            cases rx
            have hk := List.mem_range.mp hk
            unfold lmWorst at ef
            obtain ⟨p, e3, ef⟩ := bnd ef
            refine s_when (et_test (er_notN (er_idx2 (er_var rfl r2) (er_n rfl) (er_n rfl) e3))) B7 (fun hx G8 H8 B8 g8 => ?_) (fun hx G8 H8 B8 g8 => ?_)
            · cases p with
              | none => cases hx
              | some dk =>
                obtain ⟨here, e4, ef⟩ := bnd ef
                refine q_asg (er_call2 (er_sub (er_ofSome (er_idx2 (er_var rfl r2) (er_n rfl) (er_n rfl) e1)) (er_ofSome (er_idx2 (er_var rfl r2) (er_n rfl) (er_n rfl) e3))) (er_sub (er_int (er_n rfl)) (er_int (er_n rfl))) e4) B8 fun v7 G9 H9 B9 g9 r7 => ?_
                cases worst with
                | none =>
                  cases ef
                  refine s_when (b := true) (et_is (et_or (b := false) (et_test (er_isN (er_var rfl r5))) fun hh => nomatch hh) rfl) B9 (fun hx G10 H10 B10 g10 => ?_) (fun hx => nomatch hx)
                  exact s_asg (x := some here) (er_some (er_var rfl r7)) B10 fun v5 G11 H11 B11 g11 r11 => hN _ _ ⟨G11, inferInstance, B11, v5, _, _, rfl, r11⟩
                | some x =>
                  obtain ⟨l, e5, ef⟩ := bnd ef
                  cases ef
                  refine s_when (b := l) (et_is (et_or (b := l) (et_test (er_isN (er_var rfl r5))) fun hh => et_B (er_call2 (er_ofSome (er_var rfl r5)) (er_var rfl r7) e5)) rfl) B9 (fun hx G10 H10 B10 g10 => ?_) (fun hx G10 H10 B10 g10 => ?_)
                  · subst hx
                    exact s_asg (x := some here) (er_some (er_var rfl r7)) B10 fun v5 G11 H11 B11 g11 r11 => hN _ _ ⟨G11, inferInstance, B11, v5, _, _, rfl, r11⟩
                  · subst hx
                    exact hN _ _ ⟨G10, inferInstance, B10, v5, _, _, rfl, up r5⟩
            · cases p with
              | some x => cases hx
              | none =>
                cases ef
                exact hN _ _ ⟨G8, inferInstance, B8, v5, _, _, rfl, up r5⟩
          · rintro σ' G7 H7 _ B7 ⟨v5, x6, x7, rfl, r5⟩
            cases best with
            | none =>
              cases ef
              refine s_when (b := true) (et_is (et_or (b := false) (et_test (er_isN (er_var rfl r3))) fun hh => nomatch hh) rfl) B7 (fun hx G10 H10 B10 g10 => ?_) (fun hx => nomatch hx)
              exact s_asg (er_var rfl r5) B10 fun v3 G11 H11 B11 g11 r11 => hN _ _ ⟨G11, inferInstance, B11, v3, _, _, _, _, rfl, r11⟩
            | some x =>
              obtain ⟨y, hy, ef'⟩ := bnd ef
              subst hy
              obtain ⟨l, e5, ef⟩ := bnd ef'
              cases ef
              refine s_when (b := l) (et_is (et_or (b := l) (et_test (er_isN (er_var rfl r3))) fun hh => et_B (er_call2 (er_ofSome (er_var rfl r5)) (er_ofSome (er_var rfl r3)) e5)) rfl) B7 (fun hx G10 H10 B10 g10 => ?_) (fun hx G10 H10 B10 g10 => ?_)
              · subst hx
                exact s_asg (er_var rfl r5) B10 fun v3 G11 H11 B11 g11 r11 => hN _ _ ⟨G11, inferInstance, B11, v3, _, _, _, _, rfl, r11⟩
              · subst hx
                exact hN _ _ ⟨G10, inferInstance, B10, v3, _, _, _, _, rfl, up r3⟩
      · cases p with
        | some x => cases hx
        | none =>
          cases ef
          exact hN _ _ ⟨G5, inferInstance, B5, v3, _, _, _, _, rfl, up r3⟩
    · rintro σ' G7 H7 _ B7 ⟨v3, x4, x5, x6, x7, rfl, r3⟩
      exact s_ret (er_var rfl r3) B7 q
  next => cases e
theorem cal_lifted : Cal P w K mg base "lifted" 4 ["costs", "mean"] (Sp2 liftedM) := by
  refine cal_of (T.fn 26 26) scLifted (fun _ _ _ _ h => h.len) (fun _ _ _ _ _ _ _ us hl => match us, hl with | [_, _], _ => rfl) fun f cdv A outer s H vs Q E hr h => ?_
  obtain ⟨G, vc, vm, c, mean, r, rfl, eG, rc, rm, e, q⟩ := h
  unfold liftedM at e
  split at e
  next hl =>
    refine ⟨_, (pss_cons (ps_set (i := 2) scLifted.nd rfl (.inl rfl) (pe_callB (k_len K) rfl (m_len T) bt_len (pa_cons (pv 0) pa_nil)))
  (pss_cons (ps_set (i := 3) scLifted.nd rfl (.inl rfl) (pe_op op_rep (pe_lst (pa_cons (pe_tup (pa_cons pe_int (pa_cons pe_int pa_nil))) pa_nil)) (pv 2)))
  (pss_cons (ps_for PassesOwn.never rfl (pi_range1 rfl (m_range T) (pa_cons (pv 2) pa_nil)) (pg_name (i := 4) scLifted.nd rfl (.inl rfl))
  (pss_one (ps_for PassesOwn.never rfl (pi_range1 rfl (m_range T) (pa_cons (pv 2) pa_nil)) (pg_name (i := 5) scLifted.nd rfl (.inl rfl))
  (pss_one (ps_for PassesOwn.never rfl (pi_range1 rfl (m_range T) (pa_cons (pv 2) pa_nil)) (pg_name (i := 6) scLifted.nd rfl (.inl rfl))
  (pss_cons (ps_set (i := 7) scLifted.nd rfl (.inl rfl) (pe_cal (cal_minus T) hr rfl (pa_cons (pe_cal (cal_plus T) hr rfl (pa_cons (pe_ix (k_ixL K) (pv 3) (pv 5) (fun _ _ => rfl)) (pa_cons (pe_tup (pa_cons (pe_op op_sub (pe_ix (k_ixL K) (pe_ix (k_ixL K) (pv 0) (pv 5) (fun _ _ => rfl)) (pv 6) (fun _ _ => rfl)) (pe_ix (k_ixL K) (pe_ix (k_ixL K) (pv 0) (pv 5) (fun _ _ => rfl)) (pv 5) (fun _ _ => rfl))) (pa_cons pe_int pa_nil))) pa_nil))) (pa_cons (pv 1) pa_nil))))
  (pss_one (ps_if (PW.pt (pw_and (pt_cmpR op_ne (pv 5) (pv 6) (nomark _)) (pw_and1 (pt_val (pe_cal (cal_is_less T) (hr.mono (by decide)) rfl (pa_cons (pv 7) (pa_cons (pe_ix (k_ixL K) (pv 3) (pv 6) (fun _ _ => rfl)) pa_nil))))))) (pss_one (ps_asg (pv 7) (pg_sub (pv 3) (pv 6) set_list))) pss_nil))))))))
  (pss_one (ps_ret (pv 3)))))), ?_⟩
    refine q_asg (er_len (er_var rfl rc)) (Gro.refl eG) fun v1 G1 H1 B1 g1 r1 => ?_
    cases r1
    refine q_asgN (en_rep (x := ((0, 1) : Fr)) (n := c.length) (er_tup2 (er_c (x := (0 : Int)) rfl) (er_c (x := (1 : Int)) rfl)) (er_n rfl) (by omega)) B1 fun l G2 H2 B2 g2 ml _ => ?_
    refine q_for e (ei_range (er_n rfl) (by omega)) B2 (fun s σ' G' H' => ∃ x4 x5 x6 x7, σ' = [some vc, some vm, some (.int (c.length : Int)), some (.ref l), x4, x5, x6, x7] ∧ Ml H G' H' l s) (fun G4 H4 g4 => ⟨none, none, none, none, rfl, ml.up g4⟩) ?_ ?_ ?_
    · rintro s σ' G' H' G3 H3 ⟨x4, x5, x6, x7, rfl, ml⟩ g
      exact ⟨x4, x5, x6, x7, rfl, ml.up g⟩
    · rintro Gb w0 t s' vx σ' G4 H4 _ ef hx _ B4 ⟨x4, x5, x6, x7, rfl, ml⟩ rx N hN
      cases rx
      refine s_for ef (ei_range (er_n rfl) (by omega)) B4 (fun s σ' G' H' => ∃ x5 x6 x7, σ' = [some vc, some vm, some (.int (c.length : Int)), some (.ref l), some (.int (t : Int)), x5, x6, x7] ∧ Ml H G' H' l s) (fun G4 H4 g4 => ⟨x5, x6, x7, rfl, ml.up g4⟩) ?_ ?_ ?_
      · rintro s σ' G' H' G3 H3 ⟨x5, x6, x7, rfl, ml⟩ g
        exact ⟨x5, x6, x7, rfl, ml.up g⟩
      · rintro Gc w1 one s' vx σ' G5 H5 _ ef hx _ B5 ⟨x5, x6, x7, rfl, ml⟩ rx N hN
        cases rx
        refine s_for ef (ei_range (er_n rfl) (by omega)) B5 (fun s σ' G' H' => ∃ x6 x7, σ' = [some vc, some vm, some (.int (c.length : Int)), some (.ref l), some (.int (t : Int)), some (.int (one : Int)), x6, x7] ∧ Ml H G' H' l s) (fun G4 H4 g4 => ⟨x6, x7, rfl, ml.up g4⟩) ?_ ?_ ?_
        · rintro s σ' G' H' G3 H3 ⟨x6, x7, rfl, ml⟩ g
          exact ⟨x6, x7, rfl, ml.up g⟩
        · rintro Gd w2 other s' vx σ' G6 H6 _ ef hx _ B6 ⟨x6, x7, rfl, ml⟩ rx N hN
          cases rx
          unfold liTurn liThere at ef
          obtain ⟨there, e1, ef⟩ := bnd ef
          obtain ⟨x, e2, e1⟩ := bnd e1
          obtain ⟨y, e3, e1⟩ := bnd e1
          obtain ⟨z, e4, e1⟩ := bnd e1
          obtain ⟨tt, e5, e1⟩ := bnd e1
          refine q_asg (er_call2 (er_call2 (er_mAt ml (ev_var rfl) (er_n rfl) e2) (er_tup2 (er_sub (er_idx2 (er_var rfl rc) (er_n rfl) (er_n rfl) e3) (er_idx2 (er_var rfl rc) (er_n rfl) (er_n rfl) e4)) (er_c (x := (1 : Int)) rfl)) e5) (er_var rfl rm) e1) B6 fun v7 G7 H7 B7 g7 r7 => ?_
          have ml7 := ml.up g7
          split at ef
          next hne =>
            obtain ⟨x2, e6, ef⟩ := bnd ef
            obtain ⟨lt, e7, ef⟩ := bnd ef
            cases ef
            refine s_when (b := lt) (et_is (et_and (et_test (er_neN (er_n rfl) (er_n rfl))) fun _ => et_B (er_call2 (er_var rfl r7) (er_mAt ml7 (ev_var rfl) (er_n rfl) e6) e7)) (by rw [decide_eq_false hne]; rfl)) B7 (fun hx G8 H8 B8 g8 => ?_) (fun hx G8 H8 B8 g8 => ?_)
            · subst hx
              have hj : other < w2.length := (List.getElem?_eq_some_iff.mp e6).1
              refine s_setL (ml7.up g8) (er_var rfl r7) (ev_var rfl) (er_n rfl) hj B8 fun o G9 H9 g9 B9 ml9 => ?_
              exact hN _ _ ⟨G9, inferInstance, B9, _, _, rfl, ml9⟩
            · subst hx
              exact hN _ _ ⟨G8, inferInstance, B8, _, _, rfl, ml7.up g8⟩
          next hne =>
            cases ef
            have hne : one = other := by omega
            refine s_when (b := false) (et_is (et_and (b := false) (et_test (er_neN (er_n rfl) (er_n rfl))) fun hh => ?_) (by rw [decide_eq_true hne]; rfl)) B7 (fun hx => nomatch hx) (fun hx G8 H8 B8 g8 => ?_)
            · rw [decide_eq_true hne] at hh; cases hh
            · exact hN _ _ ⟨G8, inferInstance, B8, _, _, rfl, ml7.up g8⟩
        · rintro σ' G6 H6 _ B6 ⟨x6, x7, rfl, ml⟩
          exact hN _ _ ⟨G6, inferInstance, B6, _, _, _, rfl, ml⟩
      · rintro σ' G6 H6 _ B6 ⟨x5, x6, x7, rfl, ml⟩
        exact hN _ _ ⟨G6, inferInstance, B6, _, _, _, _, rfl, ml⟩
    · rintro σ' G6 H6 _ B6 ⟨x4, x5, x6, x7, rfl, ml⟩
      exact s_retM (ev_var rfl) B6 ml q
  next => cases e
theorem cal_dearest : Cal P w K mg base "dearest" 5 ["book"] (Sp1 dearestM) := by
  refine cal_of (T.fn 27 27) scDearest (fun _ _ _ _ h => h.len) (fun _ _ _ _ _ _ _ us hl => match us, hl with | [_], _ => rfl) fun f cdv A outer s H vs Q E hr h => ?_
  obtain ⟨G, vb, b, r, rfl, eG, rb, e, q⟩ := h
  unfold dearestM at e
  split at e
  next hl =>
    obtain ⟨hl1, hl2⟩ := hl
    obtain ⟨c, h1, e⟩ := bnd e
    unfold dearC at e
    obtain ⟨m, h2, e⟩ := bnd e
    obtain ⟨mean, hm, e'⟩ := bnd e
    subst hm
    obtain ⟨wl, h3, e⟩ := bnd e'
    obtain ⟨ways, h4, e⟩ := bnd e
    obtain ⟨o, h5, e⟩ := bnd e
    refine ⟨_, (pss_cons (ps_if (pt_cmpR op_lt (pe_callB (k_len K) rfl (m_len T) bt_len (pa_cons (pv 0) pa_nil)) pe_int (nomark _)) (pss_one (ps_ret pe_non)) pss_nil)
  (pss_cons (ps_set (i := 1) scDearest.nd rfl (.inl rfl) (pe_cal (cal_costs_of T) (hr.mono (by decide)) rfl (pa_cons (pv 0) pa_nil)))
  (pss_cons (ps_set (i := 2) scDearest.nd rfl (.inl rfl) (pe_cal (cal_least_mean T) (hr.mono (by decide)) rfl (pa_cons (pv 1) pa_nil)))
  (pss_cons (ps_set (i := 3) scDearest.nd rfl (.inl rfl) (pe_cal (cal_lifted T) hr rfl (pa_cons (pv 1) (pa_cons (pv 2) pa_nil))))
  (pss_cons (ps_set (i := 4) scDearest.nd rfl (.inl rfl) (pe_lst pa_nil))
  (pss_cons (ps_for PassesOwn.never rfl (pi_range1 rfl (m_range T) (pa_cons (pe_callB (k_len K) rfl (m_len T) bt_len (pa_cons (pv 0) pa_nil)) pa_nil)) (pg_name (i := 5) scDearest.nd rfl (.inl rfl))
  (pss_cons (ps_set (i := 6) scDearest.nd rfl (.inl rfl) (pe_lst pa_nil))
  (pss_cons (ps_for PassesOwn.never rfl (pi_range1 rfl (m_range T) (pa_cons (pe_callB (k_len K) rfl (m_len T) bt_len (pa_cons (pv 0) pa_nil)) pa_nil)) (pg_name (i := 7) scDearest.nd rfl (.inl rfl))
  (pss_cons (ps_set (i := 8) scDearest.nd rfl (.inl rfl) (pe_cal (cal_minus T) (hr.mono (by decide)) rfl (pa_cons (pe_cal (cal_plus T) (hr.mono (by decide)) rfl (pa_cons (pe_ix (k_ixL K) (pv 3) (pv 5) (fun _ _ => rfl)) (pa_cons (pe_tup (pa_cons (pe_op op_sub (pe_ix (k_ixL K) (pe_ix (k_ixL K) (pv 1) (pv 5) (fun _ _ => rfl)) (pv 7) (fun _ _ => rfl)) (pe_ix (k_ixL K) (pe_ix (k_ixL K) (pv 1) (pv 5) (fun _ _ => rfl)) (pv 5) (fun _ _ => rfl))) (pa_cons pe_int pa_nil))) pa_nil))) (pa_cons (pv 2) pa_nil))))
  (pss_one (ps_expr (pe_bm PySem.F.plainAttrs_list PySem.F.slot_list_append PySem.F.type_list_append mt_append (pv 6) (pa_cons (pe_and (pe_cmpR op_ne (pv 5) (pv 7) (nomark _)) (pe_one (pe_cmpR (k_eqD K hr.units) (pv 8) (pe_ix (k_ixL K) (pv 3) (pv 7) (fun _ _ => rfl)) (nomark _)))) pa_nil))))))
  (pss_one (ps_expr (pe_bm PySem.F.plainAttrs_list PySem.F.slot_list_append PySem.F.type_list_append mt_append (pv 4) (pa_cons (pv 6) pa_nil)))))))
  (pss_cons (ps_for PassesOwn.never rfl (pi_range1 rfl (m_range T) (pa_cons (pe_callB (k_len K) rfl (m_len T) bt_len (pa_cons (pv 0) pa_nil)) pa_nil)) (pg_name (i := 5) scDearest.nd rfl (.inl rfl))
  (pss_one (ps_for PassesOwn.never rfl (pi_range1 rfl (m_range T) (pa_cons (pe_callB (k_len K) rfl (m_len T) bt_len (pa_cons (pv 0) pa_nil)) pa_nil)) (pg_name (i := 7) scDearest.nd rfl (.inl rfl))
  (pss_one (ps_if (pt_val (pe_ix (k_ixL K) (pe_ix (k_ixL K) (pv 4) (pv 5) (fun _ _ => rfl)) (pv 7) (fun _ _ => rfl))) (pss_cons (ps_set (i := 9) scDearest.nd rfl (.inl rfl) (pe_cal (cal_way_between T) (hr.mono (by decide)) rfl (pa_cons (pv 4) (pa_cons (pv 7) (pa_cons (pv 5) pa_nil)))))
  (pss_one (ps_if (pt_cmpR op_notX (pv 9) pe_non (nomark _)) (pss_one (ps_ret (pe_tup (pa_cons (pe_cal (cal_over T) (hr.mono (by decide)) rfl (pa_cons (pv 2) (pa_cons (pe_op op_sub pe_int pe_int) pa_nil))) (pa_cons (pv 9) (pa_cons (pv 3) pa_nil)))))) pss_nil))) pss_nil)))))
  (pss_one (ps_ret pe_non))))))))), ?_⟩
    refine q_when (et_test (er_lt (er_int (er_len (er_var rfl rb))) (er_c (x := (2 : Int)) rfl))) (Gro.refl eG) (fun hx => ?_) (fun hx G1 H1 B1 g1 => ?_)
    · have := of_decide_eq_true hx; omega
    refine q_asg (er_call1 (er_var rfl rb) h1) B1 fun vc G2 H2 B2 g2 rc => ?_
    refine q_asg (er_ofSome (er_call1 (er_var rfl rc) h2)) B2 fun vm G3 H3 B3 g3 rm => ?_
    refine q_asg (er_call2 (er_var rfl rc) (er_var rfl rm) h3) B3 fun vl G4 H4 B4 g4 rl => ?_
    refine q_asgN (xs := ([] : List (List Bool))) (en_lst el_nil (Nat.zero_le _)) B4 fun l G5 H5 B5 g5 ml _ => ?_
    refine q_for h4 (ei_range (er_len (er_var rfl rb)) (by omega)) B5 (fun s σ' G' H' => ∃ x5 x6 x7 x8 x9, σ' = [some vb, some vc, some vm, some vl, some (.ref l), x5, x6, x7, x8, x9] ∧ Ml H G' H' l s) (fun G4 H4 g4 => ⟨none, none, none, none, none, rfl, ml.up g4⟩) ?_ ?_ ?_
    · rintro s σ' G' H' G3 H3 ⟨x5, x6, x7, x8, x9, rfl, ml⟩ g
      exact ⟨x5, x6, x7, x8, x9, rfl, ml.up g⟩
    · rintro Gb ws one s' vx σ' G6 H6 _ ef hx _ B6 ⟨x5, x6, x7, x8, x9, rfl, ml⟩ rx N hN
      cases rx
      unfold deRow at ef
      obtain ⟨row, e1, ef⟩ := bnd ef
      obtain ⟨hz, rfl⟩ := snocM_inv ef
      refine q_asgN (xs := ([] : List Bool)) (en_lst el_nil (Nat.zero_le _)) B6 fun l2 G7 H7 B7 g7 ml2 hl2 => ?_
      have hne2 : l ≠ l2 := ml.ne hl2
      refine q_for e1 (ei_range (er_len (er_var rfl rb)) (by omega)) B7 (fun s σ' G' H' => ∃ x7 x8 x9, σ' = [some vb, some vc, some vm, some vl, some (.ref l), some (.int (one : Int)), some (.ref l2), x7, x8, x9] ∧ Ml H G' H' l ws ∧ Ml H G' H' l2 s) (fun G4 H4 g4 => ⟨x7, x8, x9, rfl, (ml.up g7).up g4, ml2.up g4⟩) ?_ ?_ ?_
      · rintro s σ' G' H' G3 H3 ⟨x7, x8, x9, rfl, ml, ml2⟩ g
        exact ⟨x7, x8, x9, rfl, ml.up g, ml2.up g⟩
      · rintro Gc row other s' vx σ' G8 H8 _ ef hx _ B8 ⟨x7, x8, x9, rfl, ml, ml2⟩ rx N hN
        cases rx
        unfold deCell liThere at ef
        obtain ⟨there, e1, ef⟩ := bnd ef
        obtain ⟨x, e2, e1⟩ := bnd e1
        obtain ⟨y, e3, e1⟩ := bnd e1
        obtain ⟨z, e4, e1⟩ := bnd e1
        obtain ⟨tt, e5, e1⟩ := bnd e1
        refine q_asg (er_call2 (er_call2 (er_ixL (er_var rfl rl) (er_n rfl) e2) (er_tup2 (er_sub (er_idx2 (er_var rfl rc) (er_n rfl) (er_n rfl) e3) (er_idx2 (er_var rfl rc) (er_n rfl) (er_n rfl) e4)) (er_c (x := (1 : Int)) rfl)) e5) (er_var rfl rm) e1) B8 fun v8 G9 H9 B9 g9 r8 => ?_
        split at ef
        next hne =>
          obtain ⟨x2, e6, ef⟩ := bnd ef
          obtain ⟨hz2, rfl⟩ := snocM_inv ef
          refine s_app (x := decide (there = x2)) (ml2.up g9) (ev_var rfl) (er_is (er_andV (er_neN (er_n rfl) (er_n rfl)) fun _ => er_is (er_eqD (er_var rfl r8) (er_ixL (er_var rfl rl) (er_n rfl) e6) (by decide)) (eqv_fr there x2)) (by rw [decide_eq_false hne]; rfl)) (by omega) B9 fun o G10 H10 g10 B10 ml10 => ?_
          exact hN _ _ ⟨G10, inferInstance, B10, _, _, _, rfl, ((ml.up g9).up g10).oth hne2, ml10⟩
        next hne =>
          obtain ⟨hz2, rfl⟩ := snocM_inv ef
          have hne : one = other := by omega
          refine s_app (x := false) (ml2.up g9) (ev_var rfl) (er_is (er_andV (b := false) (er_neN (er_n rfl) (er_n rfl)) fun hh => ?_) (by rw [decide_eq_true hne]; rfl)) (by omega) B9 fun o G10 H10 g10 B10 ml10 => ?_
          · rw [decide_eq_true hne] at hh; cases hh
          · exact hN _ _ ⟨G10, inferInstance, B10, _, _, _, rfl, ((ml.up g9).up g10).oth hne2, ml10⟩
      · rintro σ' G8 H8 _ B8 ⟨x7, x8, x9, rfl, ml, ml2⟩
        obtain ⟨G9, B9, st9, r9, hk9⟩ := ml2.frzO B8
        refine s_app (ml.lift st9 (hk9 _ hne2 ml.hG)) (ev_var rfl) (er_var rfl r9) (by omega) B9 fun o G10 H10 g10 B10 ml10 => ?_
        exact hN _ _ ⟨G10, inferInstance, B10, _, _, _, _, _, rfl, ml10⟩
    · rintro σ' G6 H6 _ B6 ⟨x5, x6, x7, x8, x9, rfl, ml⟩
      obtain ⟨G7, B7, st7, rw7, _⟩ := ml.frzO B6
      refine q_forr h5 (ei_range (er_len (er_var rfl rb)) (by omega)) B7 (fun _ σ' G' H' => ∃ x5 x6 x7 x8 x9, σ' = [some vb, some vc, some vm, some vl, some (.ref l), x5, x6, x7, x8, x9]) (fun G3 H3 g3 => ⟨_, _, _, _, _, rfl⟩) ?_ ?_ ?_
      · rintro s σ' G' H' G3 H3 ⟨x5, x6, x7, x8, x9, rfl⟩ g
        exact ⟨x5, x6, x7, x8, x9, rfl⟩
      · rintro Gb _ one o' vx σ' G8 H8 _ ef hx hret _ B8 ⟨x5, x6, x7, x8, x9, rfl⟩ rx
        cases rx
        refine s_forr ef (ei_range (er_len (er_var rfl rb)) (by omega)) B8 (fun _ σ' G' H' => ∃ x6 x7 x8 x9, σ' = [some vb, some vc, some vm, some vl, some (.ref l), some (.int (one : Int)), x6, x7, x8, x9]) (fun G3 H3 g3 => ⟨_, _, _, _, rfl⟩) ?_ ?_ ?_
        · rintro s σ' G' H' G3 H3 ⟨x6, x7, x8, x9, rfl⟩ g
          exact ⟨x6, x7, x8, x9, rfl⟩
        · rintro Gc _ other o2 vx σ' G9 H9 _ ef hx hret2 _ B9 ⟨x6, x7, x8, x9, rfl⟩ rx
          cases rx
          unfold deTurn at ef
          obtain ⟨bb, e1, ef⟩ := bnd ef
          refine s_when (b := bb) (et_B (er_idx2 (er_var rfl rw7) (er_n rfl) (er_n rfl) e1)) B9 (fun hx G10 H10 B10 g10 => ?_) (fun hx G10 H10 B10 g10 => ?_)
          · rw [if_pos hx] at ef
            obtain ⟨wo, e2, ef⟩ := bnd ef
            refine q_asg (er_call3 (er_var rfl rw7) (er_n rfl) (er_n rfl) e2) B10 fun v9 G11 H11 B11 g11 r11 => ?_
            refine s_when (et_test (er_notN (er_var rfl r11))) B11 (fun hx G12 H12 B12 g12 => ?_) (fun hx G12 H12 B12 g12 => ?_)
            · cases wo with
              | none => cases hx
              | some p =>
                cases ef
                have eo := hret p (hret2 p rfl)
                subst eo
                obtain ⟨x, e3, e⟩ := bnd e
                cases e
                exact s_ret (er_tup3 (er_call2 (er_var rfl rm) (er_sub (er_c (x := (0 : Int)) rfl) (er_c (x := (1 : Int)) rfl)) e3) (er_ofSome (er_var rfl r11)) (er_var rfl rl)) B12 q
            · cases wo with
              | some p => cases hx
              | none =>
                cases ef
                exact ⟨(), rfl, G12, inferInstance, B12, _, _, _, _, rfl⟩
          · rw [if_neg (by rw [hx]; decide)] at ef
            cases ef
            exact ⟨(), rfl, G10, inferInstance, B10, _, _, _, _, rfl⟩
        · rintro _ σ' G9 H9 eo _ B9 ⟨x6, x7, x8, x9, rfl⟩
          exact ⟨(), eo, G9, inferInstance, B9, _, _, _, _, _, rfl⟩
      · rintro _ σ' G9 H9 eo _ B9 ⟨x5, x6, x7, x8, x9, rfl⟩
        subst eo
        cases e
  next => cases e
end
end G3
end
/-! G3Base7 -/
section
set_option Elab.async false
set_option linter.all false
set_option maxRecDepth 100000
set_option maxHeartbeats 4000000
/-! G3Base7: a list of lists that change; targets of three. -/
namespace G3
open PySem PySem.Spec PyProof.Rows L2
open Evl (Ex fresh_back)
open Rep (rep)
structure Mm {α : Type} [Rep α] (H0 G H : Hp) (l : Addr) (as : List Addr) (m : List (List α)) : Prop where
  ex : H l = some (.lst (as.map V.ref))
  h0 : H0 l = none
  hG : G l = none
  nd : as.Nodup
  out : l ∉ as
  len : as.length = m.length
  ml : ∀ (i : Nat) (a : Addr) (r : List α), as[i]? = some a → m[i]? = some r → Ml H0 G H a r
section
variable {α β : Type} [Rep α] [Rep β] {G H G0 H0 G1 H1 : Hp} {l l2 : Addr} {as : List Addr} {m : List (List α)} {xs : List α} {ys : List (List α)} {x : α} {σ : L2.St} {ta tb tc te : TE} {t : TT} {g : TG} {vs : List Nat} {K : PySem.W.Frag} {D : Ends} {tz : TS} {Q : VK} {o : HO} {i j : Nat}
theorem Mm.up (q : Mm H0 G H l as m) (g : Gro G H G1 H1) : Mm H0 G1 H1 l as m := ⟨g.h _ _ q.ex, q.h0, g.none q.ex q.hG, q.nd, q.out, q.len, fun i a r h1 h2 => (q.ml i a r h1 h2).up g⟩
theorem er_mmAt (q : Mm H0 G H l as m) (ha : EvV ta σ G H (.ref l)) (hb : EvR tb σ G H i) (hc : EvR tc σ G H j) (e : idx2 m i j = some x) : EvR (tOp (rIxL K) (tOp (rIxL K) ta tb) tc) σ G H x := fun G1 H1 g Q k => by
  obtain ⟨r, e1, e2⟩ := bnd e
  have hi : i < as.length := by rw [q.len]; exact (List.getElem?_eq_some_iff.mp e1).1
  have ml := q.ml i _ r (List.getElem?_eq_getElem hi) e1
  refine ha G1 H1 g _ fun G2 H2 g2 => hb G2 H2 (g.trans g2) _ fun w G3 H3 g3 rw' => ?_
  cases rw'
  have gg := (g.trans g2).trans g3
  refine ⟨l, as.map V.ref, i, .ref as[i], rfl, rfl, SqL.of (gg.h _ _ q.ex), atI_nat (by rw [List.getElem?_map, List.getElem?_eq_getElem hi]; rfl), ?_⟩
  refine hc G3 H3 gg _ fun w G4 H4 g4 rw' => ?_
  cases rw'
  obtain ⟨ws, f1, f2⟩ := ml.ex
  obtain ⟨w, h3, h4⟩ := f2.get e2
  have g5 := gg.trans g4
  exact ⟨as[i], ws, j, w, rfl, rfl, SqL.of (g5.h _ _ f1), atI_nat h3, k w G4 H4 ((g2.trans g3).trans g4) (Rep.mono g5.g h4)⟩
/-- m[i][j] = e -/
theorem s_setMM (q : Mm H0 G H l as m) (h : EvR te σ G H x) (ha : EvV ta σ G H (.ref l)) (hb : EvR tb σ G H i) (hc : EvR tc σ G H j) (e : (idx2 m i j).isSome = true) (B : Gro G0 H0 G H)
    (k : ∀ a o G1 H1, Gro G H G1 H1 → Gro G0 H0 G1 (upd H1 a o) → Mm H0 G1 (upd H1 a o) l as (set2 m i j x) → D.nx σ (upd H1 a o)) : tAsg te (gSub (tOp (rIxL K) ta tb) tc rSetL) D σ H := by
  obtain ⟨y, e⟩ := Option.isSome_iff_exists.mp e
  obtain ⟨r, e1, e2⟩ := bnd e
  obtain ⟨hi', er⟩ := List.getElem?_eq_some_iff.mp e1
  have hi : i < as.length := by rw [q.len]; exact hi'
  refine h G H (Gro.refl B.sub) _ fun w G1 H1 g1 r1 => ha G1 H1 g1 _ fun G2 H2 g2 => hb G2 H2 (g1.trans g2) _ fun v G3 H3 g3 r3 => ?_
  cases r3
  have gg := (g1.trans g2).trans g3
  refine ⟨l, as.map V.ref, i, .ref as[i], rfl, rfl, SqL.of (gg.h _ _ q.ex), atI_nat (by rw [List.getElem?_map, List.getElem?_eq_getElem hi]; rfl), ?_⟩
  refine hc G3 H3 gg _ fun v G4 H4 g4 r4 => ?_
  cases r4
  have g5 := gg.trans g4
  have q5 := q.up g5
  have ml := q5.ml i _ r (List.getElem?_eq_getElem hi) e1
  obtain ⟨ws, f1, f2⟩ := ml.ex
  have hj : j < r.length := (List.getElem?_eq_some_iff.mp e2).1
  refine ⟨as[i], ws, (j : Int), j, rfl, rfl, f1, Evl.ixN_nat (by rw [f2.length]; exact hj), k as[i] (.lst (ws.set j w)) G4 H4 g5 ((B.trans g5).mut ml.h0 ml.hG) ⟨?_, q5.h0, q5.hG, q5.nd, q5.out, ?_, ?_⟩⟩
  · rw [upd_ne (fun z => q5.out (by rw [z]; exact List.getElem_mem hi))]; exact q5.ex
  · unfold set2; rw [List.length_set]; exact q5.len
  · intro i2 a2 r2 h1 h2
    unfold set2 at h2
    by_cases hii : i = i2
    · subst hii
      rw [List.getElem?_eq_getElem hi] at h1
      cases h1
      rw [List.getElem?_set_self hi', List.getD_eq_getElem?_getD, e1] at h2
      cases h2
      exact Ml.same ml.h0 ml.hG (f2.set (Rep.mono ((g2.trans g3).trans g4).g r1) j)
    · rw [List.getElem?_set_ne hii] at h2
      refine (q5.ml i2 a2 r2 h1 h2).oth ?_
      intro z
      obtain ⟨hi2, e3⟩ := List.getElem?_eq_some_iff.mp h1
      rw [← e3] at z
      exact hii ((List.getElem_inj q5.nd).mp z).symm
/-- it changes no more -/
theorem Mm.frz (q : Mm H0 G H l as m) (B : Gro G0 H0 G H) : ∃ G', Gro G0 H0 G' H ∧ Ex G G' ∧ rep G' (.ref l) m := by
  -- the inner lists first
  have key : ∀ (bs : List Addr) (rs : List (List α)) (G : Hp), Gro G0 H0 G H → G l = none → l ∉ bs → bs.Nodup → bs.length = rs.length → (∀ (i : Nat) (a : Addr) (r : List α), bs[i]? = some a → rs[i]? = some r → Ml H0 G H a r) →
      ∃ G', Gro G0 H0 G' H ∧ Ex G G' ∧ G' l = none ∧ RepL G' (bs.map V.ref) rs := by
    intro bs
    induction bs with
    | nil =>
      intro rs G B hl _ _ hlen _
      cases rs with
      | nil => exact ⟨G, B, Ex.refl G, hl, .nil⟩
      | cons r rs => cases hlen
    | cons b bs ih =>
      intro rs G B hl ho hnd hlen hm
      cases rs with
      | nil => cases hlen
      | cons r rs =>
        obtain ⟨hb, hnd⟩ := List.nodup_cons.mp hnd
        have ml := hm 0 b r rfl rfl
        obtain ⟨ws, f1, f2⟩ := ml.ex
        have hbl : l ≠ b := fun z => ho (by rw [z]; exact List.mem_cons_self ..)
        have ex1 : Ex G (upd G b (.lst ws)) := Ex.new ml.hG
        obtain ⟨G', B', e', hl', r'⟩ := ih rs (upd G b (.lst ws)) (B.frz ml.h0 ml.hG f1) (by rw [upd_ne hbl]; exact hl) (fun z => ho (List.mem_cons_of_mem _ z)) hnd (by simpa using hlen) (fun i a r h1 h2 => by
          have ml2 := hm (i + 1) a r (by simpa using h1) (by simpa using h2)
          refine ml2.lift ⟨ex1⟩ ?_
          rw [upd_ne]
          · exact ml2.hG
          · intro z; subst z; exact hb (List.mem_of_getElem? h1))
        exact ⟨G', B', ex1.trans e', hl', .cons ⟨b, ws, rfl, e' _ _ upd_same, f2.mono (ex1.trans e')⟩ r'⟩
  obtain ⟨G', B', e', hl', r'⟩ := key as m G B q.hG q.out q.nd q.len q.ml
  exact ⟨upd G' l (.lst (as.map V.ref)), B'.frz q.h0 hl' q.ex, e'.trans (Ex.new hl'), l, _, rfl, upd_same, r'.mono (Ex.new hl')⟩
theorem Back.frzM (k : Back G0 H0 m Q) (B : Gro G0 H0 G H) (q : Mm H0 G H l as m) : Q (.ref l) H := by
  obtain ⟨G', B', _, r⟩ := q.frz B
  exact k _ G' H B' r
/-- [e for x in ..], each e a new list that may change -/
theorem s_asgMM {wi : TI} {xs : List β} {f : β → List α} {i : Nat} {j : Nat} (h : EvI wi σ G H xs) (hz : xs.length ≤ 100000) (hw : ∀ x, wipe ((wipe σ vs).set j (some x)) vs = wipe σ vs) (B : Gro G0 H0 G H)
    (hb : ∀ x v G1 H1, x ∈ xs → Gro G H G1 H1 → rep G1 v x → EvN te ((wipe σ vs).set j (some v)) G1 H1 (f x))
    (k : ∀ l as G1 H1, Gro G0 H0 G1 H1 → GSt G G1 → Mm H0 G1 H1 l as (xs.map f) → tz D (σ.set i (some (.ref l))) H1) : tSeq (tAsg (tLc wi (gName j) tYes te vs) (gName i)) tz D σ H := h G H (Gro.refl B.sub) _ fun J G2 H2 g2 W Da hD => by
  have hGD := none_sub g2.sub hD
  have B2 := B.trans g2
  refine ⟨fun i m H' => m = xs.length - i ∧ i ≤ xs.length ∧ ∃ as G', Gro G2 H2 G' H' ∧ Mm H2 G' H' Da as ((xs.take i).map f), ⟨xs.length, by simp, Nat.zero_le _, [], G2, Gro.fresh g2.sub hD, ⟨upd_same, hD, hGD, List.nodup_nil, by simp, by simp, fun i a r h => by simp at h⟩⟩, ?_⟩
  rintro i m H' ⟨rfl, hi, as, G', b, mm⟩
  by_cases hlt : i < xs.length
  · have hx := List.getElem?_eq_getElem hlt
    refine .inr ⟨W.go i _ G' H' hx b.g b.sub, fun H4 => ∃ as G', Gro G2 H2 G' H4 ∧ Mm H2 G' H4 Da as ((xs.take (i + 1)).map f), fun H4 z => ⟨xs.length - (i + 1), by omega, rfl, hlt, z⟩, fun x H3 y => ?_⟩
    obtain ⟨G3, g3, r⟩ := W.yld i _ G' H' x H3 hx b.g b.sub y
    have b3 := b.trans g3
    refine ⟨hw x, hb _ x G3 H3 (List.getElem_mem hlt) (g2.trans b3) r G3 H3 (Gro.refl b3.sub) _ fun p ws G4 H4 g4 hp hGp hv hR => ?_⟩
    have b4 := b3.trans g4
    have mm4 := (mm.up g3).up g4
    have hpD : p ≠ Da := fun z => by subst z; rw [(mm.up g3).ex] at hp; cases hp
    have hpas : p ∉ as := fun z => by
      obtain ⟨n, hn, en⟩ := List.getElem_of_mem z
      have hn2 : n < ((xs.take i).map f).length := by rw [← mm.len]; exact hn
      obtain ⟨us, e1, _⟩ := ((mm.up g3).ml n p _ (by rw [List.getElem?_eq_getElem hn, en]) (List.getElem?_eq_getElem hn2)).ex
      rw [e1] at hp; cases hp
    have hlen : as.length = i := by rw [mm.len, List.length_map, List.length_take]; omega
    refine ⟨as.map V.ref, mm4.ex, ?_, as ++ [p], G4, b4.mut mm4.h0 mm4.hG, ⟨?_, mm4.h0, mm4.hG, ?_, ?_, ?_, ?_⟩⟩
    · rw [List.length_map, hlen]
      exact Nat.lt_of_lt_of_le (show i < 100000 by omega) (by decide)
    · rw [upd_same, List.map_append]; rfl
    · exact List.nodup_append.mpr ⟨mm4.nd, by simp, fun a ha b hb => by
        cases List.mem_singleton.mp hb
        exact fun z => hpas (z ▸ ha)⟩
    · intro z
      rcases List.mem_append.mp z with z | z
      · exact mm4.out z
      · exact hpD (List.mem_singleton.mp z).symm
    · rw [List.length_append, List.length_map, List.length_take, hlen]; simp; omega
    · intro n a r h1 h2
      by_cases hn : n < i
      · rw [List.getElem?_append_left (by omega)] at h1
        have h2' : ((xs.take i).map f)[n]? = some r := by
          rw [← h2, List.getElem?_map, List.getElem?_map, List.getElem?_take_of_lt hn, List.getElem?_take_of_lt (by omega)]
        refine (mm4.ml n a r h1 h2').oth (fun z => mm4.out (z ▸ List.mem_of_getElem? h1))
      · obtain ⟨hn2, en⟩ := List.getElem?_eq_some_iff.mp h1
        rw [List.length_append, hlen, List.length_singleton] at hn2
        have hn3 : n = i := by omega
        subst hn3
        rw [List.getElem_append_right (by omega)] at en
        simp at en
        subst en
        rw [List.getElem?_map, List.getElem?_take_of_lt (by omega), hx] at h2
        cases h2
        exact ⟨⟨ws, by rw [upd_ne hpD]; exact hv, hR⟩, fresh_back b3.h hp, hGp⟩
  · have e : i = xs.length := by omega
    subst e
    rw [List.take_length] at mm
    have h0 := fresh_back B2.h hD
    refine .inl ⟨W.stop G' H' b.g b.sub, k Da as G' H' (B2.trans b) ⟨g2.g.trans b.g⟩ ⟨mm.ex, h0, mm.hG, mm.nd, mm.out, mm.len, fun n a r h1 h2 => ?_⟩⟩
    have q := mm.ml n a r h1 h2
    exact ⟨q.ex, fresh_back B2.h q.h0, q.hG⟩
theorem compO_fm {α β : Type} (c : α → Bool) (g : α → β) : ∀ xs : List α, compO (fun x => some (if c x = true then some (g x) else none)) xs = some ((xs.filter c).map g)
  | [] => rfl
  | x :: r => by
    unfold compO
    rw [compO_fm c g r, List.filter_cons]
    by_cases h : c x = true <;> simp [h]
end
theorem q_asgG {α : Type} [Rep α] {σ : L2.St} {G H G0 H0 : Hp} {te : TE} {x : α} {g : TG} {D : Ends} {tz : TS} (h : EvR te σ G H x) (B : Gro G0 H0 G H) (k : ∀ v G1 H1, Gro G0 H0 G1 H1 → Gro G H G1 H1 → rep G1 v x → g v σ H1 fun σ' H' => tz D σ' H') : tSeq (tAsg te g) tz D σ H := h G H (Gro.refl B.sub) _ fun v G1 H1 g r => k v G1 H1 (B.trans g) g r
section
variable {α β γ : Type} [Rep α] [Rep β] [Rep γ] {K : PySem.W.Frag} {σ : L2.St} {G H : Hp} {v : V} {p : T3 α β γ} {Q : L2.St → Hp → Prop} {i j k : Nat}
theorem gt3 (r : rep G v p) (e : Ex G H) (q : ∀ u w z, rep G u p.a → rep G w p.b → rep G z p.c → Q (((σ.set i (some u)).set j (some w)).set k (some z)) H) : gTup K 3 (gCons (gName i) (gCons (gName j) (gCons (gName k) gNil))) v σ H Q := by
  obtain ⟨a, u, w, z, rfl, h1, h2, h3, h4⟩ := r
  exact ⟨a, [u, w, z], rfl, SqT.of (e _ _ h1), rfl, u, [w, z], rfl, w, [z], rfl, z, [], rfl, rfl, q u w z h2 h3 h4⟩
end
end G3
end
/-! G3W8 -/
section
set_option Elab.async false
set_option linter.all false
set_option maxRecDepth 100000
set_option maxHeartbeats 4000000
/-! G3W8: walks: choices, without, slips, least_through, leak. -/
namespace G3
open PySem PySem.Spec PyProof.Rows L2
open Evl (Ex fresh_back)
open Rep (rep)
theorem scChoices : FnScope ["many", "size", "told", "k", "more", "some", "number"] ["many", "size"] (defScope sChoices) := ⟨rfl, rfl, rfl, by decide +kernel, rfl, by decide +kernel, by decide +kernel⟩
theorem scWithout : FnScope ["book", "numbers", "k", "buying"] ["book", "numbers"] (defScope sWithout) := ⟨rfl, rfl, rfl, by decide +kernel, rfl, by decide +kernel, by decide +kernel⟩
theorem scSlips : FnScope ["book", "kind", "size", "numbers"] ["book", "kind"] (defScope sSlips) := ⟨rfl, rfl, rfl, by decide +kernel, rfl, by decide +kernel, by decide +kernel⟩
theorem scLeastThrough : FnScope ["shares", "many", "told", "by", "one", "other", "through", "row"] ["shares"] (defScope sLeastThrough) := ⟨rfl, rfl, rfl, by decide +kernel, rfl, by decide +kernel, by decide +kernel⟩
theorem scLeak : FnScope ["book", "costs", "many", "shares", "one", "through", "best", "other", "here", "share", "ways", "k", "j"] ["book"] (defScope sLeak) := ⟨rfl, rfl, rfl, by decide +kernel, rfl, by decide +kernel, by decide +kernel⟩
section
variable {P : Program} {w : World} {K : PySem.W.Frag} {mg : Str → Option Value} {base : Heap} (T : Top K mg)
include T
theorem cal_choices : Cal P w K mg base "choices" 1 ["many", "size"] (Sp2 choicesM) := by
  refine cal_of (T.fn 30 30) scChoices (fun _ _ _ _ h => h.len) (fun _ _ _ _ _ _ _ us hl => match us, hl with | [_, _], _ => rfl) fun f cdv A outer s H vs Q E hr h => ?_
  obtain ⟨G, vm, vs, many, size, r, rfl, eG, rm, rs, e, q⟩ := h
  cases rm; cases rs
  unfold choicesM at e
  split at e
  next hl =>
    obtain ⟨hl1, hl2⟩ := hl
    refine ⟨_, (pss_cons (ps_set (i := 2) scChoices.nd rfl (.inl rfl) (pe_lst (pa_cons (pe_lst pa_nil) pa_nil)))
  (pss_cons (ps_for PassesOwn.never rfl (pi_range1 rfl (m_range T) (pa_cons (pv 1) pa_nil)) (pg_name (i := 3) scChoices.nd rfl (.inl rfl))
  (pss_cons (ps_set (i := 4) scChoices.nd rfl (.inl rfl) (pe_lst pa_nil))
  (pss_cons (ps_for PassesOwn.never rfl (k_piL K (pv 2)) (pg_name (i := 5) scChoices.nd rfl (.inr rfl))
  (pss_one (ps_expr (pe_bm PySem.F.plainAttrs_list PySem.F.slot_list_extend PySem.F.type_list_extend mt_extend (pv 4) (pa_cons (pe_lc (own := [("number", 6)]) rfl scChoices.nd  (pi_range1 rfl (m_range T) (pa_cons (pv 0) pa_nil)) (blkOk_by (N := ["many", "size", "told", "k", "more", "some", "number"]) (sc := defScope sChoices) (by decide +kernel)) (fun _ _ _ _ _ => (pg_name (i := 6) scChoices.nd rfl (.inl rfl))) (fun _ _ _ _ _ => pts_one (PW.pt (pw_or (pt_cmpR (k_eqD K hr.units) (pv 5) (pe_lst pa_nil) (nomark _)) (pw_or1 (pt_cmpR op_gt (pv 6) (pe_ix (k_ixL K) (pv 5) (pe_un un_neg pe_int) (fun _ _ => rfl)) (nomark _)))))) (fun _ _ _ _ _ => (pe_op op_cat (pv 5) (pe_lst (pa_cons (pv 6) pa_nil))))) pa_nil)))))
  (pss_one (ps_set (i := 2) scChoices.nd rfl (.inl rfl) (pv 4))))))
  (pss_one (ps_ret (pv 2))))), ?_⟩
    refine q_asg (x := [([] : List Nat)]) (er_new (en_lst (el_cons (er_new (en_lst el_nil (Nat.zero_le _))) el_nil) (by simp))) (Gro.refl eG) fun v2 G1 H1 B1 g1 r2 => ?_
    refine q_for e (ei_range (er_n rfl) (by omega)) B1 (fun s σ' G' H' => ∃ v2 x3 x4 x5, σ' = [some (.int (many : Int)), some (.int (size : Int)), some v2, x3, x4, x5, none] ∧ rep G' v2 s) (fun G3 H3 g3 => ⟨v2, none, none, none, rfl, Rep.mono g3.g r2⟩) ?_ ?_ ?_
    · rintro s σ' G' H' G3 H3 ⟨v2, x3, x4, x5, rfl, r2⟩ g
      exact ⟨v2, x3, x4, x5, rfl, Rep.mono g.g r2⟩
    · rintro Gb told k s' vx σ' G3 H3 _ ef hx _ B3 ⟨v2, x3, x4, x5, rfl, r2⟩ rx N hN
      cases rx
      refine q_asgN (xs := ([] : List (List Nat))) (en_lst el_nil (Nat.zero_le _)) B3 fun l G4 H4 B4 g4 ml _ => ?_
      refine q_for ef (ei_list (er_var rfl r2)) B4 (fun s σ' G' H' => ∃ x5, σ' = [some (.int (many : Int)), some (.int (size : Int)), some v2, some (.int (k : Int)), some (.ref l), x5, none] ∧ Ml H G' H' l s) (fun G5 H5 g5 => ⟨x5, rfl, ml.up g5⟩) ?_ ?_ ?_
      · rintro s σ' G' H' G3 H3 ⟨x5, rfl, ml⟩ g
        exact ⟨x5, rfl, ml.up g⟩
      · rintro Gc more some_ s' v5 σ' G5 H5 _ ef hx _ B5 ⟨x5, rfl, ml⟩ r5 N hN
        unfold chTurn at ef
        split at ef
        next hz0 =>
          obtain ⟨x, e1, ef⟩ := bnd ef
          split at ef
          next hz =>
            cases ef
            refine s_ext ml (ev_var rfl) (en_lcn e1 (ei_range (er_n rfl) (by omega)) (by omega) (fun _ => rfl) ?_) hz B5 fun o G6 H6 g6 B6 ml6 => ?_
            · intro number o v G6 H6 eo hx g6 rv
              cases rv
              have rs : rep G6 v5 some_ := Rep.mono g6.g r5
              unfold chExt at eo
              cases hlast : some_.getLast? with
              | none =>
                rw [hlast] at eo
                cases eo
                have hnil : some_ = [] := List.getLast?_eq_none_iff.mp hlast
                subst hnil
                refine ⟨et_is (et_or (b := false) (et_test (er_eqNil (er_var rfl rs) (Nat.zero_le _))) fun hh => nomatch hh) rfl, fun y ey => ?_⟩
                cases ey
                exact er_new (en_cat (xs := []) (er_var rfl rs) (er_new (en_lst (el_cons (er_n rfl) el_nil) (by simp))) (by simp))
              | some la =>
                rw [hlast] at eo
                cases eo
                obtain ⟨init, rfl⟩ := last_of hlast
                refine ⟨et_is (et_or (a := false) (et_test (er_is (er_eqNil (er_var rfl rs) (Nat.zero_le _)) (by simp))) fun hh => et_test (er_gt (er_int (er_n rfl)) (er_int (er_ixLast (er_var rfl rs) (er_neg (er_c (x := (1 : Int)) rfl)))))) ?_, fun y ey => ?_⟩
                · by_cases hlt : la < number
                  · rw [if_pos hlt]; simp; exact hlt
                  · rw [if_neg hlt]; simp; omega
                · split at ey
                  · cases ey
                    exact er_new (en_cat (er_var rfl rs) (er_new (en_lst (el_cons (er_n rfl) el_nil) (by simp))) (by simp only [List.length_append, List.length_singleton] at hz0 ⊢; omega))
                  · cases ey
            · exact hN _ _ ⟨G6, inferInstance, B6, _, rfl, ml6⟩
          next => cases ef
        next => cases ef
      · rintro σ' G5 H5 _ B5 ⟨x5, rfl, ml⟩
        obtain ⟨G6, B6, st6, r6, _⟩ := ml.frzO B5
        refine s_asg (er_var rfl r6) B6 fun v2 G7 H7 B7 g7 r7 => ?_
        exact hN _ _ ⟨G7, inferInstance, B7, v2, _, _, _, rfl, r7⟩
    · rintro σ' G5 H5 _ B5 ⟨v2, x3, x4, x5, rfl, r2⟩
      exact s_ret (er_var rfl r2) B5 q
  next => cases e
theorem cal_without : Cal P w K mg base "without" 1 ["book", "numbers"] (Sp2 withoutM) := by
  refine cal_of (T.fn 31 31) scWithout (fun _ _ _ _ h => h.len) (fun _ _ _ _ _ _ _ us hl => match us, hl with | [_, _], _ => rfl) fun f cdv A outer s H vs Q E hr h => ?_
  obtain ⟨G, vb, vn, b, ns, r, rfl, eG, rb, rn, e, q⟩ := h
  unfold withoutM at e
  split at e
  next hl =>
    cases e
    refine ⟨_, (pss_one (ps_ret (pe_lc (own := [("k", 2), ("buying", 3)]) rfl scWithout.nd  (pi_enum rfl (m_enumerate T) (pa_cons (pv 0) pa_nil)) (blkOk_by (N := ["book", "numbers", "k", "buying"]) (sc := defScope sWithout) (by decide +kernel)) (fun _ _ _ _ _ => (k_pgT K 2 rfl (pgs_cons (pg_name (i := 2) scWithout.nd rfl (.inl rfl)) (pgs_cons (pg_name (i := 3) scWithout.nd rfl (.inl rfl)) pgs_nil)))) (fun _ _ _ _ _ => pts_one (pt_cmpR (k_notIn K) (pv 2) (pv 1) rfl)) (fun _ _ _ _ _ => (pv 3))))), ?_⟩
    refine s_ret (r := withoutB b ns) (er_new (en_lc (f := fun (p : Nat × Buy) => some (if (!decide (p.1 ∈ ns)) = true then some p.2 else none)) (compO_fm _ _ _) (ei_enum (er_var rfl rb)) ?_ ?_)) (Gro.refl eG) q
    · unfold withoutB
      rw [List.length_map]
      refine Nat.le_trans (List.length_filter_le _ _) ?_
      rw [List.length_zip, List.length_range, Nat.min_self]; omega
    · intro p o v G1 H1 eo hx g1 rp Q' k
      cases eo
      refine gt2 rp g1.sub fun u z hu hz => ?_
      cases hu
      refine k _ rfl (et_is (et_test (er_notInL (er_n rfl) (er_var rfl rn))) ?_) fun y ey => ?_
      · by_cases hk : p.1 ∈ ns <;> simp [hk]
      · split at ey
        · cases ey; exact er_var rfl hz
        · cases ey
  next => cases e
theorem cal_slips : Cal P w K mg base "slips" 8 ["book", "kind"] (Sp2 slipsM) := by
  refine cal_of (T.fn 32 32) scSlips (fun _ _ _ _ h => h.len) (fun _ _ _ _ _ _ _ us hl => match us, hl with | [_, _], _ => rfl) fun f cdv A outer s H vs Q E hr h => ?_
  obtain ⟨G, vb, vk, b, kind, r, rfl, eG, rb, rk, e, q⟩ := h
  cases rk
  obtain ⟨_, h1, e⟩ := bnd e
  obtain ⟨o, h2, e⟩ := bnd e
  cases e
  have hl : b.length ≤ 8 := by
    unfold needFewM at h1
    split at h1
    · assumption
    · cases h1
  refine ⟨_, (pss_cons (ps_expr (pe_cal (cal_need_few T) (hr.mono (by decide)) rfl (pa_cons (pv 0) pa_nil)))
  (pss_cons (ps_for PassesOwn.never rfl (pi_range1 rfl (m_range T) (pa_cons (pe_callB (k_len K) rfl (m_len T) bt_len (pa_cons (pv 0) pa_nil)) pa_nil)) (pg_name (i := 2) scSlips.nd rfl (.inl rfl))
  (pss_one (ps_for PassesOwn.never rfl (k_piL K (pe_cal (cal_choices T) (hr.mono (by decide)) rfl (pa_cons (pe_callB (k_len K) rfl (m_len T) bt_len (pa_cons (pv 0) pa_nil)) (pa_cons (pv 2) pa_nil)))) (pg_name (i := 3) scSlips.nd rfl (.inl rfl))
  (pss_one (ps_if (pt_val (pe_cal (cal_has_wish T) hr rfl (pa_cons (pe_cal (cal_without T) (hr.mono (by decide)) rfl (pa_cons (pv 0) (pa_cons (pv 3) pa_nil))) (pa_cons (pv 1) pa_nil)))) (pss_one (ps_ret (pv 3))) pss_nil)))))
  (pss_one (ps_ret (pe_lst pa_nil))))), ?_⟩
  refine q_drop (v := .non) (EvR.val (er_call1 (er_var rfl rb) h1) fun _ _ r => r) (Gro.refl eG) fun G1 H1 B1 g1 => ?_
  refine q_forr h2 (ei_range (er_len (er_var rfl rb)) (by omega)) B1 (fun _ σ' G' H' => ∃ x2 x3, σ' = [some vb, some (.str kind), x2, x3]) (fun G3 H3 g3 => ⟨none, none, rfl⟩) ?_ ?_ ?_
  · rintro s σ' G' H' G3 H3 ⟨x2, x3, rfl⟩ g
    exact ⟨x2, x3, rfl⟩
  · rintro Gb _ size o' vx σ' G3 H3 _ ef hx hret _ B3 ⟨x2, x3, rfl⟩ rx
    cases rx
    obtain ⟨cs, e1, ef⟩ := bnd ef
    refine s_forr ef (ei_list (er_call2 (er_int (er_len (er_var rfl rb))) (er_n rfl) e1)) B3 (fun _ σ' G' H' => ∃ x3, σ' = [some vb, some (.str kind), some (.int (size : Int)), x3]) (fun G3 H3 g3 => ⟨x3, rfl⟩) ?_ ?_ ?_
    · rintro s σ' G' H' G3 H3 ⟨x3, rfl⟩ g
      exact ⟨x3, rfl⟩
    · rintro Gc _ ns o2 v3 σ' G4 H4 _ ef hx hret2 _ B4 ⟨x3, rfl⟩ r3
      unfold slTurn at ef
      obtain ⟨b', e2, ef⟩ := bnd ef
      obtain ⟨hw, e3, ef⟩ := bnd ef
      cases ef
      refine s_when (b := hw) (et_B (er_call2 (er_call2 (er_var rfl rb) (er_var (G0 := G4) rfl r3) e2) (er_s rfl) e3)) B4 (fun hx G5 H5 B5 g5 => ?_) (fun hx G5 H5 B5 g5 => ?_)
      · subst hx
        have eo := hret ns (hret2 ns rfl)
        subst eo
        exact s_ret (r := ns) (er_var (G0 := G4) rfl r3) B5 q
      · subst hx
        exact ⟨(), rfl, G5, inferInstance, B5, _, rfl⟩
    · rintro _ σ' G4 H4 eo _ B4 ⟨x3, rfl⟩
      exact ⟨(), eo, G4, inferInstance, B4, _, _, rfl⟩
  · rintro _ σ' G4 H4 eo _ B4 ⟨x2, x3, rfl⟩
    subst eo
    exact s_ret (r := ([] : List Nat)) (er_new (en_lst el_nil (Nat.zero_le _))) B4 q
theorem cal_least_through : Cal P w K mg base "least_through" 3 ["shares"] (Sp1 leastThroughM) := by
  refine cal_of (T.fn 33 33) scLeastThrough (fun _ _ _ _ h => h.len) (fun _ _ _ _ _ _ _ us hl => match us, hl with | [_], _ => rfl) fun f cdv A outer s H vs Q E hr h => ?_
  obtain ⟨G, vs, sh, r, rfl, eG, rs, e, q⟩ := h
  unfold leastThroughM at e
  split at e
  next hl =>
    refine ⟨_, (pss_cons (ps_set (i := 1) scLeastThrough.nd rfl (.inl rfl) (pe_listRg rfl rfl (m_list T) (prg_1 rfl (m_range T) (pe_callB (k_len K) rfl (m_len T) bt_len (pa_cons (pv 0) pa_nil)))))
  (pss_cons (ps_setLc (i := 2) (own := [("row", 7)]) rfl scLeastThrough.nd rfl rfl (sw_true rfl rfl rfl (by decide +kernel)) (k_piL K (pv 0)) (blkOk_by (N := ["shares", "many", "told", "by", "one", "other", "through", "row"]) (sc := defScope sLeastThrough) (by decide +kernel)) (fun _ _ _ _ _ => (pg_name (i := 7) scLeastThrough.nd rfl (.inl rfl))) (fun _ _ _ _ _ => pts_nil) (fun _ _ _ _ _ => (pe_callTy (k_list K) rfl (m_list T) bt_list (pa_cons (pv 7) pa_nil))))
  (pss_cons (ps_for PassesOwn.never rfl (k_piL K (pv 1)) (pg_name (i := 3) scLeastThrough.nd rfl (.inl rfl))
  (pss_one (ps_for PassesOwn.never rfl (k_piL K (pv 1)) (pg_name (i := 4) scLeastThrough.nd rfl (.inl rfl))
  (pss_one (ps_for PassesOwn.never rfl (k_piL K (pv 1)) (pg_name (i := 5) scLeastThrough.nd rfl (.inl rfl))
  (pss_cons (ps_set (i := 6) scLeastThrough.nd rfl (.inl rfl) (pe_cal (cal_greater T) hr rfl (pa_cons (pe_ix (k_ixL K) (pe_ix (k_ixL K) (pv 2) (pv 4) (fun _ _ => rfl)) (pv 3) (fun _ _ => rfl)) (pa_cons (pe_ix (k_ixL K) (pe_ix (k_ixL K) (pv 2) (pv 3) (fun _ _ => rfl)) (pv 5) (fun _ _ => rfl)) pa_nil))))
  (pss_one (ps_if (PW.pt (pw_and (pt_cmpR op_ne (pv 4) (pv 5) (nomark _)) (pw_and (pt_cmpR (k_notIn K) (pv 3) (pe_tup (pa_cons (pv 4) (pa_cons (pv 5) pa_nil))) rfl) (pw_and1 (pt_val (pe_cal (cal_is_less T) (hr.mono (by decide)) rfl (pa_cons (pv 6) (pa_cons (pe_ix (k_ixL K) (pe_ix (k_ixL K) (pv 2) (pv 4) (fun _ _ => rfl)) (pv 5) (fun _ _ => rfl)) pa_nil)))))))) (pss_one (ps_asg (pv 6) (pg_sub (pe_ix (k_ixL K) (pv 2) (pv 4) (fun _ _ => rfl)) (pv 5) set_list))) pss_nil))))))))
  (pss_one (ps_ret (pv 2)))))), ?_⟩
    refine q_asg (x := List.range sh.length) (er_new (en_listRg (er_len (er_var rfl rs)) (by omega))) (Gro.refl eG) fun vm G1 H1 B1 g1 rm => ?_
    refine s_asgMM (f := fun (row : List Fr) => row) (ei_list (er_var rfl rs)) (by omega) (fun _ => rfl) B1 (fun row v G2 H2 hx g2 rv => en_list (er_var (G0 := G2) rfl rv)) fun l as G2 H2 B2 st2 mm => ?_
    rw [List.map_id'] at mm
    refine q_for e (ei_list (er_var rfl rm)) B2 (fun s σ' G' H' => ∃ x3 x4 x5 x6, σ' = [some vs, some vm, some (.ref l), x3, x4, x5, x6, none] ∧ Mm H G' H' l as s) (fun G3 H3 g3 => ⟨none, none, none, none, rfl, mm.up g3⟩) ?_ ?_ ?_
    · rintro s σ' G' H' G3 H3 ⟨x3, x4, x5, x6, rfl, mm⟩ g
      exact ⟨x3, x4, x5, x6, rfl, mm.up g⟩
    · rintro Gb m by_ s' vx σ' G3 H3 _ ef hx _ B3 ⟨x3, x4, x5, x6, rfl, mm⟩ rx N hN
      cases rx
      refine s_for ef (ei_list (er_var rfl rm)) B3 (fun s σ' G' H' => ∃ x4 x5 x6, σ' = [some vs, some vm, some (.ref l), some (.int (by_ : Int)), x4, x5, x6, none] ∧ Mm H G' H' l as s) (fun G3 H3 g3 => ⟨x4, x5, x6, rfl, mm.up g3⟩) ?_ ?_ ?_
      · rintro s σ' G' H' G3 H3 ⟨x4, x5, x6, rfl, mm⟩ g
        exact ⟨x4, x5, x6, rfl, mm.up g⟩
      · rintro Gc m one s' vx σ' G4 H4 _ ef hx _ B4 ⟨x4, x5, x6, rfl, mm⟩ rx N hN
        cases rx
        refine s_for ef (ei_list (er_var rfl rm)) B4 (fun s σ' G' H' => ∃ x5 x6, σ' = [some vs, some vm, some (.ref l), some (.int (by_ : Int)), some (.int (one : Int)), x5, x6, none] ∧ Mm H G' H' l as s) (fun G3 H3 g3 => ⟨x5, x6, rfl, mm.up g3⟩) ?_ ?_ ?_
        · rintro s σ' G' H' G3 H3 ⟨x5, x6, rfl, mm⟩ g
          exact ⟨x5, x6, rfl, mm.up g⟩
        · rintro Gd m other s' vx σ' G5 H5 _ ef hx _ B5 ⟨x5, x6, rfl, mm⟩ rx N hN
          cases rx
          unfold ltTurn at ef
          obtain ⟨x, e1, ef⟩ := bnd ef
          obtain ⟨y, e2, ef⟩ := bnd ef
          obtain ⟨thr, e3, ef⟩ := bnd ef
          refine q_asg (er_call2 (er_mmAt mm (ev_var rfl) (er_n rfl) (er_n rfl) e1) (er_mmAt mm (ev_var rfl) (er_n rfl) (er_n rfl) e2) e3) B5 fun v6 G6 H6 B6 g6 r6 => ?_
          have mm6 := mm.up g6
          have hnin : ∀ G7 H7, EvT (tTest (tOp (rIn K true) (tVar 3) (tTup (tCons (tVar 4) (tCons (tVar 5) tNil))))) [some vs, some vm, some (.ref l), some (.int (by_ : Int)), some (.int (one : Int)), some (.int (other : Int)), some v6, none] G7 H7 (!decide (by_ ∈ [one, other])) := fun G7 H7 =>
            et_test (er_notInT (er_n rfl) (er_tupL (el_cons (er_n rfl) (el_cons (er_n rfl) el_nil)) (by simp)))
          split at ef
          next hc =>
            obtain ⟨h1, h2, h3⟩ := hc
            obtain ⟨z, e4, ef⟩ := bnd ef
            obtain ⟨lt, e5, ef⟩ := bnd ef
            cases ef
            refine s_when (b := lt) (et_is (et_and (et_test (er_neN (er_n rfl) (er_n rfl))) fun _ => et_and (hnin G6 H6) fun _ => et_B (er_call2 (er_var rfl r6) (er_mmAt mm6 (ev_var rfl) (er_n rfl) (er_n rfl) e4) e5)) (by rw [decide_eq_false h1, decide_eq_false (by simp; omega)]; rfl)) B6 (fun hx G7 H7 B7 g7 => ?_) (fun hx G7 H7 B7 g7 => ?_)
            · subst hx
              refine s_setMM (mm6.up g7) (er_var rfl r6) (ev_var rfl) (er_n rfl) (er_n rfl) (by rw [e4]; rfl) B7 fun a o G8 H8 g8 B8 mm8 => ?_
              exact hN _ _ ⟨G8, inferInstance, B8, _, _, rfl, mm8⟩
            · subst hx
              exact hN _ _ ⟨G7, inferInstance, B7, _, _, rfl, mm6.up g7⟩
          next hc =>
            cases ef
            have key : (!decide (one = other) && (!decide (by_ ∈ [one, other]))) = false := by
              by_cases h1 : one = other
              · rw [decide_eq_true h1]; rfl
              · have : by_ ∈ [one, other] := by
                  simp
                  apply Classical.byContradiction
                  intro hh
                  exact hc ⟨h1, by omega, by omega⟩
                rw [decide_eq_true this, decide_eq_false h1]; rfl
            refine s_when (b := false) ?_ B6 (fun hx => nomatch hx) (fun hx G8 H8 B8 g8 => ?_)
            · by_cases h1 : one = other
              · exact et_is (et_and (b := false) (et_test (er_neN (er_n rfl) (er_n rfl))) fun hh => by rw [decide_eq_true h1] at hh; cases hh) (by rw [decide_eq_true h1]; rfl)
              · rw [decide_eq_false h1] at key
                have key : (!decide (by_ ∈ [one, other])) = false := key
                refine et_is (et_and (et_test (er_neN (er_n rfl) (er_n rfl))) fun _ => et_and (b := false) (hnin G6 H6) fun hh => ?_) (by rw [key, decide_eq_false h1]; rfl)
                rw [key] at hh; cases hh
            · exact hN _ _ ⟨G8, inferInstance, B8, _, _, rfl, mm6.up g8⟩
        · rintro σ' G5 H5 _ B5 ⟨x5, x6, rfl, mm⟩
          exact hN _ _ ⟨G5, inferInstance, B5, _, _, _, rfl, mm⟩
      · rintro σ' G5 H5 _ B5 ⟨x4, x5, x6, rfl, mm⟩
        exact hN _ _ ⟨G5, inferInstance, B5, _, _, _, _, rfl, mm⟩
    · rintro σ' G5 H5 _ B5 ⟨x3, x4, x5, x6, rfl, mm⟩
      exact s_retV (ev_var rfl) B5 fun G6 H6 B6 g6 => Back.frzM q B6 (mm.up g6)
  next => cases e
theorem cal_leak : Cal P w K mg base "leak" 4 ["book"] (Sp1 leakM) := by
  refine cal_of (T.fn 34 34) scLeak (fun _ _ _ _ h => h.len) (fun _ _ _ _ _ _ _ us hl => match us, hl with | [_], _ => rfl) fun f cdv A outer s H vs Q E hr h => ?_
  obtain ⟨G, vb, b, r, rfl, eG, rb, e, q⟩ := h
  unfold leakM at e
  split at e
  next hl =>
    obtain ⟨hl1, hl2⟩ := hl
    obtain ⟨c, h1, e⟩ := bnd e
    unfold leakC at e
    obtain ⟨sh, h2, e⟩ := bnd e
    obtain ⟨th, h3, e⟩ := bnd e
    obtain ⟨best, h4, e⟩ := bnd e
    obtain ⟨z, hz, e'⟩ := bnd e
    subst hz
    obtain ⟨ways, h5, e⟩ := bnd e'
    obtain ⟨wo, h6, e⟩ := bnd e
    cases e
    refine ⟨_, (pss_cons (ps_if (pt_cmpR op_lt (pe_callB (k_len K) rfl (m_len T) bt_len (pa_cons (pv 0) pa_nil)) pe_int (nomark _)) (pss_one (ps_ret pe_non)) pss_nil)
  (pss_cons (ps_set (i := 1) scLeak.nd rfl (.inr rfl) (pe_cal (cal_costs_of T) (hr.mono (by decide)) rfl (pa_cons (pv 0) pa_nil)))
  (pss_cons (ps_set (i := 2) scLeak.nd rfl (.inl rfl) (pe_listRg rfl rfl (m_list T) (prg_1 rfl (m_range T) (pe_callB (k_len K) rfl (m_len T) bt_len (pa_cons (pv 0) pa_nil)))))
  (pss_cons (ps_set (i := 3) scLeak.nd rfl (.inr rfl) (pe_lst pa_nil))
  (pss_cons (ps_for PassesOwn.never rfl (k_piL K (pv 2)) (pg_name (i := 4) scLeak.nd rfl (.inr rfl))
  (pss_one (ps_expr (pe_bm PySem.F.plainAttrs_list PySem.F.slot_list_append PySem.F.type_list_append mt_append (pv 3) (pa_cons (pe_lc (own := [("other", 7)]) rfl scLeak.nd  (k_piL K (pv 2)) (blkOk_by (N := ["book", "costs", "many", "shares", "one", "through", "best", "other", "here", "share", "ways", "k", "j"]) (sc := defScope sLeak) (by decide +kernel)) (fun _ _ _ _ _ => (pg_name (i := 7) scLeak.nd rfl (.inl rfl))) (fun _ _ _ _ _ => pts_nil) (fun _ _ _ _ _ => (pe_cal (cal_share_of T) hr rfl (pa_cons (pv 1) (pa_cons (pv 4) (pa_cons (pv 7) pa_nil)))))) pa_nil)))))
  (pss_cons (ps_set (i := 5) scLeak.nd rfl (.inl rfl) (pe_cal (cal_least_through T) hr rfl (pa_cons (pv 3) pa_nil)))
  (pss_cons (ps_set (i := 6) scLeak.nd rfl (.inl rfl) pe_non)
  (pss_cons (ps_for PassesOwn.never rfl (k_piL K (pv 2)) (pg_name (i := 4) scLeak.nd rfl (.inr rfl))
  (pss_one (ps_for PassesOwn.never rfl (k_piL K (pv 2)) (pg_name (i := 7) scLeak.nd rfl (.inl rfl))
  (pss_one (ps_if (pt_cmpR op_ne (pv 4) (pv 7) (nomark _)) (pss_cons (ps_set (i := 8) scLeak.nd rfl (.inl rfl) (pe_cal (cal_greater T) (hr.mono (by decide)) rfl (pa_cons (pe_ix (k_ixL K) (pe_ix (k_ixL K) (pv 5) (pv 4) (fun _ _ => rfl)) (pv 7) (fun _ _ => rfl)) (pa_cons (pe_ix (k_ixL K) (pe_ix (k_ixL K) (pv 3) (pv 7) (fun _ _ => rfl)) (pv 4) (fun _ _ => rfl)) pa_nil))))
  (pss_one (ps_if (PW.pt (pw_or (pt_cmpR op_isX (pv 6) pe_non (nomark _)) (pw_or1 (pt_val (pe_cal (cal_is_less T) (hr.mono (by decide)) rfl (pa_cons (pv 8) (pa_cons (pe_ix (k_ixT K) (pv 6) pe_int (fun _ _ => rfl)) pa_nil))))))) (pss_one (ps_set (i := 6) scLeak.nd rfl (.inl rfl) (pe_tup (pa_cons (pv 8) (pa_cons (pv 4) (pa_cons (pv 7) pa_nil)))))) pss_nil))) pss_nil)))))
  (pss_cons (ps_asg (pv 6) (k_pgT K 3 rfl (pgs_cons (pg_name (i := 9) scLeak.nd rfl (.inr rfl)) (pgs_cons (pg_name (i := 4) scLeak.nd rfl (.inr rfl)) (pgs_cons (pg_name (i := 7) scLeak.nd rfl (.inl rfl)) pgs_nil)))))
  (pss_cons (ps_set (i := 10) scLeak.nd rfl (.inl rfl) (pe_lst pa_nil))
  (pss_cons (ps_for PassesOwn.never rfl (k_piL K (pv 2)) (pg_name (i := 11) scLeak.nd rfl (.inr rfl))
  (pss_one (ps_expr (pe_bm PySem.F.plainAttrs_list PySem.F.slot_list_append PySem.F.type_list_append mt_append (pv 10) (pa_cons (pe_lc (own := [("j", 12)]) rfl scLeak.nd  (k_piL K (pv 2)) (blkOk_by (N := ["book", "costs", "many", "shares", "one", "through", "best", "other", "here", "share", "ways", "k", "j"]) (sc := defScope sLeak) (by decide +kernel)) (fun _ _ _ _ _ => (pg_name (i := 12) scLeak.nd rfl (.inl rfl))) (fun _ _ _ _ _ => pts_nil) (fun _ _ _ _ _ => (pe_and (pe_cmpR op_ne (pv 12) (pv 11) (nomark _)) (pe_one (pe_not (pe_cal (cal_is_less T) (hr.mono (by decide)) rfl (pa_cons (pv 9) (pa_cons (pe_ix (k_ixL K) (pe_ix (k_ixL K) (pv 3) (pv 11) (fun _ _ => rfl)) (pv 12) (fun _ _ => rfl)) pa_nil)))))))) pa_nil)))))
  (pss_one (ps_ret (pe_tup (pa_cons (pv 9) (pa_cons (pe_cal (cal_way_between T) (hr.mono (by decide)) rfl (pa_cons (pv 10) (pa_cons (pv 4) (pa_cons (pv 7) pa_nil)))) pa_nil)))))))))))))))), ?_⟩
    refine q_when (et_test (er_lt (er_int (er_len (er_var rfl rb))) (er_c (x := (2 : Int)) rfl))) (Gro.refl eG) (fun hx => ?_) (fun hx G1 H1 B1 g1 => ?_)
    · have := of_decide_eq_true hx; omega
    refine q_asg (er_call1 (er_var rfl rb) h1) B1 fun vc G2 H2 B2 g2 rc => ?_
    refine q_asg (x := List.range b.length) (er_new (en_listRg (er_len (er_var rfl rb)) (by omega))) B2 fun vm G3 H3 B3 g3 rm => ?_
    refine q_asgN (xs := ([] : List (List Fr))) (en_lst el_nil (Nat.zero_le _)) B3 fun l G4 H4 B4 g4 ml _ => ?_
    refine q_for h2 (ei_list (er_var rfl rm)) B4 (fun s σ' G' H' => ∃ x4, σ' = [some vb, some vc, some vm, some (.ref l), x4, none, none, none, none, none, none, none, none] ∧ Ml H G' H' l s) (fun G3 H3 g3 => ⟨none, rfl, ml.up g3⟩) ?_ ?_ ?_
    · rintro s σ' G' H' G3 H3 ⟨x4, rfl, ml⟩ g
      exact ⟨x4, rfl, ml.up g⟩
    · rintro Gb s one s' vx σ' G5 H5 _ ef hx _ B5 ⟨x4, rfl, ml⟩ rx N hN
      cases rx
      obtain ⟨row, e1, ef⟩ := bnd ef
      obtain ⟨hz, rfl⟩ := snocM_inv ef
      unfold lkRow at e1
      have hrow := compO_len e1
      rw [List.length_range] at hrow
      refine s_app ml (ev_var rfl) (er_new (en_lcn e1 (ei_list (er_var rfl rm)) (by omega) (fun _ => rfl) ?_)) (by omega) B5 fun o G6 H6 g6 B6 ml6 => ?_
      · intro other o v G6 H6 eo hx g6 rv
        cases rv
        obtain ⟨x, e2, eo⟩ := bnd eo
        cases eo
        refine ⟨et_yes, fun y ey => ?_⟩
        cases ey
        exact er_call3 (er_var rfl rc) (er_n rfl) (er_n rfl) e2
      · exact hN _ _ ⟨G6, inferInstance, B6, _, rfl, ml6⟩
    rintro σ' G5 H5 _ B5 ⟨x4, rfl, ml⟩
    obtain ⟨G6, B6, st6, rsh, _⟩ := ml.frzO B5
    refine q_asg (er_call1 (er_var rfl rsh) h3) B6 fun v5 G7 H7 B7 g7 rth => ?_
    refine q_asg (x := (none : Option (T3 Fr Nat Nat))) (er_c rfl) B7 fun v6 G8 H8 B8 g8 r6 => ?_
    refine q_for h4 (ei_list (er_var rfl rm)) B8 (fun s σ' G' H' => ∃ v6 x4 x7 x8, σ' = [some vb, some vc, some vm, some (.ref l), x4, some v5, some v6, x7, x8, none, none, none, none] ∧ rep G' v6 s) (fun G3 H3 g3 => ⟨v6, x4, none, none, rfl, Rep.mono g3.g r6⟩) ?_ ?_ ?_
    · rintro s σ' G' H' G3 H3 ⟨v6, x4, x7, x8, rfl, r6⟩ g
      exact ⟨v6, x4, x7, x8, rfl, Rep.mono g.g r6⟩
    · rintro Gb best one s' vx σ' G9 H9 _ ef hx _ B9 ⟨v6, x4, x7, x8, rfl, r6⟩ rx N hN
      cases rx
      refine s_for ef (ei_list (er_var rfl rm)) B9 (fun s σ' G' H' => ∃ v6 x7 x8, σ' = [some vb, some vc, some vm, some (.ref l), some (.int (one : Int)), some v5, some v6, x7, x8, none, none, none, none] ∧ rep G' v6 s) (fun G3 H3 g3 => ⟨v6, x7, x8, rfl, Rep.mono g3.g r6⟩) ?_ ?_ ?_
      · rintro s σ' G' H' G3 H3 ⟨v6, x7, x8, rfl, r6⟩ g
        exact ⟨v6, x7, x8, rfl, Rep.mono g.g r6⟩
      · rintro Gc best other s' vx σ' G10 H10 _ ef hx _ B10 ⟨v6, x7, x8, rfl, r6⟩ rx N hN
        cases rx
        unfold lkBest at ef
        split at ef
        next hne =>
          obtain ⟨x, e1, ef⟩ := bnd ef
          obtain ⟨y, e2, ef⟩ := bnd ef
          obtain ⟨here, e3, ef⟩ := bnd ef
          refine s_when (b := true) (et_is (et_test (er_neN (er_n rfl) (er_n rfl))) (by rw [decide_eq_false hne]; rfl)) B10 (fun hx G11 H11 B11 g11 => ?_) (fun hx => nomatch hx)
          refine q_asg (er_call2 (er_idx2 (er_var rfl rth) (er_n rfl) (er_n rfl) e1) (er_idx2 (er_var rfl rsh) (er_n rfl) (er_n rfl) e2) e3) B11 fun v8 G12 H12 B12 g12 r8 => ?_
          cases best with
          | none =>
            cases ef
            refine s_when (b := true) (et_is (et_or (b := false) (et_test (er_isN (er_var rfl r6))) fun hh => nomatch hh) rfl) B12 (fun hx G13 H13 B13 g13 => ?_) (fun hx => nomatch hx)
            exact s_asg (x := some (T3.mk here one other)) (er_some (er_tup3 (er_var rfl r8) (er_n rfl) (er_n rfl))) B13 fun v6 G14 H14 B14 g14 r14 => hN _ _ ⟨G14, inferInstance, B14, v6, _, _, rfl, r14⟩
          | some zz =>
            obtain ⟨lt, e4, ef⟩ := bnd ef
            cases ef
            refine s_when (b := lt) (et_is (et_or (b := lt) (et_test (er_isN (er_var rfl r6))) fun hh => et_B (er_call2 (er_var rfl r8) (er_ix0t (er_ofSome (er_var rfl r6))) e4)) rfl) B12 (fun hx G13 H13 B13 g13 => ?_) (fun hx G13 H13 B13 g13 => ?_)
            · subst hx
              exact s_asg (x := some (T3.mk here one other)) (er_some (er_tup3 (er_var rfl r8) (er_n rfl) (er_n rfl))) B13 fun v6 G14 H14 B14 g14 r14 => hN _ _ ⟨G14, inferInstance, B14, v6, _, _, rfl, r14⟩
            · subst hx
              exact hN _ _ ⟨G13, inferInstance, B13, v6, _, _, rfl, up r6⟩
        next hne =>
          cases ef
          have hne : one = other := by omega
          refine s_when (b := false) (et_is (et_test (er_neN (er_n rfl) (er_n rfl))) (by rw [decide_eq_true hne]; rfl)) B10 (fun hx => nomatch hx) (fun hx G11 H11 B11 g11 => ?_)
          exact hN _ _ ⟨G11, inferInstance, B11, v6, _, _, rfl, up r6⟩
      · rintro σ' G10 H10 _ B10 ⟨v6, x7, x8, rfl, r6⟩
        exact hN _ _ ⟨G10, inferInstance, B10, v6, _, _, _, rfl, r6⟩
    rintro σ' G9 H9 _ B9 ⟨v6, x4, x7, x8, rfl, r6⟩
    have r6 : rep G9 v6 z := r6
    refine q_asgG (er_var rfl r6) B9 fun v6' G10 H10 B10 g10 r10 => ?_
    refine gt3 r10 g10.sub fun vsh v4 v7 ra rb' rc' => ?_
    cases rb'; cases rc'
    refine q_asgN (xs := ([] : List (List Bool))) (en_lst el_nil (Nat.zero_le _)) B10 fun l2 G11 H11 B11 g11 ml2 _ => ?_
    refine q_for h5 (ei_list (er_var rfl rm)) B11 (fun s σ' G' H' => ∃ x11, σ' = [some vb, some vc, some vm, some (.ref l), some (.int (z.b : Int)), some v5, some v6, some (.int (z.c : Int)), x8, some vsh, some (.ref l2), x11, none] ∧ Ml H G' H' l2 s) (fun G3 H3 g3 => ⟨none, rfl, ml2.up g3⟩) ?_ ?_ ?_
    · rintro s σ' G' H' G3 H3 ⟨x11, rfl, ml⟩ g
      exact ⟨x11, rfl, ml.up g⟩
    · rintro Gb s k s' vx σ' G12 H12 _ ef hx _ B12 ⟨x11, rfl, ml2⟩ rx N hN
      cases rx
      obtain ⟨row, e1, ef⟩ := bnd ef
      obtain ⟨hz, rfl⟩ := snocM_inv ef
      have hrow := compO_len e1
      rw [List.length_range] at hrow
      refine s_app ml2 (ev_var rfl) (er_new (en_lcn e1 (ei_list (er_var rfl rm)) (by omega) (fun _ => rfl) ?_)) (by omega) B12 fun o G6 H6 g6 B6 ml6 => ?_
      · intro j o v G6 H6 eo hx g6 rv
        cases rv
        unfold lkCell at eo
        split at eo
        next hjk =>
          obtain ⟨x, e3, eo⟩ := bnd eo
          obtain ⟨lt, e4, eo⟩ := bnd eo
          cases eo
          refine ⟨et_yes, fun z ez => ?_⟩
          cases ez
          refine er_is (er_andV (er_neN (er_n rfl) (er_n rfl)) fun _ => er_notV (er_call2 (er_var rfl ra) (er_idx2 (er_var rfl rsh) (er_n rfl) (er_n rfl) e3) e4)) ?_
          rw [decide_eq_false hjk]; rfl
        next hjk =>
          cases eo
          refine ⟨et_yes, fun z ez => ?_⟩
          cases ez
          have hjk : j = k := by omega
          refine er_is (er_andV (b := false) (er_neN (er_n rfl) (er_n rfl)) fun hh => ?_) ?_
          · rw [decide_eq_true hjk] at hh; cases hh
          · rw [decide_eq_true hjk]; rfl
      · exact hN _ _ ⟨G6, inferInstance, B6, _, rfl, ml6⟩
    · rintro σ' G12 H12 _ B12 ⟨x11, rfl, ml2⟩
      obtain ⟨G13, B13, st13, rw13, _⟩ := ml2.frzO B12
      exact s_ret (er_tup2 (er_var rfl ra) (er_call3 (er_var rfl rw13) (er_n rfl) (er_n rfl) h6)) B13 q
  next => cases e
end
end G3
end
/-! G3Mir2 -/
section
set_option Elab.async false
set_option linter.all false
set_option maxRecDepth 100000
set_option maxHeartbeats 4000000
/-! G3Mir2: the mirror of the law's own defs. -/
namespace G3
open PySem PySem.Spec PyProof.Rows L2
open Evl (Ex fresh_back)
open Rep (rep)
/-- the script -/
structure Scr (K : PySem.W.Frag) where
  ns : List Int
instance {K : PySem.W.Frag} : Rep (Scr K) := ⟨fun G v x => ∃ a, v = .ref a ∧ SqL K G a (x.ns.map V.int), fun e h => by obtain ⟨a, q, h1⟩ := h; exact ⟨a, q, Evl.ex_l e h1⟩⟩
/-- what the law gathers: truths, lists of numbers, fractions -/
inductive Res where
  | b (x : Bool)
  | l (x : List Nat)
  | f (x : Fr)
def repRes (G : Hp) (v : V) : Res → Prop
  | .b x => rep G v x
  | .l x => rep G v x
  | .f x => rep G v x
instance : Rep Res := ⟨repRes, fun {G G' v x} e h => by
  cases x with
  | b x => exact Rep.mono (α := Bool) e h
  | l x => exact Rep.mono (α := List Nat) e h
  | f x => exact Rep.mono (α := Fr) e h⟩
open RepE (dat)
instance : RepE Res where
  dat := fun x => match x with
    | .b x => dat x
    | .l x => dat x
    | .f x => dat x
  dep := 1
  dp := fun {K G H v x} e h => by
    cases x with
    | b x => exact RepE.dp (α := Bool) e h
    | l x => exact RepE.dp (α := List Nat) e h
    | f x => exact RepE.dp (α := Fr) e h
  lay := fun x => by
    cases x with
    | b x => exact RepE.lay x
    | l x => exact RepE.lay x
    | f x => exact RepE.lay x
  hd := fun x => by
    cases x with
    | b x => exact Nat.le_trans (RepE.hd x) (by decide)
    | l x => exact RepE.hd x
    | f x => exact RepE.hd x
def cellAtM {K : PySem.W.Frag} (s : Scr K) (k : Nat) : Option Int := some (s.ns.getD k 0)
def bigM : Int := 2305843009213693951
structure Dr where
  found : List Int
  rest : Int
  st : Int
def drNext (st : Int) (k : Nat) : Int := (st * st + 48271 * st + (k : Int) + 1) % bigM
def drTurn (base : Int) (s : Dr) (k : Nat) : Option Dr :=
  if 0 ≤ s.st ∧ s.st < bigM ∧ s.found.length ≤ 1000 then
    if 2 < k ∧ 0 < s.rest then some ⟨s.found ++ [s.rest % base], s.rest.fdiv base, drNext s.st k⟩
    else if 2 < k then some ⟨s.found ++ [(drNext s.st k).fdiv 4096 % base], s.rest, drNext s.st k⟩
    else some ⟨s.found, s.rest, drNext s.st k⟩
  else none
def drawsM (cell : Int) (many : Nat) (base : Int) : Option (List Int) := if 0 < base ∧ base < 1073741824 ∧ many ≤ 1000 then
    (foldO (drTurn base) ⟨[], cell * (if 1000000000000000000 ≤ cell then 1 else 0), cell % bigM⟩ (List.range (many + 3))).bind fun s => some s.found
  else none
def bgTurn (p wt : List Int) (best : Nat) (k : Nat) : Option Nat :=
  (wt[k]?).bind fun a => (p[best]?).bind fun b => (wt[best]?).bind fun c => (p[k]?).bind fun d => some (if (1 + c % 9) * d < (1 + a % 9) * b then k else best)
def bestGoodM (p wt : List Int) (amount : Int) : Option (List Int) := if p.length ≤ 1000 then
    (foldO (bgTurn p wt) 0 (List.range p.length)).bind fun best => some ((List.range p.length).map fun k => amount * (if k = best then 1 else 0))
  else none
/-- one buying's amounts, before they are cut -/
def abAmounts (heads picks prices : List Int) (goods : Nat) (far way : Int) : Option (List Int) :=
  (picks[12]?).bind fun p12 => (picks[13]?).bind fun p13 =>
  let some_ := (picks.drop 6).take goods
  let a0 := some_.map fun pick => pick % (far + 1) * (if 0 < pick % 5 then 1 else 0)
  (if way = 1 then bestGoodM prices ((heads.drop 6).take goods) (1 + p12 % far) else some a0).bind fun a1 =>
  let a2 := if way = 2 then prices.map fun price => far + 1 - price else a1
  let a3 := if p13 % 9 = 0 then some_.map fun pick => pick % far else a2
  let a4 := a3.map fun amount => if amount < 1000000 then amount else 1000000
  (maxI a4).bind fun m => if m = 0 then (if ((p12 % (goods : Int)).toNat) < a4.length then some (a4.set ((p12 % (goods : Int)).toNat) 1) else none) else some a4
def abTurn (cell1 : Int) (heads : List Int) (goods : Nat) (far way : Int) (book : Book) (k : Nat) : Option Book :=
  (heads[6]?).bind fun h6 => (drawsM (cell1 + (k : Int) * (h6 + 1)) 14 1000000000).bind fun picks =>
  let prices := (picks.take goods).map fun pick => 1 + pick % far
  (abAmounts heads picks prices goods far way).bind fun amounts => (picks[13]?).bind fun p13 =>
  let buying : Buy := (⟨prices⟩, ⟨amounts⟩)
  (if book ≠ [] ∧ p13.fdiv 9 % 7 = 0 then (book[((p13.fdiv 63) % (book.length : Int)).toNat]?).bind fun o => some ((⟨prices⟩, o.2) : Buy) else some buying).bind fun bu => snocM book bu
def aBookM {K : PySem.W.Frag} (s : Scr K) (at_ most : Nat) : Option Book := if 0 < most ∧ most ≤ 1000 then
    (drawsM (s.ns.getD at_ 0) 12 1000000).bind fun heads =>
    (heads[0]?).bind fun h0 => (heads[1]?).bind fun h1 => (heads[2]?).bind fun h2 => (heads[3]?).bind fun h3 => (heads[4]?).bind fun h4 => (heads[5]?).bind fun h5 =>
    ([1 + h0 % 6, 2, 2 + h0 % 2][(h1 % 3).toNat]?).bind fun goods => ([1 + h2 % (most : Int), 1 + h2 % (if (4 : Int) < (most : Int) then 4 else (most : Int))][((h3 % 3).fdiv 2).toNat]?).bind fun many => ([3, 9, 60, 1000000][(h4 % 4).toNat]?).bind fun far =>
    if 0 ≤ goods ∧ goods ≤ 1000 ∧ 0 ≤ many ∧ many ≤ 1000 then
      foldO (abTurn (s.ns.getD (at_ + 1) 0) heads goods.toNat far (h5 % 5)) [] (List.range many.toNat)
    else none
  else none
def tlTurn (b : Book) (found : List Res) (kind : PySem.Str) : Option (List Res) :=
  (hasWishM b kind).bind fun h => if b.length < 6 then (slipsM b kind).bind fun s => snocM (found ++ [.b h]) (.l s) else snocM found (.b h)
def toldM (b : Book) : Option (List Res) := if b.length ≤ 1000 then
    (foldO (tlTurn b) [] [PySem.Str.ofString "any", PySem.Str.ofString "even", PySem.Str.ofString "scaled"]).bind fun found =>
    (if 1 < b.length then (leakM b).bind fun l => (dearestM b).bind fun d => some (found ++ [.f l.1, .f d.a]) else some found).bind fun f2 =>
    (compO (fun k => (standM b k).bind fun s => some (some (Res.l s))) (List.range b.length)).bind fun st => if f2.length ≤ 1000 then some (f2 ++ st) else none
  else none
/-- a buying turned three ways -/
def tuWide (pk : Int) (x : Buy) : Buy := (⟨x.1.l ++ [1 + pk % 1000000]⟩, ⟨x.2.l ++ [0]⟩)
def tuPart (pk : Int) (good : Nat) (x : Buy) : Buy :=
  let part := pk % (x.2.l.getD good 0 + 1)
  (⟨x.1.l ++ (x.1.l.drop good).take 1⟩, ⟨(x.2.l.take good ++ [x.2.l.getD good 0 - part] ++ x.2.l.drop (good + 1)) ++ [part]⟩)
def tuOther (by_ : Int) (good : Nat) (x : Buy) : Buy :=
  (⟨x.1.l.take good ++ [x.1.l.getD good 0 * by_] ++ x.1.l.drop (good + 1)⟩, ⟨x.2.l.take good ++ [(x.2.l.getD good 0).fdiv by_] ++ x.2.l.drop (good + 1)⟩)
def tuTurn (picks : List Int) (by_ : Int) (good : Nat) (m : List Book) (p : Nat × Buy) : Option (List Book) :=
  (picks[p.1]?).bind fun pk => if good < p.2.1.l.length ∧ good < p.2.2.l.length ∧ p.2.1.l.length ≤ 1000 ∧ p.2.2.l.length ≤ 1000 ∧ 0 ≤ p.2.2.l.getD good 0 then
    match m with
    | [a, b, c] => (snocM a (tuWide pk p.2)).bind fun a => (snocM b (tuPart pk good p.2)).bind fun b => (snocM c (tuOther by_ good p.2)).bind fun c => some [a, b, c]
    | _ => none
  else none
def goodM (b : Book) (picks : List Int) : Option Nat := (picks[20]?).bind fun p => (b[0]?).bind fun x => if 0 < x.1.l.length then some (p % (x.1.l.length : Int)).toNat else none
def turnedM (b : Book) (picks : List Int) : Option (List Book) := (goodM b picks).bind fun good => (picks[21]?).bind fun p => foldO (tuTurn picks (1 + p % 9) good) [[], [], []] ((List.range b.length).zip b)
def cut5 (x : Buy) : Buy := (⟨x.1.l.take 5⟩, ⟨x.2.l.take 5⟩)
def fixTurn (b : Book) (p : Nat × Buy) : Option Book := (maxI p.2.2.l).bind fun m => if m = 0 then (if p.1 < b.length ∧ p.2.2.l.length ≤ 1000 then some (b.set p.1 (p.2.1, ⟨p.2.2.l.dropLast ++ [1]⟩)) else none) else some b
def laTurn (by_ : Int) (good : Nat) (_ : Unit) (x : Buy) : Option (Out Bool Unit) := (x.2.l[good]?).bind fun a => (x.1.l[good]?).bind fun p =>
  some (if 0 < a % by_ ∨ 1000000 < p * by_ then .ret true else .go ())
def lawBook {K : PySem.W.Frag} (s : Scr K) : Option Book := (aBookM s 0 12).bind fun b0 => if (b0.map cut5).length ≤ 1000 then foldO fixTurn (b0.map cut5) ((List.range (b0.map cut5).length).zip (b0.map cut5)) else none
def lawM {K : PySem.W.Frag} (s : Scr K) : Option Bool :=
  (lawBook s).bind fun b => (drawsM (s.ns.getD 2 0) 22 1000000).bind fun picks => (toldM b).bind fun due => (turnedM b picks).bind fun ts =>
  match ts with
  | [wide, parted, other] => (toldM wide).bind fun tw => if PyData.eqv (dat tw) (dat due) = false then some false else (toldM parted).bind fun tp => if PyData.eqv (dat tp) (dat due) = false then some false else
      (picks[21]?).bind fun p => (goodM b picks).bind fun good => (foldR (laTurn (1 + p % 9) good) () b).bind fun o => match o with
        | .ret r => some r
        | .go _ => (toldM other).bind fun to => some (PyData.eqv (dat to) (dat due))
  | _ => none
end G3
end
/-! G3Base8 -/
section
set_option Elab.async false
set_option linter.all false
set_option maxRecDepth 100000
set_option maxHeartbeats 4000000
/-! G3Base8: slices, tuples joined, max of a tuple, the script; lists of lists that grow. -/
namespace G3
open PySem PySem.Spec PyProof.Rows L2
open Evl (Ex fresh_back)
open Rep (rep)
def rMaxT (K : PySem.W.Frag) : List V → Hp → VK → Prop := fun vs H Q => ∃ (a : Addr) (x : Int) (r : List Int), vs = [V.ref a] ∧ SqT K H a ((x :: r).map V.int) ∧ Q (.int (r.foldl (fun a b => if a < b then b else a) x)) H
theorem holdInts {h : Heap} : ∀ {ns : List Int} {us : List Value}, Vals (ns.map V.int) us → PySem.W.HoldAll h us ns
  | [], _, r => by cases r; exact ⟨[], .nil⟩
  | n :: ns, us, r => by
    cases r with
    | cons r0 rr =>
      obtain ⟨t, rfl⟩ := r0
      obtain ⟨as, h⟩ := holdInts (h := h) rr
      exact ⟨[] ++ as, .cons (.int n t) h⟩
theorem k_maxT {X : Cx} (K : PySem.W.Frag) (hc : X.calm = true) (hu : X.A.units + 64 < cLine) (h : X.K = K := by rfl) : CallR X (.builtin "max") (rMaxT K) := by
  subst h
  intro pins s σ H vs us Q I r h
  obtain ⟨a, x, xs, rfl, hs, q⟩ := h
  obtain ⟨its, rv, hl, _⟩ := I.tuple hs
  rw [Vals.ref1 r]
  refine PySem.W.max_tuple_datum (α := Int) (x := x) (xs := xs) (I.ok.hd hc) hl (holdInts rv) (by show X.A.units + 1 + 0 < cLine; omega) fun i v h' tk hi hh hk => ?_
  obtain ⟨as, hr⟩ := hh
  have e : PySem.W.maxOf x xs = xs.foldl (fun a b => if a < b then b else a) x := by
    unfold PySem.W.maxOf
    congr 1
    funext a y
    show (if decide (a < y) = true then y else a) = _
    by_cases h : a < y <;> simp [h]
  rw [e] at hr
  generalize xs.foldl (fun a b => if a < b then b else a) x = m at hr q
  have hr : Reads h' v (.int m) as := hr
  cases hr with
  | int _ t => exact ⟨.int m, H, I.kept hk, ⟨t, rfl⟩, q⟩
section
variable {α : Type} [Rep α] {K : PySem.W.Frag} {σ : L2.St} {G H G0 H0 : Hp} {ta tb te : TE} {xs ys : List α} {l : Addr}
theorem er_maxT {ns : List Int} {m : Int} (h : EvR te σ G H (Tup.mk ns)) (e : maxI ns = some m) : EvR (tCB (rMaxT K) (tCons te tNil)) σ G H m := fun G1 H1 g Q q => h G1 H1 g _ fun v G2 H2 g2 r => by
  obtain ⟨a, vs, rfl, e1, e2⟩ := r
  rw [e2.ints] at e1
  cases ns with
  | nil => cases e
  | cons x r =>
    cases e
    exact ⟨a, x, r, rfl, SqT.of (g2.sub _ _ e1), q _ G2 H2 g2 rfl⟩
theorem er_maxM {ns : List Int} {m : Int} (ml : Ml H0 G H l ns) (h : EvV te σ G H (.ref l)) (e : maxI ns = some m) : EvR (tCB (rMax K) (tCons te tNil)) σ G H m := fun G1 H1 g Q q => h G1 H1 g _ fun G2 H2 g2 => by
  obtain ⟨vs, e1, e2⟩ := ml.ex
  rw [e2.ints] at e1
  cases ns with
  | nil => cases e
  | cons x r =>
    cases e
    obtain ⟨h1, h2⟩ := maxI_le r x
    refine ⟨l, x :: r, rfl, SqL.of ((g.trans g2).h _ _ e1), Nat.succ_pos _, fun m hm hle => q _ G2 H2 g2 ?_⟩
    show V.int _ = V.int _
    have a1 := h1 m hm
    have a2 := hle _ h2
    congr 1; omega
theorem en_listM (ml : Ml H0 G H l xs) (h : EvV te σ G H (.ref l)) : EvN (tCB (Evl.rListS K) (tCons te tNil)) σ G H xs := fun G1 H1 g Q q => h G1 H1 g _ fun G2 H2 g2 => by
  obtain ⟨vs, e1, e2⟩ := ml.ex
  have gg := g.trans g2
  exact ⟨l, vs, rfl, .inl (SqL.of (gg.h _ _ e1)), fun p hp => q p vs G2 _ (g2.trans (Gro.fresh g2.sub hp)) (fresh_back g2.h hp) (none_sub g2.sub hp) upd_same (e2.mono gg.g)⟩
theorem er_tupM (ml : Ml H0 G H l xs) (h : EvV te σ G H (.ref l)) : EvR (tCB (xTupOf K) (tCons te tNil)) σ G H (Tup.mk xs) := fun G1 H1 g Q q => h G1 H1 g _ fun G2 H2 g2 => by
  obtain ⟨vs, e1, e2⟩ := ml.ex
  have gg := g.trans g2
  exact ⟨l, vs, rfl, .inl ⟨SqL.of (gg.h _ _ e1), fun p hp => q _ (upd G2 p (.tup vs)) _ (g2.trans (Gro.add g2.sub hp)) ⟨p, vs, rfl, upd_same, (e2.mono gg.g).mono (Gro.add (o := .tup vs) g2.sub hp).g⟩⟩⟩
/-! slices -/
def EvO (to : TO) (σ : L2.St) (G H : Hp) (o : Option Int) : Prop := ∀ G1 H1, Gro G H G1 H1 → ∀ Q : Option Int → Hp → Prop, (∀ G2 H2, Gro G1 H1 G2 H2 → Q o H2) → to σ H1 Q
theorem eo_none : EvO tNoPart σ G H none := fun G1 H1 g Q q => q G1 H1 (Gro.refl g.sub)
theorem eo_some {i : Int} (h : EvR te σ G H i) : EvO (tPart te) σ G H (some i) := fun G1 H1 g Q q => h G1 H1 g _ fun v G2 H2 g2 r => by cases r; exact ⟨i, rfl, q G2 H2 g2⟩
def cutL {β : Type} (xs : List β) (lo hi : Option Int) : List β := (xs.drop (HT.sIx xs.length 0 lo)).take (HT.sIx xs.length xs.length hi - HT.sIx xs.length 0 lo)
theorem repL_cut {vs : List V} (h : RepL G vs xs) (lo hi : Option Int) : RepL G (cutV vs lo hi) (cutL xs lo hi) := by
  unfold cutV cutL
  rw [h.length]
  exact (h.drop _).take _
variable {tl th : TO} {lo hi : Option Int}
theorem en_slL (h : EvR te σ G H xs) (h1 : EvO tl σ G H lo) (h2 : EvO th σ G H hi) : EvN (tSl (rSlL K) te tl th) σ G H (cutL xs lo hi) := fun G1 H1 g Q q => h G1 H1 g _ fun v G2 H2 g2 r => h1 G2 H2 (g.trans g2) _ fun G3 H3 g3 => h2 G3 H3 ((g.trans g2).trans g3) _ fun G4 H4 g4 => by
  obtain ⟨a, vs, rfl, e1, e2⟩ := r
  have g34 := g3.trans g4
  exact ⟨a, vs, rfl, SqL.of (g34.sub _ _ (g34.g _ _ e1)), fun p hp => q p _ G4 _ ((g2.trans g34).trans (Gro.fresh g34.sub hp)) (fresh_back (g2.trans g34).h hp) (none_sub g34.sub hp) upd_same (repL_cut (e2.mono g34.g) lo hi)⟩
theorem er_slT {t : Tup α} (h : EvR te σ G H t) (h1 : EvO tl σ G H lo) (h2 : EvO th σ G H hi) : EvR (tSl (rSlA K) te tl th) σ G H (Tup.mk (cutL t.l lo hi)) := fun G1 H1 g Q q => h G1 H1 g _ fun v G2 H2 g2 r => h1 G2 H2 (g.trans g2) _ fun G3 H3 g3 => h2 G3 H3 ((g.trans g2).trans g3) _ fun G4 H4 g4 => by
  obtain ⟨a, vs, rfl, e1, e2⟩ := r
  have g34 := g3.trans g4
  have e3 := repL_cut (e2.mono g34.g) lo hi
  refine ⟨a, vs, rfl, SqT.of (g34.sub _ _ (g34.g _ _ e1)), fun hw => ?_, fun hw p hp => ?_⟩
  · refine q _ G4 H4 (g2.trans g34) ⟨a, vs, rfl, g34.g _ _ e1, ?_⟩
    have : cutV vs lo hi = vs := by
      unfold cutV
      rw [hw.1, hw.2, List.drop_zero, Nat.sub_zero, List.take_length]
    rw [this] at e3
    exact e3
  · exact q _ (upd G4 p (.tup (cutV vs lo hi))) _ ((g2.trans g34).trans (Gro.add g34.sub hp)) ⟨p, _, rfl, upd_same, e3.mono (Gro.add (o := .tup (cutV vs lo hi)) g34.sub hp).g⟩
theorem er_catT {s t : Tup α} (h : EvR ta σ G H s) (h2 : EvR tb σ G H t) (hz : s.l.length + t.l.length ≤ 100000) : EvR (tOp (rCatA K) ta tb) σ G H (Tup.mk (s.l ++ t.l)) := fun G1 H1 g Q q => h G1 H1 g _ fun v G2 H2 g2 r => h2 G2 H2 (g.trans g2) _ fun w G3 H3 g3 r' => by
  obtain ⟨a, vs, rfl, e1, e2⟩ := r
  obtain ⟨b, ws, rfl, f1, f2⟩ := r'
  have e3 := e2.mono g3.g
  refine ⟨a, b, vs, ws, rfl, rfl, SqT.of (g3.sub _ _ (g3.g _ _ e1)), SqT.of (g3.sub _ _ f1), ?_, fun hx => ?_, fun _ hy => ?_, fun _ _ p hp => ?_⟩
  · rw [e2.length, f2.length]; exact Nat.le_trans hz (by decide)
  · refine q _ G3 H3 (g2.trans g3) ⟨b, ws, rfl, f1, ?_⟩
    have hs : s.l = [] := List.eq_nil_of_length_eq_zero (by rw [← e2.length, hx]; rfl)
    rw [hs]; exact f2
  · refine q _ G3 H3 (g2.trans g3) ⟨a, vs, rfl, g3.g _ _ e1, ?_⟩
    have ht : t.l = [] := List.eq_nil_of_length_eq_zero (by rw [← f2.length, hy]; rfl)
    rw [ht]; show RepL G3 vs (s.l ++ []); rw [List.append_nil]; exact e3
  · exact q _ (upd G3 p (.tup (vs ++ ws))) _ ((g2.trans g3).trans (Gro.add g3.sub hp)) ⟨p, _, rfl, upd_same, (e3.append f2).mono (Gro.add (o := .tup (vs ++ ws)) g3.sub hp).g⟩
/-! the script -/
theorem er_lenS {s : Scr K} (h : EvR te σ G H s) : EvR (tCB (Evl.rLenS K) (tCons te tNil)) σ G H s.ns.length := fun G1 H1 g Q q => h G1 H1 g _ fun v G2 H2 g2 r => by
  obtain ⟨a, rfl, e1⟩ := r
  refine ⟨a, _, rfl, .inl (Evl.ex_l g2.sub e1), ?_⟩
  rw [List.length_map]
  exact q _ G2 H2 g2 rfl
theorem er_ixS {s : Scr K} {j : Nat} {x : Int} (ha : EvR ta σ G H s) (hb : EvR tb σ G H j) (hj : s.ns[j]? = some x) : EvR (tOp (rIxL K) ta tb) σ G H x := er_op ha hb fun G1 H1 v w gr rv rw' Q q => by
  obtain ⟨a, rfl, e1⟩ := rv
  cases rw'
  exact ⟨a, _, j, .int x, rfl, rfl, Evl.ex_l gr.sub e1, atI_nat (by rw [List.getElem?_map, hj]; rfl), q _ G1 H1 (Gro.refl gr.sub) rfl⟩
end
theorem sIx_pos (n d : Nat) (i : Nat) : HT.sIx n d (some (i : Int)) = min i n := HT.sIx_nat n d i
theorem cut_hi {β : Type} (xs : List β) (k : Nat) : cutL xs none (some (k : Int)) = xs.take k := by
  unfold cutL
  rw [HT.sIx_none, sIx_pos, List.drop_zero, Nat.sub_zero]
  rcases Nat.le_total k xs.length with h | h
  · rw [Nat.min_eq_left h]
  · rw [Nat.min_eq_right h, List.take_length, List.take_of_length_le h]
theorem cut_lo {β : Type} (xs : List β) (k : Nat) : cutL xs (some (k : Int)) none = xs.drop k := by
  unfold cutL
  rw [HT.sIx_none, sIx_pos]
  rcases Nat.le_total k xs.length with h | h
  · rw [Nat.min_eq_left h, List.take_of_length_le (by rw [List.length_drop]; exact Nat.le_refl _)]
  · rw [Nat.min_eq_right h, List.drop_length, List.drop_of_length_le h]; simp
theorem cut_lohi {β : Type} (xs : List β) (k n : Nat) : cutL xs (some (k : Int)) (some ((k + n : Nat) : Int)) = (xs.drop k).take n := by
  unfold cutL
  rw [sIx_pos, sIx_pos]
  rcases Nat.le_total k xs.length with h | h
  · rw [Nat.min_eq_left h]
    rcases Nat.le_total (k + n) xs.length with h2 | h2
    · rw [Nat.min_eq_left h2, Nat.add_sub_cancel_left]
    · rw [Nat.min_eq_right h2, List.take_of_length_le (by rw [List.length_drop]; exact Nat.le_refl _), List.take_of_length_le (by rw [List.length_drop]; omega)]
  · rw [Nat.min_eq_right h, List.drop_length, List.drop_of_length_le h]; simp
theorem cut_last {β : Type} (xs : List β) : cutL xs none (some (-1)) = xs.dropLast := by
  unfold cutL
  rw [HT.sIx_none, List.drop_zero, Nat.sub_zero, List.dropLast_eq_take]
  congr 1
  unfold HT.sIx
  simp
  omega
end G3
end
/-! G3W9 -/
section
set_option Elab.async false
set_option linter.all false
set_option maxRecDepth 100000
set_option maxHeartbeats 4000000
/-! G3W9: walks: the law's cells, draws, best good. -/
namespace G3
open PySem PySem.Spec PyProof.Rows L2
open Evl (Ex fresh_back)
open Rep (rep)
theorem scLawCellAt : FnScope ["script", "k"] ["script", "k"] (defScope sLawCellAt) := ⟨rfl, rfl, rfl, by decide +kernel, rfl, by decide +kernel, by decide +kernel⟩
theorem scLawDraws : FnScope ["cell", "many", "base", "found", "rest", "stirred", "k"] ["cell", "many", "base"] (defScope sLawDraws) := ⟨rfl, rfl, rfl, by decide +kernel, rfl, by decide +kernel, by decide +kernel⟩
theorem scLawBestGood : FnScope ["prices", "weights", "amount", "best", "k", "one"] ["prices", "weights", "amount"] (defScope sLawBestGood) := ⟨rfl, rfl, rfl, by decide +kernel, rfl, by decide +kernel, by decide +kernel⟩
section
variable {K : PySem.W.Frag} {σ : L2.St} {G H : Hp} {ta tb te : TE}
theorem er_mulC {m n : Int} (ha : EvR ta σ G H m) (hb : EvR tb σ G H n) (hc : CMul m n) : EvR (tOp (rI CMul fun i j => .int (i * j)) ta tb) σ G H (m * n) := er_I (f := fun i j => i * j) ha hb hc
theorem er_pow {m n : Int} (ha : EvR ta σ G H m) (hb : EvR tb σ G H n) (hc : CPow m n) : EvR (tOp (rI CPow fun i j => .int (i ^ j.toNat)) ta tb) σ G H (m ^ n.toNat) := er_I (f := fun i j => i ^ j.toNat) ha hb hc
theorem er_p6 : EvR (tOp (rI CPow fun i j => .int (i ^ j.toNat)) (tC (.int 10)) (tC (.int 6))) σ G H (1000000 : Int) := er_is (er_pow (er_c (x := (10 : Int)) rfl) (er_c (x := (6 : Int)) rfl) ⟨by decide, by decide, by decide⟩) (by decide)
theorem er_p9 : EvR (tOp (rI CPow fun i j => .int (i ^ j.toNat)) (tC (.int 10)) (tC (.int 9))) σ G H (1000000000 : Int) := er_is (er_pow (er_c (x := (10 : Int)) rfl) (er_c (x := (9 : Int)) rfl) ⟨by decide, by decide, by decide⟩) (by decide)
theorem er_p18 : EvR (tOp (rI CPow fun i j => .int (i ^ j.toNat)) (tC (.int 10)) (tC (.int 18))) σ G H (1000000000000000000 : Int) := er_is (er_pow (er_c (x := (10 : Int)) rfl) (er_c (x := (18 : Int)) rfl) ⟨by decide, by decide, by decide⟩) (by decide)
theorem er_k {i : Int} : EvR (tC (.int i)) σ G H i := er_c rfl
theorem cm_r {m n : Int} (h : 0 ≤ n) (h2 : n ≤ 1000000000000) : CMul m n := .inr ⟨by omega, by omega⟩
theorem cm_l {m n : Int} (h : 0 ≤ m) (h2 : m ≤ 10000000000000000000) : CMul m n := .inl ⟨by omega, by omega⟩
theorem cd_of {m n : Int} (h : 0 < n) (h2 : n < 1073741824) : CDivX m n := ⟨by omega, by
  have h3 : n.natAbs < 2 ^ 30 := by omega
  exact Nat.lt_of_lt_of_le (PySem.Flt.log2_lt_of (by decide) h3) (by decide)⟩
end
section
variable {P : Program} {w : World} {K : PySem.W.Frag} {mg : Str → Option Value} {base : Heap} (T : Top K mg)
include T
theorem cal_law_cell_at : Cal P w K mg base "_law_cell_at" 1 ["script", "k"] (Sp2 (cellAtM (K := K))) := by
  refine cal_of (T.fn 35 35) scLawCellAt (fun _ _ _ _ h => h.len) (fun _ _ _ _ _ _ _ us hl => match us, hl with | [_, _], _ => rfl) fun f cdv A outer s H vs Q E hr h => ?_
  obtain ⟨G, vs, vk, s, k, r, rfl, eG, rs, rk, e, q⟩ := h
  cases rk
  cases e
  refine ⟨_, (pss_cons (ps_if (pt_cmpR op_lt (pv 1) (pe_callB (k_len K) rfl (m_len T) bt_len (pa_cons (pv 0) pa_nil)) (nomark _)) (pss_one (ps_ret (pe_ix (k_ixL K) (pv 0) (pv 1) (fun _ _ => rfl)))) pss_nil)
  (pss_one (ps_ret pe_int))), ?_⟩
  refine q_when (et_test (er_lt (er_int (er_n rfl)) (er_int (er_lenS (er_var rfl rs))))) (Gro.refl eG) (fun hx G1 H1 B1 g1 => ?_) (fun hx G1 H1 B1 g1 => ?_)
  · have hk : k < s.ns.length := by have := of_decide_eq_true hx; omega
    exact s_ret (er_ixS (er_var rfl rs) (er_n rfl) (by rw [List.getD_eq_getElem?_getD, List.getElem?_eq_getElem hk]; rfl)) B1 q
  · have hk : s.ns.length ≤ k := by have := of_decide_eq_false hx; omega
    exact s_ret (er_is (er_k (i := 0)) (by rw [List.getD_eq_getElem?_getD, List.getElem?_eq_none hk]; rfl)) B1 q
theorem cal_law_draws : Cal P w K mg base "_law_draws" 1 ["cell", "many", "base"] (Sp3 drawsM) := by
  refine cal_of (T.fn 36 36) scLawDraws (fun _ _ _ _ h => h.len) (fun _ _ _ _ _ _ _ us hl => match us, hl with | [_, _, _], _ => rfl) fun f cdv A outer s H vs Q E hr h => ?_
  obtain ⟨G, vc, vm, vb, cell, many, base_, r, rfl, eG, rc, rm, rb, e, q⟩ := h
  cases rc; cases rm; cases rb
  unfold drawsM at e
  split at e
  next hl =>
    obtain ⟨hb1, hb2, hm⟩ := hl
    obtain ⟨s, h1, e⟩ := bnd e
    cases e
    refine ⟨_, (pss_cons (ps_set (i := 3) scLawDraws.nd rfl (.inl rfl) (pe_lst pa_nil))
  (pss_cons (ps_set (i := 4) scLawDraws.nd rfl (.inl rfl) (pe_op op_mul (pv 0) (pe_callTy call_intX rfl (m_int T) bt_int (pa_cons (pe_cmpR op_ge (pv 0) (pe_op op_pow pe_int pe_int) (nomark _)) pa_nil))))
  (pss_cons (ps_set (i := 5) scLawDraws.nd rfl (.inl rfl) (pe_op op_mod (pv 0) pe_int))
  (pss_cons (ps_for PassesOwn.never rfl (pi_range1 rfl (m_range T) (pa_cons (pe_op op_add (pv 1) pe_int) pa_nil)) (pg_name (i := 6) scLawDraws.nd rfl (.inl rfl))
  (pss_cons (ps_set (i := 5) scLawDraws.nd rfl (.inl rfl) (pe_op op_mod (pe_op op_add (pe_op op_add (pe_op op_add (pe_op op_mul (pv 5) (pv 5)) (pe_op op_mul pe_int (pv 5))) (pv 6)) pe_int) pe_int))
  (pss_one (ps_if (PW.pt (pw_and (pt_cmpR op_gt (pv 6) pe_int (nomark _)) (pw_and1 (pt_cmpR op_gt (pv 4) pe_int (nomark _))))) (pss_cons (ps_expr (pe_bm PySem.F.plainAttrs_list PySem.F.slot_list_append PySem.F.type_list_append mt_append (pv 3) (pa_cons (pe_op op_mod (pv 4) (pv 2)) pa_nil)))
  (pss_one (ps_set (i := 4) scLawDraws.nd rfl (.inl rfl) (pe_op op_fdivX (pv 4) (pv 2))))) (pss_one (ps_if (pt_cmpR op_gt (pv 6) pe_int (nomark _)) (pss_one (ps_expr (pe_bm PySem.F.plainAttrs_list PySem.F.slot_list_append PySem.F.type_list_append mt_append (pv 3) (pa_cons (pe_op op_mod (pe_op op_fdivX (pv 5) pe_int) (pv 2)) pa_nil)))) pss_nil))))))
  (pss_one (ps_ret (pv 3))))))), ?_⟩
    refine q_asgN (xs := ([] : List Int)) (en_lst el_nil (Nat.zero_le _)) (Gro.refl eG) fun l G1 H1 B1 g1 ml _ => ?_
    refine q_asg (x := cell * (if 1000000000000000000 ≤ cell then 1 else 0)) (er_is (er_mulC (er_i rfl) (er_intB (er_ge (er_i rfl) er_p18)) (cm_r (by split <;> omega) (by split <;> omega))) (by by_cases h : 1000000000000000000 ≤ cell <;> simp [h])) B1 fun v4 G2 H2 B2 g2 r4 => ?_
    refine q_asg (er_mod (er_i rfl) (er_k (i := bigM)) (by decide)) B2 fun v5 G3 H3 B3 g3 r5 => ?_
    cases r4; cases r5
    refine q_for h1 (ei_range (er_nat (er_is (er_add (er_int (er_n rfl)) er_k) (by omega))) (by omega)) B3 (fun s σ' G' H' => ∃ x6, σ' = [some (.int cell), some (.int (many : Int)), some (.int base_), some (.ref l), some (.int s.rest), some (.int s.st), x6] ∧ Ml H G' H' l s.found)
      (fun G4 H4 g4 => ⟨none, rfl, ((ml.up g2).up g3).up g4⟩) ?_ ?_ ?_
    · rintro s σ' G' H' G3 H3 ⟨x6, rfl, ml⟩ g
      exact ⟨x6, rfl, ml.up g⟩
    · rintro Gb s k s' vx σ' G4 H4 _ ef hx _ B4 ⟨x6, rfl, ml⟩ rx N hN
      cases rx
      unfold drTurn at ef
      split at ef
      next hg =>
        obtain ⟨hs1, hs2, hs3⟩ := hg
        have hM : s.st < 2305843009213693951 := hs2
        refine q_asg (x := drNext s.st k) (er_mod (er_add (er_add (er_add (er_mulC (er_i rfl) (er_i rfl) (cm_l hs1 (by omega))) (er_mulC er_k (er_i rfl) (cm_l (by decide) (by decide)))) (er_int (er_n rfl))) er_k) er_k (by decide)) B4 fun v5 G5 H5 B5 g5 r5 => ?_
        cases r5
        refine s_if (b := decide ((2 : Int) < (k : Int)) && decide (0 < s.rest)) (et_and (et_test (er_gt (er_int (er_n rfl)) er_k)) fun _ => et_test (er_gt (er_i rfl) er_k)) B5 (fun hx G6 H6 B6 g6 => ?_) (fun hx G6 H6 B6 g6 => ?_)
        · rw [Bool.and_eq_true] at hx
          have c1 := of_decide_eq_true hx.1
          have c2 := of_decide_eq_true hx.2
          rw [if_pos ⟨by omega, c2⟩] at ef
          cases ef
          refine q_app ((ml.up g5).up g6) (ev_var rfl) (er_mod (er_i rfl) (er_i rfl) hb1) (by omega) B6 fun o G7 H7 g7 B7 ml7 => ?_
          refine s_asg (er_fdiv (er_i rfl) (er_i rfl) (cd_of hb1 hb2)) B7 fun v4 G8 H8 B8 g8 r8 => ?_
          cases r8
          exact hN _ _ ⟨G8, inferInstance, B8, _, rfl, ml7.up g8⟩
        · have hx : ¬ (2 < k ∧ 0 < s.rest) := fun z => by
            rw [decide_eq_true (show (2 : Int) < (k : Int) by omega), decide_eq_true z.2] at hx
            cases hx
          rw [if_neg hx] at ef
          refine s_when (et_test (er_gt (er_int (er_n rfl)) er_k)) B6 (fun hy G7 H7 B7 g7 => ?_) (fun hy G7 H7 B7 g7 => ?_)
          · have c1 := of_decide_eq_true hy
            rw [if_pos (by omega)] at ef
            cases ef
            refine s_app (((ml.up g5).up g6).up g7) (ev_var rfl) (er_mod (er_fdiv (er_i rfl) er_k (cd_of (by decide) (by decide))) (er_i rfl) hb1) (by omega) B7 fun o G8 H8 g8 B8 ml8 => ?_
            exact hN _ _ ⟨G8, inferInstance, B8, _, rfl, ml8⟩
          · have c1 := of_decide_eq_false hy
            rw [if_neg (by omega)] at ef
            cases ef
            exact hN _ _ ⟨G7, inferInstance, B7, _, rfl, ((ml.up g5).up g6).up g7⟩
      next => cases ef
    · rintro σ' G4 H4 _ B4 ⟨x6, rfl, ml⟩
      exact s_retM (ev_var rfl) B4 ml q
  next => cases e
theorem cal_law_best_good : Cal P w K mg base "_law_best_good" 1 ["prices", "weights", "amount"] (Sp3 bestGoodM) := by
  refine cal_of (T.fn 37 37) scLawBestGood (fun _ _ _ _ h => h.len) (fun _ _ _ _ _ _ _ us hl => match us, hl with | [_, _, _], _ => rfl) fun f cdv A outer s H vs Q E hr h => ?_
  obtain ⟨G, vp, vw, va, p, wt, amount, r, rfl, eG, rp, rw', ra, e, q⟩ := h
  cases ra
  unfold bestGoodM at e
  split at e
  next hl =>
    obtain ⟨best, h1, e⟩ := bnd e
    cases e
    refine ⟨_, (pss_cons (ps_set (i := 3) scLawBestGood.nd rfl (.inr rfl) pe_int)
  (pss_cons (ps_for PassesOwn.never rfl (pi_range1 rfl (m_range T) (pa_cons (pe_callB (k_len K) rfl (m_len T) bt_len (pa_cons (pv 0) pa_nil)) pa_nil)) (pg_name (i := 4) scLawBestGood.nd rfl (.inl rfl))
  (pss_cons (ps_set (i := 5) scLawBestGood.nd rfl (.inl rfl) (pe_op op_mul (pe_op op_add pe_int (pe_op op_mod (pe_ix (k_ixL K) (pv 1) (pv 4) (fun _ _ => rfl)) pe_int)) (pe_ix (k_ixL K) (pv 0) (pv 3) (fun _ _ => rfl))))
  (pss_one (ps_if (pt_cmpR op_gt (pv 5) (pe_op op_mul (pe_op op_add pe_int (pe_op op_mod (pe_ix (k_ixL K) (pv 1) (pv 3) (fun _ _ => rfl)) pe_int)) (pe_ix (k_ixL K) (pv 0) (pv 4) (fun _ _ => rfl))) (nomark _)) (pss_one (ps_set (i := 3) scLawBestGood.nd rfl (.inr rfl) (pv 4))) pss_nil))))
  (pss_one (ps_ret (pe_lc (own := [("k", 4)]) rfl scLawBestGood.nd  (pi_range1 rfl (m_range T) (pa_cons (pe_callB (k_len K) rfl (m_len T) bt_len (pa_cons (pv 0) pa_nil)) pa_nil)) (blkOk_by (N := ["prices", "weights", "amount", "best", "k", "one"]) (sc := defScope sLawBestGood) (by decide +kernel)) (fun _ _ _ _ _ => (pg_name (i := 4) scLawBestGood.nd rfl (.inl rfl))) (fun _ _ _ _ _ => pts_nil) (fun _ _ _ _ _ => (pe_op op_mul (pv 2) (pe_callTy call_intX rfl (m_int T) bt_int (pa_cons (pe_cmpR op_eq (pv 4) (pv 3) (nomark _)) pa_nil))))))))), ?_⟩
    refine q_asg (x := (0 : Nat)) (er_c rfl) (Gro.refl eG) fun v3 G1 H1 B1 g1 r3 => ?_
    cases r3
    refine q_for h1 (ei_range (er_len (er_var rfl rp)) (by omega)) B1 (fun s σ' G' H' => ∃ x4 x5, σ' = [some vp, some vw, some (.int amount), some (.int ((s : Nat) : Int)), x4, x5]) (fun G4 H4 g4 => ⟨none, none, rfl⟩) ?_ ?_ ?_
    · rintro s σ' G' H' G3 H3 ⟨x4, x5, rfl⟩ g
      exact ⟨x4, x5, rfl⟩
    · rintro Gb s k s' vx σ' G4 H4 _ ef hx _ B4 ⟨x4, x5, rfl⟩ rx N hN
      cases rx
      unfold bgTurn at ef
      obtain ⟨a, e1, ef⟩ := bnd ef
      obtain ⟨b, e2, ef⟩ := bnd ef
      obtain ⟨c, e3, ef⟩ := bnd ef
      obtain ⟨d, e4, ef⟩ := bnd ef
      cases ef
      refine q_asg (er_mulC (er_add er_k (er_mod (er_ixL (er_var rfl rw') (er_n rfl) e1) er_k (by decide))) (er_ixL (er_var rfl rp) (er_n rfl) e2) (cm_l (by omega) (by omega))) B4 fun v5 G5 H5 B5 g5 r5 => ?_
      cases r5
      refine s_when (et_test (er_gt (er_i rfl) (er_mulC (er_add er_k (er_mod (er_ixL (er_var rfl rw') (er_n rfl) e3) er_k (by decide))) (er_ixL (er_var rfl rp) (er_n rfl) e4) (cm_l (by omega) (by omega))))) B5 (fun hx G6 H6 B6 g6 => ?_) (fun hx G6 H6 B6 g6 => ?_)
      · rw [if_pos (of_decide_eq_true hx)] at hN
        refine s_asg (er_n (n := k) rfl) B6 fun v3 G7 H7 B7 g7 r7 => ?_
        cases r7
        exact hN _ _ ⟨G7, inferInstance, B7, _, _, rfl⟩
      · rw [if_neg (of_decide_eq_false hx)] at hN
        exact hN _ _ ⟨G6, inferInstance, B6, _, _, rfl⟩
    · rintro σ' G4 H4 _ B4 ⟨x4, x5, rfl⟩
      refine s_ret (er_new (en_lcn (f := fun k => some (some (amount * (if k = best then 1 else 0)))) (compO_map fun x _ => rfl) (ei_range (er_len (er_var rfl rp)) (by omega)) (by rw [List.length_map, List.length_range]; omega) (fun _ => rfl) ?_)) B4 q
      intro k o v G6 H6 eo hx g6 rv
      cases rv
      cases eo
      refine ⟨et_yes, fun y ey => ?_⟩
      cases ey
      exact er_is (er_mulC (er_i rfl) (er_intB (er_eqN (er_n rfl) (er_n rfl))) (cm_r (by split <;> omega) (by split <;> omega))) (by by_cases h : k = best <;> simp [h])
  next => cases e
end
end G3
end
/-! G3W10 -/
section
set_option Elab.async false
set_option linter.all false
set_option maxRecDepth 100000
set_option maxHeartbeats 8000000
/-! G3W10: walks: the law's book. -/
namespace G3
open PySem PySem.Spec PyProof.Rows L2
open Evl (Ex fresh_back)
open Rep (rep)
theorem scLawABook : FnScope ["script", "at", "most", "heads", "goods", "many", "far", "way", "book", "k", "picks", "prices", "some", "amounts", "buying", "pick", "amount", "price"] ["script", "at", "most"] (defScope sLawABook) := ⟨rfl, rfl, rfl, by decide +kernel, rfl, by decide +kernel, by decide +kernel⟩
/-- all but l stays -/
structure Oth (l : Addr) (G H G1 H1 : Hp) : Prop where
  ex : Ex G G1
  h : ∀ a o, a ≠ l → H a = some o → H1 a = some o
  g : ∀ a o, G1 a = some o → G a = some o ∨ H a = none
theorem Ml.othO {α : Type} [Rep α] {H0 G H G1 H1 : Hp} {l l2 : Addr} {xs : List α} (m : Ml H0 G H l xs) (o : Oth l2 G H G1 H1) (h : l ≠ l2) : Ml H0 G1 H1 l xs := by
  obtain ⟨vs, h1, h2⟩ := m.ex
  refine ⟨⟨vs, o.h _ _ h h1, h2.mono o.ex⟩, m.h0, ?_⟩
  cases q : G1 l with
  | none => rfl
  | some u =>
    rcases o.g l u q with z | z
    · rw [m.hG] at z; cases z
    · rw [h1] at z; cases z
/-- if c: l[j] = e -/
theorem q_ifSetL {α : Type} [Rep α] {σ : L2.St} {G H G0 H0 : Hp} {ta tb te : TE} {t : TT} {b : Bool} {xs : List α} {x : α} {l : Addr} {j : Nat} {D : Ends} {tz : TS} (m : Ml H0 G H l xs) (h : EvT t σ G H b) (B : Gro G0 H0 G H)
    (h1 : b = true → ∀ G1 H1, Gro G H G1 H1 → EvR te σ G1 H1 x ∧ EvV ta σ G1 H1 (.ref l) ∧ EvR tb σ G1 H1 j ∧ j < xs.length)
    (k : ∀ G1 H1, Gro G0 H0 G1 H1 → GSt G G1 → Oth l G H G1 H1 → Ml H0 G1 H1 l (if b = true then xs.set j x else xs) → tz D σ H1) : tSeq (tIfS t (tAsg te (gSub ta tb rSetL)) tNext) tz D σ H :=
  q_when h B (fun hb G1 H1 B1 g1 => by
    obtain ⟨e1, e2, e3, e4⟩ := h1 hb G1 H1 g1
    refine s_setL (m.up g1) e1 e2 e3 e4 B1 fun o G2 H2 g2 B2 m2 => ?_
    have gg := g1.trans g2
    refine k G2 _ B2 ⟨gg.g⟩ ⟨gg.g, fun a u ha hu => by rw [upd_ne ha]; exact gg.h _ _ hu, gg.new⟩ (by rw [if_pos hb]; exact m2))
  (fun hb G1 H1 B1 g1 => k G1 H1 B1 ⟨g1.g⟩ ⟨g1.g, fun a u _ hu => g1.h _ _ hu, g1.new⟩ (by rw [if_neg (by rw [hb]; decide)]; exact m.up g1))
theorem mem3 {x a b c : Int} {n : Nat} (h : [a, b, c][n]? = some x) : x = a ∨ x = b ∨ x = c := by
  match n, h with
  | 0, h => cases h; exact .inl rfl
  | 1, h => cases h; exact .inr (.inl rfl)
  | 2, h => cases h; exact .inr (.inr rfl)
  | n + 3, h => simp at h
theorem mem4 {x a b c d : Int} {n : Nat} (h : [a, b, c, d][n]? = some x) : x = a ∨ x = b ∨ x = c ∨ x = d := by
  match n, h with
  | 0, h => cases h; exact .inl rfl
  | 1, h => cases h; exact .inr (.inl rfl)
  | 2, h => cases h; exact .inr (.inr (.inl rfl))
  | 3, h => cases h; exact .inr (.inr (.inr rfl))
  | n + 4, h => simp at h
section
variable {P : Program} {w : World} {K : PySem.W.Frag} {mg : Str → Option Value} {base : Heap} (T : Top K mg)
include T
theorem cal_law_a_book : Cal P w K mg base "_law_a_book" 2 ["script", "at", "most"] (Sp3 (aBookM (K := K))) := by
  refine cal_of (T.fn 38 38) scLawABook (fun _ _ _ _ h => h.len) (fun _ _ _ _ _ _ _ us hl => match us, hl with | [_, _, _], _ => rfl) fun f cdv A outer s H vs Q E hr h => ?_
  obtain ⟨G, vs, va, vm, s, at_, most, r, rfl, eG, rs, ra, rm, e, q⟩ := h
  cases ra; cases rm
  unfold aBookM at e
  split at e
  next hm =>
    obtain ⟨heads, k1, e⟩ := bnd e
    obtain ⟨h0, k2, e⟩ := bnd e
    obtain ⟨h1, k3, e⟩ := bnd e
    obtain ⟨h2, k4, e⟩ := bnd e
    obtain ⟨h3, k5, e⟩ := bnd e
    obtain ⟨h4, k6, e⟩ := bnd e
    obtain ⟨h5, k7, e⟩ := bnd e
    obtain ⟨goods, k8, e⟩ := bnd e
    obtain ⟨many, k9, e⟩ := bnd e
    obtain ⟨far, k10, e⟩ := bnd e
    split at e
    next hgm =>
      obtain ⟨hg1, hg2, hm1, hm2⟩ := hgm
      have hfar : 0 < far ∧ far ≤ 1000000 := by rcases mem4 k10 with h | h | h | h <;> omega
      have hgoods : 0 < goods := by rcases mem3 k8 with h | h | h <;> omega
      obtain ⟨gn, rfl⟩ := Int.eq_ofNat_of_zero_le hg1
      obtain ⟨mn, rfl⟩ := Int.eq_ofNat_of_zero_le hm1
      have e : foldO (abTurn (s.ns.getD (at_ + 1) 0) heads gn far (h5 % 5)) [] (List.range mn) = some r := e
      refine ⟨_, (pss_cons (ps_set (i := 3) scLawABook.nd rfl (.inl rfl) (pe_cal (cal_law_draws T) hr rfl (pa_cons (pe_cal (cal_law_cell_at T) hr rfl (pa_cons (pv 0) (pa_cons (pv 1) pa_nil))) (pa_cons pe_int (pa_cons (pe_op op_pow pe_int pe_int) pa_nil)))))
  (pss_cons (ps_set (i := 4) scLawABook.nd rfl (.inl rfl) (pe_ix (k_ixL K) (pe_lst (pa_cons (pe_op op_add pe_int (pe_op op_mod (pe_ix (k_ixL K) (pv 3) pe_int (fun _ _ => rfl)) pe_int)) (pa_cons pe_int (pa_cons (pe_op op_add pe_int (pe_op op_mod (pe_ix (k_ixL K) (pv 3) pe_int (fun _ _ => rfl)) pe_int)) pa_nil)))) (pe_op op_mod (pe_ix (k_ixL K) (pv 3) pe_int (fun _ _ => rfl)) pe_int) (fun _ _ => rfl)))
  (pss_cons (ps_set (i := 5) scLawABook.nd rfl (.inl rfl) (pe_ix (k_ixL K) (pe_lst (pa_cons (pe_op op_add pe_int (pe_op op_mod (pe_ix (k_ixL K) (pv 3) pe_int (fun _ _ => rfl)) (pv 2))) (pa_cons (pe_op op_add pe_int (pe_op op_mod (pe_ix (k_ixL K) (pv 3) pe_int (fun _ _ => rfl)) (pe_callB (call_minX rfl) rfl (m_min T) bt_min (pa_cons (pv 2) (pa_cons pe_int pa_nil))))) pa_nil))) (pe_op op_fdivX (pe_op op_mod (pe_ix (k_ixL K) (pv 3) pe_int (fun _ _ => rfl)) pe_int) pe_int) (fun _ _ => rfl)))
  (pss_cons (ps_set (i := 6) scLawABook.nd rfl (.inr rfl) (pe_ix (k_ixL K) (pe_lst (pa_cons pe_int (pa_cons pe_int (pa_cons pe_int (pa_cons (pe_op op_pow pe_int pe_int) pa_nil))))) (pe_op op_mod (pe_ix (k_ixL K) (pv 3) pe_int (fun _ _ => rfl)) pe_int) (fun _ _ => rfl)))
  (pss_cons (ps_set (i := 7) scLawABook.nd rfl (.inl rfl) (pe_op op_mod (pe_ix (k_ixL K) (pv 3) pe_int (fun _ _ => rfl)) pe_int))
  (pss_cons (ps_set (i := 8) scLawABook.nd rfl (.inl rfl) (pe_lst pa_nil))
  (pss_cons (ps_for PassesOwn.never rfl (pi_range1 rfl (m_range T) (pa_cons (pv 5) pa_nil)) (pg_name (i := 9) scLawABook.nd rfl (.inl rfl))
  (pss_cons (ps_set (i := 10) scLawABook.nd rfl (.inl rfl) (pe_cal (cal_law_draws T) hr rfl (pa_cons (pe_op op_add (pe_cal (cal_law_cell_at T) hr rfl (pa_cons (pv 0) (pa_cons (pe_op op_add (pv 1) pe_int) pa_nil))) (pe_op op_mul (pv 9) (pe_op op_add (pe_ix (k_ixL K) (pv 3) pe_int (fun _ _ => rfl)) pe_int))) (pa_cons pe_int (pa_cons (pe_op op_pow pe_int pe_int) pa_nil)))))
  (pss_cons (ps_setLc (i := 11) (own := [("pick", 15)]) rfl scLawABook.nd rfl rfl (sw_true rfl rfl rfl (by decide +kernel)) (k_piL K (pe_slice (k_slL K) (pv 10) po_none (po_some (pv 4)))) (blkOk_by (N := ["script", "at", "most", "heads", "goods", "many", "far", "way", "book", "k", "picks", "prices", "some", "amounts", "buying", "pick", "amount", "price"]) (sc := defScope sLawABook) (by decide +kernel)) (fun _ _ _ _ _ => (pg_name (i := 15) scLawABook.nd rfl (.inl rfl))) (fun _ _ _ _ _ => pts_nil) (fun _ _ _ _ _ => (pe_op op_add pe_int (pe_op op_mod (pv 15) (pv 6)))))
  (pss_cons (ps_set (i := 12) scLawABook.nd rfl (.inl rfl) (pe_slice (k_slL K) (pv 10) (po_some pe_int) (po_some (pe_op op_add pe_int (pv 4)))))
  (pss_cons (ps_setLc (i := 13) (own := [("pick", 15)]) rfl scLawABook.nd rfl rfl (sw_true rfl rfl rfl (by decide +kernel)) (k_piL K (pv 12)) (blkOk_by (N := ["script", "at", "most", "heads", "goods", "many", "far", "way", "book", "k", "picks", "prices", "some", "amounts", "buying", "pick", "amount", "price"]) (sc := defScope sLawABook) (by decide +kernel)) (fun _ _ _ _ _ => (pg_name (i := 15) scLawABook.nd rfl (.inl rfl))) (fun _ _ _ _ _ => pts_nil) (fun _ _ _ _ _ => (pe_op op_mul (pe_op op_mod (pv 15) (pe_op op_add (pv 6) pe_int)) (pe_callTy call_intX rfl (m_int T) bt_int (pa_cons (pe_cmpR op_gt (pe_op op_mod (pv 15) pe_int) pe_int (nomark _)) pa_nil)))))
  (pss_cons (ps_if (pt_cmpR op_eq (pv 7) pe_int (nomark _)) (pss_one (ps_set (i := 13) scLawABook.nd rfl (.inl rfl) (pe_cal (cal_law_best_good T) hr rfl (pa_cons (pv 11) (pa_cons (pe_slice (k_slL K) (pv 3) (po_some pe_int) (po_some (pe_op op_add pe_int (pv 4)))) (pa_cons (pe_op op_add pe_int (pe_op op_mod (pe_ix (k_ixL K) (pv 10) pe_int (fun _ _ => rfl)) (pv 6))) pa_nil)))))) pss_nil)
  (pss_cons (ps_if (pt_cmpR op_eq (pv 7) pe_int (nomark _)) (pss_one (ps_setLc (i := 13) (own := [("price", 17)]) rfl scLawABook.nd rfl rfl (sw_true rfl rfl rfl (by decide +kernel)) (k_piL K (pv 11)) (blkOk_by (N := ["script", "at", "most", "heads", "goods", "many", "far", "way", "book", "k", "picks", "prices", "some", "amounts", "buying", "pick", "amount", "price"]) (sc := defScope sLawABook) (by decide +kernel)) (fun _ _ _ _ _ => (pg_name (i := 17) scLawABook.nd rfl (.inl rfl))) (fun _ _ _ _ _ => pts_nil) (fun _ _ _ _ _ => (pe_op op_sub (pe_op op_add (pv 6) pe_int) (pv 17))))) pss_nil)
  (pss_cons (ps_if (pt_cmpR op_eq (pe_op op_mod (pe_ix (k_ixL K) (pv 10) pe_int (fun _ _ => rfl)) pe_int) pe_int (nomark _)) (pss_one (ps_setLc (i := 13) (own := [("pick", 15)]) rfl scLawABook.nd rfl rfl (sw_true rfl rfl rfl (by decide +kernel)) (k_piL K (pe_slice (k_slL K) (pv 10) (po_some pe_int) (po_some (pe_op op_add pe_int (pv 4))))) (blkOk_by (N := ["script", "at", "most", "heads", "goods", "many", "far", "way", "book", "k", "picks", "prices", "some", "amounts", "buying", "pick", "amount", "price"]) (sc := defScope sLawABook) (by decide +kernel)) (fun _ _ _ _ _ => (pg_name (i := 15) scLawABook.nd rfl (.inl rfl))) (fun _ _ _ _ _ => pts_nil) (fun _ _ _ _ _ => (pe_op op_mod (pv 15) (pv 6))))) pss_nil)
  (pss_cons (ps_setLc (i := 13) (own := [("amount", 16)]) rfl scLawABook.nd rfl rfl (sw_true rfl rfl rfl (by decide +kernel)) (k_piL K (pv 13)) (blkOk_by (N := ["script", "at", "most", "heads", "goods", "many", "far", "way", "book", "k", "picks", "prices", "some", "amounts", "buying", "pick", "amount", "price"]) (sc := defScope sLawABook) (by decide +kernel)) (fun _ _ _ _ _ => (pg_name (i := 16) scLawABook.nd rfl (.inl rfl))) (fun _ _ _ _ _ => pts_nil) (fun _ _ _ _ _ => (pe_callB (call_minX rfl) rfl (m_min T) bt_min (pa_cons (pe_op op_pow pe_int pe_int) (pa_cons (pv 16) pa_nil)))))
  (pss_cons (ps_if (pt_cmpR op_eq (pe_callB (k_max K rfl) rfl (m_max T) bt_max (pa_cons (pv 13) pa_nil)) pe_int (nomark _)) (pss_one (ps_asg pe_int (pg_sub (pv 13) (pe_op op_mod (pe_ix (k_ixL K) (pv 10) pe_int (fun _ _ => rfl)) (pv 4)) set_list))) pss_nil)
  (pss_cons (ps_set (i := 14) scLawABook.nd rfl (.inl rfl) (pe_tup (pa_cons (pe_callTy (k_tuple K) rfl (m_tuple T) bt_tuple (pa_cons (pv 11) pa_nil)) (pa_cons (pe_callTy (k_tuple K) rfl (m_tuple T) bt_tuple (pa_cons (pv 13) pa_nil)) pa_nil))))
  (pss_cons (ps_if (PW.pt (pw_and (pt_cmpR (k_neD K hr.units) (pv 8) (pe_lst pa_nil) (nomark _)) (pw_and1 (pt_cmpR op_eq (pe_op op_mod (pe_op op_fdivX (pe_ix (k_ixL K) (pv 10) pe_int (fun _ _ => rfl)) pe_int) pe_int) pe_int (nomark _))))) (pss_one (ps_set (i := 14) scLawABook.nd rfl (.inl rfl) (pe_tup (pa_cons (pe_ix (k_ixT K) (pv 14) pe_int (fun _ _ => rfl)) (pa_cons (pe_ix (k_ixT K) (pe_ix (k_ixL K) (pv 8) (pe_op op_mod (pe_op op_fdivX (pe_ix (k_ixL K) (pv 10) pe_int (fun _ _ => rfl)) pe_int) (pe_callB (k_len K) rfl (m_len T) bt_len (pa_cons (pv 8) pa_nil))) (fun _ _ => rfl)) pe_int (fun _ _ => rfl)) pa_nil))))) pss_nil)
  (pss_one (ps_expr (pe_bm PySem.F.plainAttrs_list PySem.F.slot_list_append PySem.F.type_list_append mt_append (pv 8) (pa_cons (pv 14) pa_nil))))))))))))))))
  (pss_one (ps_ret (pv 8)))))))))), ?_⟩
      refine q_asg (er_call3 (er_call2 (er_var rfl rs) (er_n rfl) rfl) (er_c (x := (12 : Nat)) rfl) er_p6 k1) (Gro.refl eG) fun v3 G1 H1 B1 g1 rh => ?_
      refine q_asg (er_ixLi (j := (h1 % 3).toNat) (er_new (en_lst (xs := [1 + h0 % 6, 2, 2 + h0 % 2]) (el_cons (er_add er_k (er_mod (er_ixL (er_var rfl rh) (er_c (x := (0 : Nat)) rfl) k2) er_k (by decide))) (el_cons er_k (el_cons (er_add er_k (er_mod (er_ixL (er_var rfl rh) (er_c (x := (0 : Nat)) rfl) k2) er_k (by decide))) el_nil))) (by simp)))
        (er_mod (er_ixL (er_var rfl rh) (er_c (x := (1 : Nat)) rfl) k3) er_k (by decide)) (by omega) k8) B1 fun v4 G2 H2 B2 g2 r4 => ?_
      cases r4
      have hd : ∀ {ta : TE} {σ : L2.St} {G H : Hp} {x : Int}, EvR ta σ G H (x % 3) → EvR (tOp (rI CDivX fun i j => .int (i.fdiv j)) ta (tC (.int 2))) σ G H ((x % 3).fdiv 2) := fun h => er_fdiv h er_k (cd_of (by decide) (by decide))
      have hnn : 0 ≤ (h3 % 3).fdiv 2 := Int.fdiv_nonneg (Int.emod_nonneg _ (by decide)) (by decide)
      refine q_asg (er_ixLi (j := ((h3 % 3).fdiv 2).toNat) (er_new (en_lst (xs := [1 + h2 % (most : Int), 1 + h2 % (if (4 : Int) < (most : Int) then 4 else (most : Int))]) (el_cons (er_add er_k (er_mod (er_ixL (er_var rfl rh) (er_c (x := (2 : Nat)) rfl) k4) (er_int (er_n rfl)) (by omega))) (el_cons (er_add er_k (er_mod (er_ixL (er_var rfl rh) (er_c (x := (2 : Nat)) rfl) k4) (er_min2 (er_int (er_n rfl)) er_k) (by split <;> omega))) el_nil)) (by simp)))
        (hd (er_mod (er_ixL (er_var rfl rh) (er_c (x := (3 : Nat)) rfl) k5) er_k (by decide))) (by omega) k9) B2 fun v5 G3 H3 B3 g3 r5 => ?_
      cases r5
      refine q_asg (er_ixLi (j := (h4 % 4).toNat) (er_new (en_lst (xs := [3, 9, 60, 1000000]) (el_cons er_k (el_cons er_k (el_cons er_k (el_cons er_p6 el_nil)))) (by simp))) (er_mod (er_ixL (er_var rfl rh) (er_c (x := (4 : Nat)) rfl) k6) er_k (by decide)) (by omega) k10) B3 fun v6 G4 H4 B4 g4 r6 => ?_
      cases r6
      refine q_asg (er_mod (er_ixL (er_var rfl rh) (er_c (x := (5 : Nat)) rfl) k7) er_k (by decide)) B4 fun v7 G5 H5 B5 g5 r7 => ?_
      cases r7
      refine q_asgN (xs := ([] : Book)) (en_lst el_nil (Nat.zero_le _)) B5 fun l G6 H6 B6 g6 ml _ => ?_
      refine q_for e (ei_range (er_n (n := mn) rfl) (by omega)) B6 (fun bk σ' G' H' => ∃ x9 x10 x11 x12 x13 x14, σ' = [some vs, some (.int (at_ : Int)), some (.int (most : Int)), some v3, some (.int (gn : Int)), some (.int (mn : Int)), some (.int far), some (.int (h5 % 5)), some (.ref l), x9, x10, x11, x12, x13, x14, none, none, none] ∧ Ml H G' H' l bk)
        (fun G7 H7 g7 => ⟨none, none, none, none, none, none, rfl, ml.up g7⟩) ?_ ?_ ?_
      · rintro bk σ' G' H' G3 H3 ⟨x9, x10, x11, x12, x13, x14, rfl, ml⟩ g
        exact ⟨x9, x10, x11, x12, x13, x14, rfl, ml.up g⟩
      · rintro Gb bk k s' vx σ' G7 H7 _ ef hx _ B7 ⟨x9, x10, x11, x12, x13, x14, rfl, ml⟩ rx N hN
        cases rx
        have hk := List.mem_range.mp hx
        unfold abTurn at ef
        obtain ⟨h6, j1, ef⟩ := bnd ef
        obtain ⟨picks, j2, ef⟩ := bnd ef
        obtain ⟨amts, j3, ef⟩ := bnd ef
        obtain ⟨p13, j4, ef⟩ := bnd ef
        obtain ⟨bu, j5, ef⟩ := bnd ef
        obtain ⟨hz, rfl⟩ := snocM_inv ef
        unfold abAmounts at j3
        obtain ⟨p12, i1, j3⟩ := bnd j3
        obtain ⟨p13', i2, j3⟩ := bnd j3
        obtain rfl : p13' = p13 := Option.some.inj (i2.symm.trans j4)
        obtain ⟨a1, i3, j3⟩ := bnd j3
        obtain ⟨mx, i4, j3⟩ := bnd j3
        refine q_asg (er_call3 (er_add (er_call2 (er_var rfl rs) (er_nat (er_is (er_add (er_int (er_n (n := at_) rfl)) er_k) (show (at_ : Int) + 1 = ((at_ + 1 : Nat) : Int) by omega))) rfl) (er_mulC (er_int (er_n (n := k) rfl)) (er_add (er_ixL (er_var rfl rh) (er_c (x := (6 : Nat)) rfl) j1) er_k) (cm_l (by omega) (by omega)))) (er_c (x := (14 : Nat)) rfl) er_p9 j2) B7 fun v10 G8 H8 B8 g8 rp => ?_
        have m8 := ml.up g8
        -- prices
        have hsl : ∀ {σ : L2.St} {G H : Hp}, EvR (tVar 10) σ G H picks → EvR (tVar 4) σ G H gn → EvR (tSl (rSlL K) (tVar 10) tNoPart (tPart (tVar 4))) σ G H (picks.take gn) := fun a b => er_is (er_new (en_slL a eo_none (eo_some (er_int b)))) (cut_hi picks gn)
        have hsl2 : ∀ {i : Nat} {xs : List Int} {σ : L2.St} {G H : Hp}, EvR (tVar i) σ G H xs → EvR (tVar 4) σ G H gn → EvR (tSl (rSlL K) (tVar i) (tPart (tC (.int 6))) (tPart (tOp (rI0 fun i j => .int (i + j)) (tC (.int 6)) (tVar 4)))) σ G H ((xs.drop 6).take gn) := fun {i xs _ _ _} a b => er_is (er_new (en_slL a (eo_some (er_c (x := (6 : Int)) rfl)) (eo_some (er_is (er_add (er_c (x := (6 : Int)) rfl) (er_int b)) (show (6 : Int) + (gn : Int) = ((6 + gn : Nat) : Int) by omega))))) (cut_lohi xs 6 gn)
        refine q_asg (x := (picks.take gn).map fun pick => 1 + pick % far) (er_new (en_lcn (f := fun pick => some (some (1 + pick % far))) (compO_map fun x _ => rfl) (ei_list (hsl (er_var rfl rp) (er_n rfl))) (by rw [List.length_map, List.length_take]; omega) (fun _ => rfl) ?_)) B8 fun v11 G9 H9 B9 g9 rpr => ?_
        · intro pick o v G6 H6 eo hx g6 rv
          cases rv; cases eo
          refine ⟨et_yes, fun y ey => ?_⟩
          cases ey
          exact er_add er_k (er_mod (er_i rfl) (er_i rfl) hfar.1)
        refine q_asg (hsl2 (er_var rfl rp) (er_n rfl)) B9 fun v12 G10 H10 B10 g10 rso => ?_
        have hsolen : ((picks.drop 6).take gn).length ≤ 1000 := by rw [List.length_take]; omega
        -- amounts
        refine q_asg (x := ((picks.drop 6).take gn).map fun pick => pick % (far + 1) * (if 0 < pick % 5 then 1 else 0)) (er_new (en_lcn (f := fun pick => some (some (pick % (far + 1) * (if 0 < pick % 5 then 1 else 0)))) (compO_map fun x _ => rfl) (ei_list (er_var rfl rso)) (by rw [List.length_map]; omega) (fun _ => rfl) ?_)) B10 fun v13 G11 H11 B11 g11 ra0 => ?_
        · intro pick o v G6 H6 eo hx g6 rv
          cases rv; cases eo
          refine ⟨et_yes, fun y ey => ?_⟩
          cases ey
          exact er_is (er_mulC (er_mod (er_i rfl) (er_add (er_i rfl) er_k) (by omega)) (er_intB (er_gt (er_mod (er_i rfl) er_k (by decide)) er_k)) (cm_r (by split <;> omega) (by split <;> omega))) (by by_cases h : 0 < pick % 5 <;> simp [h])
        refine q_ifSet (x := a1) (et_test (er_eqI (er_i rfl) er_k)) B11 rfl ra0 (fun hb => ?_) fun v13b G12 H12 B12 g12 ra1 => ?_
        · rw [if_pos (of_decide_eq_true hb)] at i3
          exact er_call3 (er_var rfl rpr) (hsl2 (er_var rfl rh) (er_n rfl)) (er_add er_k (er_mod (er_ixL (er_var rfl rp) (er_c (x := (12 : Nat)) rfl) i1) (er_i rfl) hfar.1)) i3
        have hb1 : (if decide (h5 % 5 = 1) = true then a1 else ((picks.drop 6).take gn).map fun pick => pick % (far + 1) * (if 0 < pick % 5 then 1 else 0)) = a1 := by
          by_cases h : h5 % 5 = 1
          · rw [decide_eq_true h]; rfl
          · rw [if_neg h] at i3; rw [decide_eq_false h]; exact Option.some.inj i3
        rw [hb1] at ra1
        refine q_ifSet (x := ((picks.take gn).map fun pick => 1 + pick % far).map fun price => far + 1 - price) (et_test (er_eqI (er_i rfl) er_k)) B12 rfl ra1 (fun hb => er_new (en_lcn (f := fun price => some (some (far + 1 - price))) (compO_map fun x _ => rfl) (ei_list (er_var rfl rpr)) (by rw [List.length_map, List.length_map, List.length_take]; omega) (fun _ => rfl) ?_)) fun v13c G13 H13 B13 g13 ra2 => ?_
        · intro pick o v G6 H6 eo hx g6 rv
          cases rv; cases eo
          refine ⟨et_yes, fun y ey => ?_⟩
          cases ey
          exact er_sub (er_add (er_i rfl) er_k) (er_i rfl)
        refine q_ifSet (x := ((picks.drop 6).take gn).map fun pick => pick % far) (et_test (er_eqI (er_mod (er_ixL (er_var rfl rp) (er_c (x := (13 : Nat)) rfl) j4) er_k (by decide)) er_k)) B13 rfl ra2 (fun hb => er_new (en_lcn (f := fun pick => some (some (pick % far))) (compO_map fun x _ => rfl) (ei_list (hsl2 (er_var rfl rp) (er_n rfl))) (by rw [List.length_map]; omega) (fun _ => rfl) ?_)) fun v13d G14 H14 B14 g14 ra3 => ?_
        · intro pick o v G6 H6 eo hx g6 rv
          cases rv; cases eo
          refine ⟨et_yes, fun y ey => ?_⟩
          cases ey
          exact er_mod (er_i rfl) (er_i rfl) hfar.1
        have hif : ∀ (c : Prop) [Decidable c] (x y : List Int), (if decide c = true then x else y) = if c then x else y := fun c _ x y => by by_cases h : c <;> simp [h]
        rw [hif] at ra3
        rw [hif] at ra3
        generalize ha3 : (if p13' % 9 = 0 then ((picks.drop 6).take gn).map (fun pick => pick % far) else if h5 % 5 = 2 then ((picks.take gn).map fun pick => 1 + pick % far).map (fun price => far + 1 - price) else a1) = a3 at ra3
        have i4 : maxI (a3.map fun amount => if amount < 1000000 then amount else 1000000) = some mx := by rw [← ha3]; exact i4
        have j3 : (if mx = 0 then (if ((p12 % (gn : Int)).toNat) < (a3.map fun amount => if amount < 1000000 then amount else 1000000).length then some ((a3.map fun amount => if amount < 1000000 then amount else 1000000).set ((p12 % (gn : Int)).toNat) 1) else none) else some (a3.map fun amount => if amount < 1000000 then amount else 1000000)) = some amts := by rw [← ha3]; exact j3
        have ha1l : a1.length ≤ 1000 := by
          by_cases h : h5 % 5 = 1
          · rw [if_pos h] at i3
            unfold bestGoodM at i3
            split at i3
            next hp =>
              obtain ⟨best, _, i3⟩ := bnd i3
              cases i3
              rw [List.length_map, List.length_range]; exact hp
            next => cases i3
          · rw [if_neg h] at i3
            cases i3
            rw [List.length_map]; exact hsolen
        have ha3l : a3.length ≤ 100000 := by
          rw [← ha3]
          split
          · rw [List.length_map]; omega
          · split
            · rw [List.length_map, List.length_map, List.length_take]; omega
            · omega
        refine q_asgN (xs := a3.map fun amount => if amount < 1000000 then amount else 1000000) (en_lcn (f := fun amount => some (some (if amount < 1000000 then amount else 1000000))) (compO_map fun x _ => rfl) (ei_list (er_var rfl ra3)) (by rw [List.length_map]; exact ha3l) (fun _ => rfl) ?_) B14 fun l2 G15 H15 B15 g15 m2 hl2 => ?_
        · intro pick o v G6 H6 eo hx g6 rv
          cases rv; cases eo
          refine ⟨et_yes, fun y ey => ?_⟩
          cases ey
          exact er_min2 er_p6 (er_i rfl)
        have m14 := (((((m8.up g9).up g10).up g11).up g12).up g13).up g14
        have hne : l ≠ l2 := m14.ne hl2
        have m15 := m14.up g15
        refine q_ifSetL (x := (1 : Int)) (j := (p12 % (gn : Int)).toNat) m2 (et_test (er_eqI (er_maxM m2 (ev_var rfl) i4) er_k)) B15 (fun hb G16 H16 g16 => ⟨er_k, ev_var rfl, er_nat (er_is (er_mod (er_ixL (er_var rfl rp) (er_c (x := (12 : Nat)) rfl) i1) (er_int (er_n rfl)) (by omega)) (by have := Int.emod_nonneg p12 (show (gn : Int) ≠ 0 by omega); omega)), ?_⟩) fun G16 H16 B16 st16 oth16 m16 => ?_
        · rw [if_pos (of_decide_eq_true hb)] at j3
          split at j3
          · assumption
          · cases j3
        have hamts : (if decide (mx = 0) = true then (a3.map fun amount => if amount < 1000000 then amount else 1000000).set ((p12 % (gn : Int)).toNat) 1 else a3.map fun amount => if amount < 1000000 then amount else 1000000) = amts := by
          by_cases h : mx = 0
          · rw [if_pos h] at j3
            rw [decide_eq_true h]
            split at j3
            · exact Option.some.inj j3
            · cases j3
          · rw [if_neg h] at j3
            rw [decide_eq_false h]
            exact Option.some.inj j3
        rw [hamts] at m16
        have mb16 := m15.othO oth16 hne
        refine q_asg (x := ((⟨(picks.take gn).map fun pick => 1 + pick % far⟩, ⟨amts⟩) : Buy)) (er_tup2 (er_tupOf (er_var rfl rpr)) (er_tupM m16 (ev_var rfl))) B16 fun v14 G17 H17 B17 g17 rbu => ?_
        have mb17 := mb16.up g17
        refine q_ifSet (x := bu) (b := !bk.isEmpty && decide (p13'.fdiv 9 % 7 = 0)) (et_and (et_test (er_neNilM mb17 (ev_var rfl) (by decide))) fun _ => et_test (er_eqI (er_mod (er_fdiv (er_ixL (er_var rfl rp) (er_c (x := (13 : Nat)) rfl) j4) er_k (cd_of (by decide) (by decide))) er_k (by decide)) er_k)) B17 rfl rbu (fun hb => ?_) fun v14b G18 H18 B18 g18 rbu2 => ?_
        · rw [Bool.and_eq_true] at hb
          obtain ⟨hb1, hb2⟩ := hb
          have hbk : bk ≠ [] := by intro z; subst z; cases hb1
          have j5 : (if bk ≠ [] ∧ p13'.fdiv 9 % 7 = 0 then (bk[((p13'.fdiv 63) % (bk.length : Int)).toNat]?).bind fun o => some ((⟨(picks.take gn).map fun pick => 1 + pick % far⟩, o.2) : Buy) else some (⟨(picks.take gn).map fun pick => 1 + pick % far⟩, ⟨amts⟩)) = some bu := j5
          rw [if_pos ⟨hbk, of_decide_eq_true hb2⟩] at j5
          obtain ⟨o, j6, j5⟩ := bnd j5
          cases j5
          have hpos : 0 < bk.length := List.length_pos_iff.mpr hbk
          exact er_tup2 (er_ix0 (er_var rfl rbu)) (er_ix1 (er_mAt mb17 (ev_var rfl) (er_nat (er_is (er_mod (er_fdiv (er_ixL (er_var rfl rp) (er_c (x := (13 : Nat)) rfl) j4) er_k (cd_of (by decide) (by decide))) (er_int (er_lenM mb17 (ev_var rfl))) (by omega)) (by
            have := Int.emod_nonneg (p13'.fdiv 63) (show (bk.length : Int) ≠ 0 by omega)
            omega))) j6))
        have hbu : (if (!bk.isEmpty && decide (p13'.fdiv 9 % 7 = 0)) = true then bu else ((⟨(picks.take gn).map fun pick => 1 + pick % far⟩, ⟨amts⟩) : Buy)) = bu := by
          have j5 : (if bk ≠ [] ∧ p13'.fdiv 9 % 7 = 0 then (bk[((p13'.fdiv 63) % (bk.length : Int)).toNat]?).bind fun o => some ((⟨(picks.take gn).map fun pick => 1 + pick % far⟩, o.2) : Buy) else some (⟨(picks.take gn).map fun pick => 1 + pick % far⟩, ⟨amts⟩)) = some bu := j5
          by_cases h : bk ≠ [] ∧ p13'.fdiv 9 % 7 = 0
          · have : (!bk.isEmpty && decide (p13'.fdiv 9 % 7 = 0)) = true := by
              rw [decide_eq_true h.2]
              cases bk with
              | nil => exact absurd rfl h.1
              | cons a t => rfl
            rw [if_pos this]
          · have : ¬ (!bk.isEmpty && decide (p13'.fdiv 9 % 7 = 0)) = true := by
              intro z
              rw [Bool.and_eq_true] at z
              refine h ⟨?_, of_decide_eq_true z.2⟩
              intro y; subst y; cases z.1
            rw [if_neg this]
            rw [if_neg h] at j5
            exact Option.some.inj j5
        rw [hbu] at rbu2
        refine s_app (mb17.up g18) (ev_var rfl) (er_var rfl rbu2) (by omega) B18 fun o G19 H19 g19 B19 m19 => ?_
        exact hN _ _ ⟨G19, inferInstance, B19, _, _, _, _, _, _, rfl, m19⟩
      · rintro σ' G7 H7 _ B7 ⟨x9, x10, x11, x12, x13, x14, rfl, ml⟩
        exact s_retM (ev_var rfl) B7 ml q
    next => cases e
  next => cases e
end
end G3
end
/-! G3Base9 -/
section
set_option Elab.async false
set_option linter.all false
set_option maxRecDepth 100000
set_option maxHeartbeats 4000000
/-! G3Base9: three lists that grow; unpacking a list of three. -/
namespace G3
open PySem PySem.Spec PyProof.Rows L2
open Evl (Ex fresh_back)
open Rep (rep)
section
variable {α β : Type} [Rep α] {K : PySem.W.Frag} {σ : L2.St} {G H G0 H0 : Hp} {ta tb te : TE} {l : Addr} {as : List Addr} {m : List (List α)} {x : α} {r : List α} {i : Nat} {D : Ends} {tz : TS} {Q : L2.St → Hp → Prop} {v : V}
/-- found = [[], [], []] -/
theorem q_asgMM3 {i : Nat} (B : Gro G0 H0 G H) (k : ∀ l as G1 H1, Gro G0 H0 G1 H1 → GSt G G1 → Mm (α := α) H0 G1 H1 l as [[], [], []] → tz D (σ.set i (some (.ref l))) H1) :
    tSeq (tAsg (tLst (tCons (tLst tNil) (tCons (tLst tNil) (tCons (tLst tNil) tNil)))) (gName i)) tz D σ H := by
  refine ⟨Nat.zero_le _, fun a ha => ?_⟩
  have g1 : Gro G H G (upd H a (.lst [])) := Gro.fresh B.sub ha
  refine ⟨Nat.zero_le _, fun b hb => ?_⟩
  have g2 : Gro G (upd H a (.lst [])) G (upd (upd H a (.lst [])) b (.lst [])) := Gro.fresh g1.sub hb
  refine ⟨Nat.zero_le _, fun c hc => ?_⟩
  have g3 : Gro G (upd (upd H a (.lst [])) b (.lst [])) G (upd (upd (upd H a (.lst [])) b (.lst [])) c (.lst [])) := Gro.fresh g2.sub hc
  refine ⟨by show 3 ≤ sizeLine; decide, fun l hl => ?_⟩
  have g4 : Gro G (upd (upd (upd H a (.lst [])) b (.lst [])) c (.lst [])) G (upd (upd (upd (upd H a (.lst [])) b (.lst [])) c (.lst [])) l (.lst [.ref a, .ref b, .ref c])) := Gro.fresh g3.sub hl
  have hba : b ≠ a := fun z => by rw [z, upd_same] at hb; cases hb
  have hcb : c ≠ b := fun z => by rw [z, upd_same] at hc; cases hc
  have hca : c ≠ a := fun z => by rw [z, upd_ne hba.symm, upd_same] at hc; cases hc
  have hlc : l ≠ c := fun z => by rw [z, upd_same] at hl; cases hl
  have hlb : l ≠ b := fun z => by rw [z, upd_ne hcb.symm, upd_same] at hl; cases hl
  have hla : l ≠ a := fun z => by rw [z, upd_ne hca.symm, upd_ne hba.symm, upd_same] at hl; cases hl
  have hgg := ((g1.trans g2).trans g3).trans g4
  have n0 : ∀ {p}, H p = none → H0 p = none := fun h => fresh_back B.h h
  have nb : H b = none := by rw [upd_ne hba] at hb; exact hb
  have nc : H c = none := by rw [upd_ne hcb, upd_ne hca] at hc; exact hc
  have nl : H l = none := by rw [upd_ne hlc, upd_ne hlb, upd_ne hla] at hl; exact hl
  refine k l [a, b, c] G _ (B.trans hgg) ⟨Ex.refl G⟩ ⟨upd_same, n0 nl, none_sub B.sub nl, ?_, ?_, rfl, ?_⟩
  · simp [hba.symm, hca.symm, hcb.symm]
  · simp [hla, hlb, hlc]
  · intro n p r h1 h2
    match n, h1, h2 with
    | 0, h1, h2 => cases h1; cases h2; exact ⟨⟨[], by rw [upd_ne hla.symm, upd_ne hca.symm, upd_ne hba.symm, upd_same], .nil⟩, n0 ha, none_sub B.sub ha⟩
    | 1, h1, h2 => cases h1; cases h2; exact ⟨⟨[], by rw [upd_ne hlb.symm, upd_ne hcb.symm, upd_same], .nil⟩, n0 nb, none_sub B.sub nb⟩
    | 2, h1, h2 => cases h1; cases h2; exact ⟨⟨[], by rw [upd_ne hlc.symm, upd_same], .nil⟩, n0 nc, none_sub B.sub nc⟩
    | n + 3, h1, h2 => simp at h1
/-- m[i].append(e) -/
theorem s_appMM (q : Mm H0 G H l as m) (ha : EvV ta σ G H (.ref l)) (hb : EvR tb σ G H i) (hr : m[i]? = some r) (h : EvR te σ G H x) (hz : r.length < 100000) (B : Gro G0 H0 G H)
    (k : ∀ a o G1 H1, Gro G H G1 H1 → Gro G0 H0 G1 (upd H1 a o) → Mm H0 G1 (upd H1 a o) l as (m.set i (r ++ [x])) → D.nx σ (upd H1 a o)) : tDrop (tBM K "list" rAppend (tOp (rIxL K) ta tb) (tCons te tNil)) D σ H := by
  obtain ⟨hi', er⟩ := List.getElem?_eq_some_iff.mp hr
  have hi : i < as.length := by rw [q.len]; exact hi'
  refine ha G H (Gro.refl B.sub) _ fun G2 H2 g2 => hb G2 H2 g2 _ fun v G3 H3 g3 r3 => ?_
  cases r3
  have gg := g2.trans g3
  refine ⟨l, as.map V.ref, i, .ref as[i], rfl, rfl, SqL.of (gg.h _ _ q.ex), atI_nat (by rw [List.getElem?_map, List.getElem?_eq_getElem hi]; rfl), ?_⟩
  have ml := (q.ml i _ r (List.getElem?_eq_getElem hi) hr).up gg
  obtain ⟨ws, f1, f2⟩ := ml.ex
  refine ⟨.inl ⟨rfl, ws, SqL.of f1⟩, h G3 H3 gg _ fun w G4 H4 g4 r4 => ?_⟩
  have g5 := gg.trans g4
  have q5 := q.up g5
  have ml5 := ml.up g4
  refine ⟨as[i], ws, w, rfl, rfl, g4.h _ _ f1, by rw [f2.length]; exact Nat.lt_of_lt_of_le hz (by decide), k as[i] (.lst (ws ++ [w])) G4 H4 g5 ((B.trans g5).mut ml5.h0 ml5.hG) ⟨?_, q5.h0, q5.hG, q5.nd, q5.out, ?_, ?_⟩⟩
  · rw [upd_ne (fun z => q5.out (by rw [z]; exact List.getElem_mem hi))]; exact q5.ex
  · rw [List.length_set]; exact q5.len
  · intro i2 a2 r2 h1 h2
    by_cases hii : i = i2
    · subst hii
      rw [List.getElem?_eq_getElem hi] at h1
      cases h1
      rw [List.getElem?_set_self hi'] at h2
      cases h2
      exact Ml.same ml5.h0 ml5.hG ((f2.mono g4.g).snoc r4)
    · rw [List.getElem?_set_ne hii] at h2
      refine (q5.ml i2 a2 r2 h1 h2).oth ?_
      intro z
      obtain ⟨hi2, e3⟩ := List.getElem?_eq_some_iff.mp h1
      rw [← e3] at z
      exact hii ((List.getElem_inj q5.nd).mp z).symm
theorem q_appMM (q : Mm H0 G H l as m) (ha : EvV ta σ G H (.ref l)) (hb : EvR tb σ G H i) (hr : m[i]? = some r) (h : EvR te σ G H x) (hz : r.length < 100000) (B : Gro G0 H0 G H)
    (k : ∀ a o G1 H1, Gro G H G1 H1 → Gro G0 H0 G1 (upd H1 a o) → Mm H0 G1 (upd H1 a o) l as (m.set i (r ++ [x])) → tz D σ (upd H1 a o)) : tSeq (tDrop (tBM K "list" rAppend (tOp (rIxL K) ta tb) (tCons te tNil))) tz D σ H := s_appMM (D := { D with nx := tz D }) q ha hb hr h hz B k
theorem gun3 {a b c : α} {i j n : Nat} (r : rep G v [a, b, c]) (e : Ex G H) (q : ∀ u w z, rep G u a → rep G w b → rep G z c → Q (((σ.set i (some u)).set j (some w)).set n (some z)) H) : gUnl K 3 (gCons (gName i) (gCons (gName j) (gCons (gName n) gNil))) v σ H Q := by
  obtain ⟨p, vs, rfl, h1, h2⟩ := r
  cases h2 with
  | cons ra h2 =>
    cases h2 with
    | cons rb h2 =>
      cases h2 with
      | cons rc h2 =>
        cases h2
        exact ⟨p, _, rfl, SqL.of (e _ _ h1), rfl, _, _, rfl, _, _, rfl, _, _, rfl, rfl, q _ _ _ ra rb rc⟩
end
end G3
end
/-! G3W11 -/
section
set_option Elab.async false
set_option linter.all false
set_option maxRecDepth 100000
set_option maxHeartbeats 8000000
/-! G3W11: walks: what the law is told, the book turned, the law. -/
namespace G3
open PySem PySem.Spec PyProof.Rows L2
open Evl (Ex fresh_back)
open Rep (rep)
theorem scLawTold : FnScope ["book", "found", "kind", "k"] ["book"] (defScope sLawTold) := ⟨rfl, rfl, rfl, by decide +kernel, rfl, by decide +kernel, by decide +kernel⟩
theorem scLawTurned : FnScope ["book", "picks", "found", "good", "by", "k", "prices", "amounts", "part", "rest", "more", "less"] ["book", "picks"] (defScope sLawTurned) := ⟨rfl, rfl, rfl, by decide +kernel, rfl, by decide +kernel, by decide +kernel⟩
section
variable {σ : L2.St} {G H : Hp} {te : TE}
theorem er_resB {x : Bool} (h : EvR te σ G H x) : EvR te σ G H (Res.b x) := h
theorem er_resL {x : List Nat} (h : EvR te σ G H x) : EvR te σ G H (Res.l x) := h
theorem er_resF {x : Fr} (h : EvR te σ G H x) : EvR te σ G H (Res.f x) := h
end
section
variable {P : Program} {w : World} {K : PySem.W.Frag} {mg : Str → Option Value} {base : Heap} (T : Top K mg)
include T
theorem cal_law_told : Cal P w K mg base "_law_told" 9 ["book"] (Sp1 toldM) := by
  refine cal_of (T.fn 39 39) scLawTold (fun _ _ _ _ h => h.len) (fun _ _ _ _ _ _ _ us hl => match us, hl with | [_], _ => rfl) fun f cdv A outer s H vs Q E hr h => ?_
  obtain ⟨G, vb, b, r, rfl, eG, rb, e, q⟩ := h
  unfold toldM at e
  split at e
  next hl =>
    obtain ⟨f1, k1, e⟩ := bnd e
    obtain ⟨f2, k2, e⟩ := bnd e
    obtain ⟨st, k3, e⟩ := bnd e
    split at e
    next hz =>
      cases e
      have hst := compO_len k3
      rw [List.length_range] at hst
      refine ⟨_, (pss_cons (ps_set (i := 1) scLawTold.nd rfl (.inl rfl) (pe_lst pa_nil))
  (pss_cons (ps_for PassesOwn.never rfl (k_piL K (pe_lst (pa_cons pe_str (pa_cons pe_str (pa_cons pe_str pa_nil))))) (pg_name (i := 2) scLawTold.nd rfl (.inl rfl))
  (pss_cons (ps_expr (pe_bm PySem.F.plainAttrs_list PySem.F.slot_list_append PySem.F.type_list_append mt_append (pv 1) (pa_cons (pe_cal (cal_has_wish T) (hr.mono (by decide)) rfl (pa_cons (pv 0) (pa_cons (pv 2) pa_nil))) pa_nil)))
  (pss_one (ps_if (pt_cmpR op_lt (pe_callB (k_len K) rfl (m_len T) bt_len (pa_cons (pv 0) pa_nil)) pe_int (nomark _)) (pss_one (ps_expr (pe_bm PySem.F.plainAttrs_list PySem.F.slot_list_append PySem.F.type_list_append mt_append (pv 1) (pa_cons (pe_cal (cal_slips T) hr rfl (pa_cons (pv 0) (pa_cons (pv 2) pa_nil))) pa_nil)))) pss_nil))))
  (pss_cons (ps_if (pt_cmpR op_gt (pe_callB (k_len K) rfl (m_len T) bt_len (pa_cons (pv 0) pa_nil)) pe_int (nomark _)) (pss_one (ps_set (i := 1) scLawTold.nd rfl (.inl rfl) (pe_op op_cat (pv 1) (pe_lst (pa_cons (pe_ix (k_ixT K) (pe_cal (cal_leak T) (hr.mono (by decide)) rfl (pa_cons (pv 0) pa_nil)) pe_int (fun _ _ => rfl)) (pa_cons (pe_ix (k_ixT K) (pe_cal (cal_dearest T) (hr.mono (by decide)) rfl (pa_cons (pv 0) pa_nil)) pe_int (fun _ _ => rfl)) pa_nil)))))) pss_nil)
  (pss_one (ps_ret (pe_op op_cat (pv 1) (pe_lc (own := [("k", 3)]) rfl scLawTold.nd  (pi_range1 rfl (m_range T) (pa_cons (pe_callB (k_len K) rfl (m_len T) bt_len (pa_cons (pv 0) pa_nil)) pa_nil)) (blkOk_by (N := ["book", "found", "kind", "k"]) (sc := defScope sLawTold) (by decide +kernel)) (fun _ _ _ _ _ => (pg_name (i := 3) scLawTold.nd rfl (.inl rfl))) (fun _ _ _ _ _ => pts_nil) (fun _ _ _ _ _ => (pe_cal (cal_stand_no_lower T) (hr.mono (by decide)) rfl (pa_cons (pv 0) (pa_cons (pv 3) pa_nil))))))))))), ?_⟩
      refine q_asgN (xs := ([] : List Res)) (en_lst el_nil (Nat.zero_le _)) (Gro.refl eG) fun l G1 H1 B1 g1 ml _ => ?_
      refine q_for k1 (ei_list (er_new (en_lst (el_cons (er_c rfl) (el_cons (er_c rfl) (el_cons (er_c rfl) el_nil))) (by simp)))) B1 (fun s σ' G' H' => ∃ x2, σ' = [some vb, some (.ref l), x2, none] ∧ Ml H G' H' l s) (fun G4 H4 g4 => ⟨none, rfl, ml.up g4⟩) ?_ ?_ ?_
      · rintro s σ' G' H' G3 H3 ⟨x2, rfl, ml⟩ g
        exact ⟨x2, rfl, ml.up g⟩
      · rintro Gb s kind s' vx σ' G4 H4 _ ef hx _ B4 ⟨x2, rfl, ml⟩ rx N hN
        cases rx
        unfold tlTurn at ef
        obtain ⟨h, e1, ef⟩ := bnd ef
        have hlen : s.length ≤ 1000 := by
          split at ef
          · obtain ⟨sl, e2, ef⟩ := bnd ef
            have := (snocM_inv ef).1
            rw [List.length_append] at this; omega
          · exact (snocM_inv ef).1
        refine q_app ml (ev_var rfl) (er_resB (er_call2 (er_var rfl rb) (er_s rfl) e1)) (by omega) B4 fun o G5 H5 g5 B5 m5 => ?_
        refine s_when (et_test (er_lt (er_int (er_len (er_var rfl rb))) er_k)) B5 (fun hx G6 H6 B6 g6 => ?_) (fun hx G6 H6 B6 g6 => ?_)
        · have hx := of_decide_eq_true hx
          rw [if_pos (by omega)] at ef
          obtain ⟨sl, e2, ef⟩ := bnd ef
          obtain ⟨hz2, rfl⟩ := snocM_inv ef
          refine s_app (m5.up g6) (ev_var rfl) (er_resL (er_call2 (er_var rfl rb) (er_s rfl) e2)) (by omega) B6 fun o G7 H7 g7 B7 m7 => ?_
          exact hN _ _ ⟨G7, inferInstance, B7, _, rfl, m7⟩
        · have hx := of_decide_eq_false hx
          rw [if_neg (by omega)] at ef
          obtain ⟨hz2, rfl⟩ := snocM_inv ef
          exact hN _ _ ⟨G6, inferInstance, B6, _, rfl, m5.up g6⟩
      · rintro σ' G4 H4 _ B4 ⟨x2, rfl, ml⟩
        obtain ⟨G5, B5, st5, rf, _⟩ := ml.frzO B4
        refine q_ifSet (x := f2) (et_test (er_gt (er_int (er_len (er_var rfl rb))) er_k)) B5 rfl rf (fun hb => ?_) fun v1 G6 H6 B6 g6 rf2 => ?_
        · have hb := of_decide_eq_true hb
          rw [if_pos (by omega)] at k2
          obtain ⟨lk, e1, k2⟩ := bnd k2
          obtain ⟨de, e2, k2⟩ := bnd k2
          cases k2
          have hf1 : f1.length ≤ 1000 := by
            rw [List.length_append] at hz; omega
          exact er_new (en_cat (er_var rfl rf) (er_new (en_lst (el_cons (er_resF (er_ix0 (er_call1 (er_var rfl rb) e1))) (el_cons (er_resF (er_ix0t (er_call1 (er_var rfl rb) e2))) el_nil)) (by simp))) (by simp; omega))
        have hf : (if decide ((1 : Int) < (b.length : Int)) = true then f2 else f1) = f2 := by
          by_cases h : 1 < b.length
          · rw [decide_eq_true (by omega)]; rfl
          · rw [if_neg h] at k2
            rw [decide_eq_false (by omega)]; exact Option.some.inj k2
        rw [hf] at rf2
        refine s_ret (er_new (en_cat (er_var rfl rf2) (er_new (en_lcn k3 (ei_range (er_len (er_var rfl rb)) (by omega)) (by omega) (fun _ => rfl) ?_)) (by omega))) B6 q
        intro k o v G7 H7 eo hx g7 rv
        cases rv
        obtain ⟨sn, e1, eo⟩ := bnd eo
        cases eo
        refine ⟨et_yes, fun y ey => ?_⟩
        cases ey
        exact er_resL (er_call2 (er_var rfl rb) (er_n rfl) e1)
    next => cases e
  next => cases e
theorem cal_law_turned : Cal P w K mg base "_law_turned" 1 ["book", "picks"] (Sp2 turnedM) := by
  refine cal_of (T.fn 40 40) scLawTurned (fun _ _ _ _ h => h.len) (fun _ _ _ _ _ _ _ us hl => match us, hl with | [_, _], _ => rfl) fun f cdv A outer s H vs Q E hr h => ?_
  obtain ⟨G, vb, vp, b, picks, r, rfl, eG, rb, rp, e, q⟩ := h
  obtain ⟨good, k1, e⟩ := bnd e
  obtain ⟨p21, k2, e⟩ := bnd e
  unfold goodM at k1
  obtain ⟨p20, k3, k1⟩ := bnd k1
  obtain ⟨x0, k4, k1⟩ := bnd k1
  split at k1
  next hx0 =>
    have hnn : 0 ≤ p20 % (x0.1.l.length : Int) := Int.emod_nonneg _ (by omega)
    obtain rfl : (p20 % (x0.1.l.length : Int)).toNat = good := Option.some.inj k1
    refine ⟨_, (pss_cons (ps_set (i := 2) scLawTurned.nd rfl (.inl rfl) (pe_lst (pa_cons (pe_lst pa_nil) (pa_cons (pe_lst pa_nil) (pa_cons (pe_lst pa_nil) pa_nil)))))
  (pss_cons (ps_set (i := 3) scLawTurned.nd rfl (.inl rfl) (pe_op op_mod (pe_ix (k_ixL K) (pv 1) pe_int (fun _ _ => rfl)) (pe_callB (k_len K) rfl (m_len T) bt_len (pa_cons (pe_ix (k_ixT K) (pe_ix (k_ixL K) (pv 0) pe_int (fun _ _ => rfl)) pe_int (fun _ _ => rfl)) pa_nil))))
  (pss_cons (ps_set (i := 4) scLawTurned.nd rfl (.inl rfl) (pe_op op_add pe_int (pe_op op_mod (pe_ix (k_ixL K) (pv 1) pe_int (fun _ _ => rfl)) pe_int)))
  (pss_cons (ps_for PassesOwn.never rfl (pi_enum rfl (m_enumerate T) (pa_cons (pv 0) pa_nil)) (k_pgT K 2 rfl (pgs_cons (pg_name (i := 5) scLawTurned.nd rfl (.inl rfl)) (pgs_cons (k_pgT K 2 rfl (pgs_cons (pg_name (i := 6) scLawTurned.nd rfl (.inl rfl)) (pgs_cons (pg_name (i := 7) scLawTurned.nd rfl (.inl rfl)) pgs_nil))) pgs_nil)))
  (pss_cons (ps_expr (pe_bm PySem.F.plainAttrs_list PySem.F.slot_list_append PySem.F.type_list_append mt_append (pe_ix (k_ixL K) (pv 2) pe_int (fun _ _ => rfl)) (pa_cons (pe_tup (pa_cons (pe_op op_catA (pv 6) (pe_tup (pa_cons (pe_op op_add pe_int (pe_op op_mod (pe_ix (k_ixL K) (pv 1) (pv 5) (fun _ _ => rfl)) (pe_op op_pow pe_int pe_int))) pa_nil))) (pa_cons (pe_op op_catA (pv 7) (pe_tup (pa_cons pe_int pa_nil))) pa_nil))) pa_nil)))
  (pss_cons (ps_set (i := 8) scLawTurned.nd rfl (.inl rfl) (pe_op op_mod (pe_ix (k_ixL K) (pv 1) (pv 5) (fun _ _ => rfl)) (pe_op op_add (pe_ix (k_ixT K) (pv 7) (pv 3) (fun _ _ => rfl)) pe_int)))
  (pss_cons (ps_set (i := 9) scLawTurned.nd rfl (.inl rfl) (pe_op op_catA (pe_op op_catA (pe_slice (k_slT K) (pv 7) po_none (po_some (pv 3))) (pe_tup (pa_cons (pe_op op_sub (pe_ix (k_ixT K) (pv 7) (pv 3) (fun _ _ => rfl)) (pv 8)) pa_nil))) (pe_slice (k_slT K) (pv 7) (po_some (pe_op op_add (pv 3) pe_int)) po_none)))
  (pss_cons (ps_expr (pe_bm PySem.F.plainAttrs_list PySem.F.slot_list_append PySem.F.type_list_append mt_append (pe_ix (k_ixL K) (pv 2) pe_int (fun _ _ => rfl)) (pa_cons (pe_tup (pa_cons (pe_op op_catA (pv 6) (pe_slice (k_slT K) (pv 6) (po_some (pv 3)) (po_some (pe_op op_add (pv 3) pe_int)))) (pa_cons (pe_op op_catA (pv 9) (pe_tup (pa_cons (pv 8) pa_nil))) pa_nil))) pa_nil)))
  (pss_cons (ps_set (i := 10) scLawTurned.nd rfl (.inl rfl) (pe_op op_catA (pe_op op_catA (pe_slice (k_slT K) (pv 6) po_none (po_some (pv 3))) (pe_tup (pa_cons (pe_op op_mul (pe_ix (k_ixT K) (pv 6) (pv 3) (fun _ _ => rfl)) (pv 4)) pa_nil))) (pe_slice (k_slT K) (pv 6) (po_some (pe_op op_add (pv 3) pe_int)) po_none)))
  (pss_cons (ps_set (i := 11) scLawTurned.nd rfl (.inl rfl) (pe_op op_catA (pe_op op_catA (pe_slice (k_slT K) (pv 7) po_none (po_some (pv 3))) (pe_tup (pa_cons (pe_op op_fdivX (pe_ix (k_ixT K) (pv 7) (pv 3) (fun _ _ => rfl)) (pv 4)) pa_nil))) (pe_slice (k_slT K) (pv 7) (po_some (pe_op op_add (pv 3) pe_int)) po_none)))
  (pss_one (ps_expr (pe_bm PySem.F.plainAttrs_list PySem.F.slot_list_append PySem.F.type_list_append mt_append (pe_ix (k_ixL K) (pv 2) pe_int (fun _ _ => rfl)) (pa_cons (pe_tup (pa_cons (pv 10) (pa_cons (pv 11) pa_nil))) pa_nil)))))))))))
  (pss_one (ps_ret (pv 2))))))), ?_⟩
    refine q_asgMM3 (α := Buy) (Gro.refl eG) fun l as G1 H1 B1 st1 mm => ?_
    refine q_asg (x := (p20 % (x0.1.l.length : Int)).toNat) (er_nat (er_is (er_mod (er_ixL (er_var rfl rp) (er_c (x := (20 : Nat)) rfl) k3) (er_int (er_lenT (er_ix0 (er_ixL (er_var rfl rb) (er_c (x := (0 : Nat)) rfl) k4)))) (by omega)) (by omega))) B1 fun v3 G2 H2 B2 g2 r3 => ?_
    cases r3
    generalize hgood : (p20 % (x0.1.l.length : Int)).toNat = good at e
    refine q_asg (er_add er_k (er_mod (er_ixL (er_var rfl rp) (er_c (x := (21 : Nat)) rfl) k2) er_k (by decide))) B2 fun v4 G3 H3 B3 g3 r4 => ?_
    cases r4
    have hby : 0 < 1 + p21 % 9 ∧ 1 + p21 % 9 ≤ 9 := by omega
    generalize 1 + p21 % 9 = by_ at e hby
    refine q_for e (ei_enum (er_var rfl rb)) B3 (fun m σ' G' H' => ∃ x5 x6 x7 x8 x9 x10 x11, σ' = [some vb, some vp, some (.ref l), some (.int (good : Int)), some (.int by_), x5, x6, x7, x8, x9, x10, x11] ∧ Mm H G' H' l as m) (fun G4 H4 g4 => ⟨none, none, none, none, none, none, none, rfl, (mm.up g2 |>.up g3).up g4⟩) ?_ ?_ ?_
    · rintro m σ' G' H' G3 H3 ⟨x5, x6, x7, x8, x9, x10, x11, rfl, mm⟩ g
      exact ⟨x5, x6, x7, x8, x9, x10, x11, rfl, mm.up g⟩
    · rintro Gb m ⟨k, pr, am⟩ m' vx σ' G4 H4 _ ef hx _ B4 ⟨x5, x6, x7, x8, x9, x10, x11, rfl, mm⟩ rx N hN
      unfold tuTurn at ef
      obtain ⟨pk, e1, ef⟩ := bnd ef
      split at ef
      next hg =>
        obtain ⟨hg1, hg2, hg3, hg4, hg5⟩ := hg
        have hg1 : good < pr.l.length := hg1
        have hg2 : good < am.l.length := hg2
        have hg3 : pr.l.length ≤ 1000 := hg3
        have hg4 : am.l.length ≤ 1000 := hg4
        have hg5 : 0 ≤ am.l.getD good 0 := hg5
        have hga : am.l[good]? = some (am.l.getD good 0) := by rw [List.getD_eq_getElem?_getD, List.getElem?_eq_getElem hg2]; rfl
        have hgp : pr.l[good]? = some (pr.l.getD good 0) := by rw [List.getD_eq_getElem?_getD, List.getElem?_eq_getElem hg1]; rfl
        match m, mm, ef with
        | [a, b3, c], mm, ef =>
          obtain ⟨a', e2, ef⟩ := bnd ef
          obtain ⟨b', e3, ef⟩ := bnd ef
          obtain ⟨c', e4, ef⟩ := bnd ef
          obtain ⟨za, rfl⟩ := snocM_inv e2
          obtain ⟨zb, rfl⟩ := snocM_inv e3
          obtain ⟨zc, rfl⟩ := snocM_inv e4
          cases ef
          refine gt2 rx B4.sub fun u z hu hz => ?_
          cases hu
          refine gt2 hz B4.sub fun vpr vam rpr ram => ?_
          have rpr : rep G4 vpr pr := rpr
          have ram : rep G4 vam am := ram
          -- found[0]
          refine q_appMM (i := 0) (r := a) (x := tuWide pk (pr, am)) mm (ev_var rfl) (er_c (x := (0 : Nat)) rfl) rfl (er_tup2 (er_catT (er_var rfl rpr) (er_tupL (xs := [1 + pk % 1000000]) (el_cons (er_add er_k (er_mod (er_ixL (er_var rfl rp) (er_n rfl) e1) er_p6 (by decide))) el_nil) (by simp)) (by simp; omega))
            (er_catT (er_var rfl ram) (er_tupL (xs := [(0 : Int)]) (el_cons er_k el_nil) (by simp)) (by simp; omega))) (by omega) B4 fun o1 o2 G5 H5 g5 B5 m5 => ?_
          -- part
          refine q_asg (er_mod (er_ixL (er_var rfl rp) (er_n rfl) e1) (er_add (er_ixT (er_var rfl ram) (er_n rfl) hga) er_k) (by omega)) B5 fun v8 G6 H6 B6 g6 r8 => ?_
          cases r8
          have hhi : ∀ {i : Nat} {t : Tup Int} {σ : L2.St} {G H : Hp}, EvR (tVar i) σ G H t → EvR (tVar 3) σ G H good → EvR (tSl (rSlA K) (tVar i) tNoPart (tPart (tVar 3))) σ G H (Tup.mk (t.l.take good)) := fun {i t _ _ _} a b => er_is (er_slT a eo_none (eo_some (er_int b))) (by rw [cut_hi])
          have hlo : ∀ {i : Nat} {t : Tup Int} {σ : L2.St} {G H : Hp}, EvR (tVar i) σ G H t → EvR (tVar 3) σ G H good → EvR (tSl (rSlA K) (tVar i) (tPart (tOp (rI0 fun i j => .int (i + j)) (tVar 3) (tC (.int 1)))) tNoPart) σ G H (Tup.mk (t.l.drop (good + 1))) := fun {i t _ _ _} a b => er_is (er_slT a (eo_some (er_is (er_add (er_int b) er_k) (show (good : Int) + 1 = ((good + 1 : Nat) : Int) by omega))) eo_none) (by rw [cut_lo])
          have hone : ∀ {i : Nat} {t : Tup Int} {σ : L2.St} {G H : Hp}, EvR (tVar i) σ G H t → EvR (tVar 3) σ G H good → EvR (tSl (rSlA K) (tVar i) (tPart (tVar 3)) (tPart (tOp (rI0 fun i j => .int (i + j)) (tVar 3) (tC (.int 1))))) σ G H (Tup.mk ((t.l.drop good).take 1)) := fun {i t _ _ _} a b => er_is (er_slT a (eo_some (er_int b)) (eo_some (er_is (er_add (er_int b) er_k) (show (good : Int) + 1 = ((good + 1 : Nat) : Int) by omega)))) (by rw [cut_lohi])
          have hl1 : (am.l.take good).length + 1 + (am.l.drop (good + 1)).length ≤ 2000 := by rw [List.length_take, List.length_drop]; omega
          have hl2 : (pr.l.take good).length + 1 + (pr.l.drop (good + 1)).length ≤ 2000 := by rw [List.length_take, List.length_drop]; omega
          -- rest
          refine q_asg (x := Tup.mk (am.l.take good ++ [am.l.getD good 0 - pk % (am.l.getD good 0 + 1)] ++ am.l.drop (good + 1))) (er_catT (s := Tup.mk (am.l.take good ++ [am.l.getD good 0 - pk % (am.l.getD good 0 + 1)])) (er_catT (s := Tup.mk (am.l.take good)) (hhi (er_var rfl ram) (er_n rfl)) (er_tupL (el_cons (er_sub (er_ixT (er_var rfl ram) (er_n rfl) hga) (er_i rfl)) el_nil) (by simp)) (by simp only [List.length_singleton]; omega)) (hlo (er_var rfl ram) (er_n rfl)) (by simp only [List.length_append, List.length_singleton]; omega)) B6 fun v9 G7 H7 B7 g7 r9 => ?_
          refine q_appMM (i := 1) (r := b3) (x := tuPart pk good (pr, am)) ((m5.up g6).up g7) (ev_var rfl) (er_c (x := (1 : Nat)) rfl) rfl (er_tup2 (er_catT (er_var rfl rpr) (hone (er_var rfl rpr) (er_n rfl)) (by simp only [List.length_take]; omega)) (er_catT (er_var rfl r9) (er_tupL (xs := [pk % (am.l.getD good 0 + 1)]) (el_cons (er_i rfl) el_nil) (by simp)) (by simp only [List.length_append, List.length_singleton]; omega))) (by omega) B7 fun o1 o2 G8 H8 g8 B8 m8 => ?_
          -- more
          refine q_asg (x := Tup.mk (pr.l.take good ++ [pr.l.getD good 0 * by_] ++ pr.l.drop (good + 1))) (er_catT (s := Tup.mk (pr.l.take good ++ [pr.l.getD good 0 * by_])) (er_catT (s := Tup.mk (pr.l.take good)) (hhi (er_var rfl rpr) (er_n rfl)) (er_tupL (el_cons (er_mulC (er_ixT (er_var rfl rpr) (er_n rfl) hgp) (er_i rfl) (cm_r (by omega) (by omega))) el_nil) (by simp)) (by simp only [List.length_singleton]; omega)) (hlo (er_var rfl rpr) (er_n rfl)) (by simp only [List.length_append, List.length_singleton]; omega)) B8 fun v10 G9 H9 B9 g9 r10 => ?_
          -- less
          refine q_asg (x := Tup.mk (am.l.take good ++ [(am.l.getD good 0).fdiv by_] ++ am.l.drop (good + 1))) (er_catT (s := Tup.mk (am.l.take good ++ [(am.l.getD good 0).fdiv by_])) (er_catT (s := Tup.mk (am.l.take good)) (hhi (er_var rfl ram) (er_n rfl)) (er_tupL (el_cons (er_fdiv (er_ixT (er_var rfl ram) (er_n rfl) hga) (er_i rfl) (cd_of (by omega) (by omega))) el_nil) (by simp)) (by simp only [List.length_singleton]; omega)) (hlo (er_var rfl ram) (er_n rfl)) (by simp only [List.length_append, List.length_singleton]; omega)) B9 fun v11 G10 H10 B10 g10 r11 => ?_
          refine s_appMM (i := 2) (r := c) (x := tuOther by_ good (pr, am)) ((m8.up g9).up g10) (ev_var rfl) (er_c (x := (2 : Nat)) rfl) rfl (er_tup2 (er_var rfl r10) (er_var rfl r11)) (by omega) B10 fun o1 o2 G11 H11 g11 B11 m11 => ?_
          exact hN _ _ ⟨G11, inferInstance, B11, _, _, _, _, _, _, _, rfl, m11⟩
        | [], mm, ef => cases ef
        | [_], mm, ef => cases ef
        | [_, _], mm, ef => cases ef
        | _ :: _ :: _ :: _ :: _, mm, ef => cases ef
      next => cases ef
    · rintro σ' G4 H4 _ B4 ⟨x5, x6, x7, x8, x9, x10, x11, rfl, mm⟩
      exact s_retV (ev_var rfl) B4 fun G5 H5 B5 g5 => Back.frzM q B5 (mm.up g5)
  next => cases k1
end
end G3
end
/-! G3W12 -/
section
set_option Elab.async false
set_option linter.all false
set_option maxRecDepth 100000
set_option maxHeartbeats 8000000
/-! G3W12: walks: the law. -/
namespace G3
open PySem PySem.Spec PyProof.Rows L2
open Evl (Ex fresh_back)
open Rep (rep)
open RepE (dat)
theorem scLaw : FnScope ["script", "book", "k", "prices", "amounts", "picks", "due", "wide", "parted", "other", "by", "good"] ["script"] (defScope sLaw) := ⟨rfl, rfl, rfl, by decide +kernel, rfl, by decide +kernel, by decide +kernel⟩
section
variable {P : Program} {w : World} {K : PySem.W.Frag} {mg : Str → Option Value} {base : Heap} (T : Top K mg)
include T
theorem fn_law {f : Addr} {fd : FuncData} (F : FnP K "law" sLaw f fd) : FnOk P w K mg base CX0 10 f fd ["script"] (Sp1 (lawM (K := K))) := by
  refine F.ok scLaw (fun _ _ _ _ h => h.len) fun cdv A outer s H vs Q E hr h => ?_
  suffices z : ∃ t, PSs (cxOf CX0 P w K mg base ["script", "book", "k", "prices", "amounts", "picks", "due", "wide", "parted", "other", "by", "good"] "law" (defScope sLaw) f cdv A outer s H E).nox (defBody sLaw) t ∧ t { nx := fun _ H' => Q .non H', rt := Q } (start ["script", "book", "k", "prices", "amounts", "picks", "due", "wide", "parted", "other", "by", "good"] vs) H by
    obtain ⟨t, h1, h2⟩ := z
    exact ⟨t, h1.nox, h2⟩
  obtain ⟨G, vs, s, r, rfl, eG, rs, e, q⟩ := h
  unfold lawM at e
  obtain ⟨bk, k1, e⟩ := bnd e
  obtain ⟨picks, k2, e⟩ := bnd e
  obtain ⟨due, k3, e⟩ := bnd e
  obtain ⟨ts, k4, e⟩ := bnd e
  unfold lawBook at k1
  obtain ⟨b0, k5, k1⟩ := bnd k1
  split at k1
  next hl =>
    refine ⟨_, (pss_cons (ps_set (i := 1) scLaw.nd rfl (.inl rfl) (pe_cal (cal_law_a_book T) (hr.mono (by decide)) rfl (pa_cons (pv 0) (pa_cons pe_int (pa_cons pe_int pa_nil)))))
  (pss_cons (ps_setLc (i := 1) (own := [("prices", 3), ("amounts", 4)]) rfl scLaw.nd rfl rfl (sw_true rfl rfl rfl (by decide +kernel)) (k_piL K (pv 1)) (blkOk_by (N := ["script", "book", "k", "prices", "amounts", "picks", "due", "wide", "parted", "other", "by", "good"]) (sc := defScope sLaw) (by decide +kernel)) (fun _ _ _ _ _ => (k_pgT K 2 rfl (pgs_cons (pg_name (i := 3) scLaw.nd rfl (.inl rfl)) (pgs_cons (pg_name (i := 4) scLaw.nd rfl (.inl rfl)) pgs_nil)))) (fun _ _ _ _ _ => pts_nil) (fun _ _ _ _ _ => (pe_tup (pa_cons (pe_slice (k_slT K) (pv 3) po_none (po_some pe_int)) (pa_cons (pe_slice (k_slT K) (pv 4) po_none (po_some pe_int)) pa_nil)))))
  (pss_cons (ps_for PassesOwn.never rfl (pi_enum rfl (m_enumerate T) (pa_cons (pe_callTy (k_list K) rfl (m_list T) bt_list (pa_cons (pv 1) pa_nil)) pa_nil)) (k_pgT K 2 rfl (pgs_cons (pg_name (i := 2) scLaw.nd rfl (.inl rfl)) (pgs_cons (k_pgT K 2 rfl (pgs_cons (pg_name (i := 3) scLaw.nd rfl (.inl rfl)) (pgs_cons (pg_name (i := 4) scLaw.nd rfl (.inl rfl)) pgs_nil))) pgs_nil)))
  (pss_one (ps_if (pt_cmpR op_eq (pe_callB (k_maxT K rfl hr.units) rfl (m_max T) bt_max (pa_cons (pv 4) pa_nil)) pe_int (nomark _)) (pss_one (ps_asg (pe_tup (pa_cons (pv 3) (pa_cons (pe_op op_catA (pe_slice (k_slT K) (pv 4) po_none (po_some (pe_un un_neg pe_int))) (pe_tup (pa_cons pe_int pa_nil))) pa_nil))) (pg_sub (pv 1) (pv 2) set_list))) pss_nil)))
  (pss_cons (ps_set (i := 5) scLaw.nd rfl (.inl rfl) (pe_cal (cal_law_draws T) (hr.mono (by decide)) rfl (pa_cons (pe_cal (cal_law_cell_at T) (hr.mono (by decide)) rfl (pa_cons (pv 0) (pa_cons pe_int pa_nil))) (pa_cons pe_int (pa_cons (pe_op op_pow pe_int pe_int) pa_nil)))))
  (pss_cons (ps_set (i := 6) scLaw.nd rfl (.inl rfl) (pe_cal (cal_law_told T) hr rfl (pa_cons (pv 1) pa_nil)))
  (pss_cons (ps_asg (pe_cal (cal_law_turned T) (hr.mono (by decide)) rfl (pa_cons (pv 1) (pa_cons (pv 5) pa_nil))) (pg_unl rfl (pgs_cons (pg_name (i := 7) scLaw.nd rfl (.inl rfl)) (pgs_cons (pg_name (i := 8) scLaw.nd rfl (.inl rfl)) (pgs_cons (pg_name (i := 9) scLaw.nd rfl (.inl rfl)) pgs_nil)))))
  (pss_cons (ps_if (PW.pt (pw_or (pt_cmpR (k_neD K hr.units) (pe_cal (cal_law_told T) hr rfl (pa_cons (pv 7) pa_nil)) (pv 6) (nomark _)) (pw_or1 (pt_cmpR (k_neD K hr.units) (pe_cal (cal_law_told T) hr rfl (pa_cons (pv 8) pa_nil)) (pv 6) (nomark _))))) (pss_one (ps_ret pe_bl)) pss_nil)
  (pss_cons (ps_set (i := 10) scLaw.nd rfl (.inl rfl) (pe_op op_add pe_int (pe_op op_mod (pe_ix (k_ixL K) (pv 5) pe_int (fun _ _ => rfl)) pe_int)))
  (pss_cons (ps_set (i := 11) scLaw.nd rfl (.inl rfl) (pe_op op_mod (pe_ix (k_ixL K) (pv 5) pe_int (fun _ _ => rfl)) (pe_callB (k_len K) rfl (m_len T) bt_len (pa_cons (pe_ix (k_ixT K) (pe_ix (k_ixL K) (pv 1) pe_int (fun _ _ => rfl)) pe_int (fun _ _ => rfl)) pa_nil))))
  (pss_cons (ps_for PassesOwn.never rfl (k_piL K (pv 1)) (k_pgT K 2 rfl (pgs_cons (pg_name (i := 3) scLaw.nd rfl (.inl rfl)) (pgs_cons (pg_name (i := 4) scLaw.nd rfl (.inl rfl)) pgs_nil)))
  (pss_one (ps_if (PW.pt (pw_or (pt_cmpR op_gt (pe_op op_mod (pe_ix (k_ixT K) (pv 4) (pv 11) (fun _ _ => rfl)) (pv 10)) pe_int (nomark _)) (pw_or1 (pt_cmpR op_gt (pe_op op_mul (pe_ix (k_ixT K) (pv 3) (pv 11) (fun _ _ => rfl)) (pv 10)) (pe_op op_pow pe_int pe_int) (nomark _))))) (pss_one (ps_ret pe_bl)) pss_nil)))
  (pss_one (ps_ret (pe_cmpR (k_eqD K hr.units) (pe_cal (cal_law_told T) hr rfl (pa_cons (pv 9) pa_nil)) (pv 6) (nomark _)))))))))))))), ?_⟩
    refine q_asg (er_call3 (er_var rfl rs) (er_c (x := (0 : Nat)) rfl) (er_c (x := (12 : Nat)) rfl) k5) (Gro.refl eG) fun v1 G1 H1 B1 g1 r1 => ?_
    refine q_asgN (en_lc (f := fun (x : Buy) => some (some (cut5 x))) (compO_map fun x _ => rfl) (ei_list (er_var rfl r1)) (by omega) ?_) B1 fun l G2 H2 B2 g2 ml _ => ?_
    · intro x o v G3 H3 eo hx g3 rv Q' k
      cases eo
      refine gt2 rv g3.sub fun u z hu hz => ?_
      refine k _ rfl et_yes fun y ey => ?_
      cases ey
      have hu : rep G3 u x.1 := hu
      have hz : rep G3 z x.2 := hz
      exact er_tup2 (er_is (er_slT (er_var rfl hu) eo_none (eo_some (er_c (x := (5 : Int)) rfl))) (by rw [show (5 : Int) = ((5 : Nat) : Int) from rfl, cut_hi])) (er_is (er_slT (er_var rfl hz) eo_none (eo_some (er_c (x := (5 : Int)) rfl))) (by rw [show (5 : Int) = ((5 : Nat) : Int) from rfl, cut_hi]))
    refine q_for k1 (ei_enum (er_new (en_listM ml (ev_var rfl)))) B2 (fun b σ' G' H' => ∃ x2 x3 x4, σ' = [some vs, some (.ref l), x2, x3, x4, none, none, none, none, none, none, none] ∧ Ml H G' H' l b) (fun G3 H3 g3 => ⟨none, none, none, rfl, ml.up g3⟩) ?_ ?_ ?_
    · rintro m σ' G' H' G3 H3 ⟨x2, x3, x4, rfl, ml⟩ g
      exact ⟨x2, x3, x4, rfl, ml.up g⟩
    · rintro Gb b ⟨k, pr, am⟩ b' vx σ' G3 H3 _ ef hx _ B3 ⟨x2, x3, x4, rfl, ml⟩ rx N hN
      unfold fixTurn at ef
      obtain ⟨m, e1, ef⟩ := bnd ef
      refine gt2 rx B3.sub fun u z hu hz => ?_
      cases hu
      refine gt2 hz B3.sub fun vpr vam rpr ram => ?_
      have rpr : rep G3 vpr pr := rpr
      have ram : rep G3 vam am := ram
      refine s_when (et_test (er_eqI (er_maxT (er_var rfl ram) e1) er_k)) B3 (fun hx G4 H4 B4 g4 => ?_) (fun hx G4 H4 B4 g4 => ?_)
      · rw [if_pos (of_decide_eq_true hx)] at ef
        split at ef
        next hz =>
          obtain ⟨hz1, hz2⟩ := hz
          cases ef
          refine s_setL (ml.up g4) (x := ((pr, ⟨am.l.dropLast ++ [1]⟩) : Buy)) (er_tup2 (er_var rfl rpr) (er_catT (s := Tup.mk am.l.dropLast) (er_is (er_slT (er_var rfl ram) eo_none (eo_some (er_neg (er_c (x := (1 : Int)) rfl)))) (by rw [show -(1 : Int) = -1 from rfl, cut_last])) (er_tupL (xs := [(1 : Int)]) (el_cons er_k el_nil) (by simp)) (by
            have hz2 : am.l.length ≤ 1000 := hz2
            simp; omega))) (ev_var rfl) (er_n rfl) hz1 B4 fun o G5 H5 g5 B5 m5 => ?_
          exact hN _ _ ⟨G5, inferInstance, B5, _, _, _, rfl, m5⟩
        next => cases ef
      · rw [if_neg (of_decide_eq_false hx)] at ef
        cases ef
        exact hN _ _ ⟨G4, inferInstance, B4, _, _, _, rfl, ml.up g4⟩
    · rintro σ' G3 H3 _ B3 ⟨x2, x3, x4, rfl, ml⟩
      obtain ⟨G4, B4, st4, rb, _⟩ := ml.frzO B3
      refine q_asg (er_call3 (er_call2 (er_var rfl rs) (er_c (x := (2 : Nat)) rfl) rfl) (er_c (x := (22 : Nat)) rfl) er_p6 k2) B4 fun v5 G5 H5 B5 g5 rp => ?_
      refine q_asg (er_call1 (er_var rfl rb) k3) B5 fun v6 G6 H6 B6 g6 rd => ?_
      match ts, k4, e with
      | [wide, parted, other], k4, e =>
        obtain ⟨tw, e1, e⟩ := bnd e
        refine q_asgG (er_call2 (er_var rfl rb) (er_var rfl rp) k4) B6 fun v G7 H7 B7 g7 r7 => ?_
        refine gun3 r7 g7.sub fun v7 v8 v9 rw' rpa rot => ?_
        by_cases hw : PyData.eqv (dat tw) (dat due) = false
        · rw [if_pos hw] at e
          cases e
          refine q_when (b := true) (et_is (et_or (a := true) (b := false) (et_test (er_is (er_neD (er_call1 (er_var rfl rw') e1) (er_var rfl rd) (by decide)) (by rw [hw]; rfl))) fun h => nomatch h) rfl) B7 (fun hx G8 H8 B8 g8 => ?_) (fun hx => nomatch hx)
          exact s_ret (er_c rfl) B8 q
        rw [if_neg hw] at e
        have hw : PyData.eqv (dat tw) (dat due) = true := by simpa using hw
        obtain ⟨tp, e2, e⟩ := bnd e
        by_cases hp : PyData.eqv (dat tp) (dat due) = false
        · rw [if_pos hp] at e
          cases e
          refine q_when (b := true) (et_is (et_or (a := false) (b := true) (et_test (er_is (er_neD (er_call1 (er_var rfl rw') e1) (er_var rfl rd) (by decide)) (by rw [hw]; rfl))) fun h => et_test (er_is (er_neD (er_call1 (er_var rfl rpa) e2) (er_var rfl rd) (by decide)) (by rw [hp]; rfl))) rfl) B7 (fun hx G8 H8 B8 g8 => ?_) (fun hx => nomatch hx)
          exact s_ret (er_c rfl) B8 q
        rw [if_neg hp] at e
        have hp : PyData.eqv (dat tp) (dat due) = true := by simpa using hp
        obtain ⟨p21, e3, e⟩ := bnd e
        obtain ⟨good, e4, e⟩ := bnd e
        obtain ⟨o, e5, e⟩ := bnd e
        refine q_when (b := false) (et_is (et_or (a := false) (b := false) (et_test (er_is (er_neD (er_call1 (er_var rfl rw') e1) (er_var rfl rd) (by decide)) (by rw [hw]; rfl))) fun h => et_test (er_is (er_neD (er_call1 (er_var rfl rpa) e2) (er_var rfl rd) (by decide)) (by rw [hp]; rfl))) rfl) B7 (fun hx => nomatch hx) (fun hx G8 H8 B8 g8 => ?_)
        refine q_asg (er_add er_k (er_mod (er_ixL (er_var rfl rp) (er_c (x := (21 : Nat)) rfl) e3) er_k (by decide))) B8 fun v10 G9 H9 B9 g9 r10 => ?_
        cases r10
        have hby : 0 < 1 + p21 % 9 ∧ 1 + p21 % 9 ≤ 9 := by omega
        generalize 1 + p21 % 9 = by_ at e5 hby
        unfold goodM at e4
        obtain ⟨p20, f1, e4⟩ := bnd e4
        obtain ⟨x0, f2, e4⟩ := bnd e4
        split at e4
        next hx0 =>
          have hnn : 0 ≤ p20 % (x0.1.l.length : Int) := Int.emod_nonneg _ (by omega)
          obtain rfl : (p20 % (x0.1.l.length : Int)).toNat = good := Option.some.inj e4
          refine q_asg (x := (p20 % (x0.1.l.length : Int)).toNat) (er_nat (er_is (er_mod (er_ixL (er_var rfl rp) (er_c (x := (20 : Nat)) rfl) f1) (er_int (er_lenT (er_ix0 (er_ixL (er_var rfl rb) (er_c (x := (0 : Nat)) rfl) f2)))) (by omega)) (by omega))) B9 fun v11 G10 H10 B10 g10 r11 => ?_
          cases r11
          generalize hgood : (p20 % (x0.1.l.length : Int)).toNat = good at e5
          refine q_forr e5 (ei_list (er_var rfl rb)) B10 (fun _ σ' G' H' => ∃ x3 x4, σ' = [some vs, some (.ref l), x2, x3, x4, some v5, some v6, some v7, some v8, some v9, some (.int by_), some (.int (good : Int))]) (fun G4 H4 g4 => ⟨_, _, rfl⟩) ?_ ?_ ?_
          · rintro m σ' G' H' G3 H3 ⟨x3, x4, rfl⟩ g
            exact ⟨x3, x4, rfl⟩
          · rintro Gb _ ⟨pr, am⟩ o' vx σ' G11 H11 _ ef hx hret _ B11 ⟨x3, x4, rfl⟩ rx
            unfold laTurn at ef
            obtain ⟨a, h1, ef⟩ := bnd ef
            obtain ⟨p, h2, ef⟩ := bnd ef
            have h1 : am.l[good]? = some a := h1
            have h2 : pr.l[good]? = some p := h2
            refine gt2 rx B11.sub fun vpr vam rpr ram => ?_
            have rpr : rep G11 vpr pr := rpr
            have ram : rep G11 vam am := ram
            refine s_when (b := decide (0 < a % by_) || decide (1000000 < p * by_)) (et_or (et_test (er_gt (er_mod (er_ixT (er_var rfl ram) (er_n rfl) h1) (er_i rfl) hby.1) er_k)) fun _ => et_test (er_gt (er_mulC (er_ixT (er_var rfl rpr) (er_n rfl) h2) (er_i rfl) (cm_r (by omega) (by omega))) er_p6)) B11 (fun hx G12 H12 B12 g12 => ?_) (fun hx G12 H12 B12 g12 => ?_)
            · have hc : 0 < a % by_ ∨ 1000000 < p * by_ := by
                rw [Bool.or_eq_true] at hx
                rcases hx with hx | hx
                · exact .inl (of_decide_eq_true hx)
                · exact .inr (of_decide_eq_true hx)
              rw [if_pos hc] at ef
              cases ef
              have eo := hret _ rfl
              subst eo
              cases e
              exact s_ret (er_c rfl) B12 q
            · have hc : ¬ (0 < a % by_ ∨ 1000000 < p * by_) := by
                rw [Bool.or_eq_false_iff] at hx
                rintro (z | z)
                · exact of_decide_eq_false hx.1 z
                · exact of_decide_eq_false hx.2 z
              rw [if_neg hc] at ef
              cases ef
              exact ⟨(), rfl, G12, inferInstance, B12, _, _, rfl⟩
          · rintro _ σ' G11 H11 eo _ B11 ⟨x3, x4, rfl⟩
            subst eo
            obtain ⟨to, h1, e⟩ := bnd e
            cases e
            exact s_ret (er_eqD (er_call1 (er_var rfl rot) h1) (er_var rfl rd) (by decide)) B11 q
        next => cases e4
      | [], k4, e => cases e
      | [_], k4, e => cases e
      | [_, _], k4, e => cases e
      | _ :: _ :: _ :: _ :: _, k4, e => cases e
  next => cases k1
end
end G3
end
/-! G3Head -/
section
set_option Elab.async false
set_option linter.all false
set_option maxRecDepth 100000
set_option maxHeartbeats 0
namespace G3
open PySem PySem.Spec PyProof.Rows L2
abbrev R : PySem.W.OpenRow := PySem.W.OpenLaw.row PySem.Challenge.rw_onewish_k31_whole_goods_put_to_and_parte
abbrev hk : PySem.W.Hook := He.hookD 4 fa fn
def ob (s : PySem.W.SharedT) : He.AlD := He.obsDG 4 fa fn (HandSHeadRun.getT s)
theorem ob_eq (s : PySem.W.SharedT) : ob s = hk.obs s.abs := He.obsDG_eq (HandSHeadRun.getT_eq s)
def loose1 : List PySem.Str := ["WishError", "NoNumber", "TooMany", "MOST_SLIPS", "need_number", "cost_at", "costs_of", "divisor", "fraction", "plus", "minus", "times", "over", "is_less", "lesser", "greater", "way_between", "open_ways", "barring_round", "top_class", "any_wish", "told_any", "step_worth", "round_back", "lowered"]
def loose2 : List PySem.Str := ["told_by", "has_wish", "share_of", "walks", "least_mean", "lifted", "dearest", "stand_no_lower", "need_few", "choices", "without", "slips", "least_through", "leak", "_law_cell_at", "_law_draws", "_law_best_good", "_law_a_book", "_law_told", "_law_turned"]
def loose : List PySem.Str := loose1 ++ loose2
theorem run (w : World) : HandSHeadRun.RunEq R (PySem.W.view R.prog [53]) hk ob 4000 loose w := by
  intro os
  kernel_rfl
end G3
end
/-! G3M1 -/
section
set_option Elab.async false
set_option linter.all false
set_option maxRecDepth 100000
set_option maxHeartbeats 4000000
/-! G3M1: the plain law: fractions. Is x N D: x is reduced, and is N / D. -/
namespace G3
structure Red (x : Fr) : Prop where
  pos : 0 < x.2
  gcd : Int.gcd x.1 x.2 = 1
structure Is (x : Fr) (N D : Int) : Prop where
  red : Red x
  pos : 0 < D
  eq : x.1 * D = N * x.2
theorem sgcd_abs (t b : Int) : (sgcd t b).natAbs = Int.gcd t b := by unfold sgcd; split <;> omega
theorem frac_spec {t b : Int} (hb : b ≠ 0) : ∃ g, g ≠ 0 ∧ t = (frac t b).1 * g ∧ b = (frac t b).2 * g ∧ Red (frac t b) := by
  have hg : Int.gcd t b ≠ 0 := fun h => hb (Int.gcd_eq_zero_iff.mp h).2
  have hs := sgcd_abs t b
  have hs0 : sgcd t b ≠ 0 := by intro z; rw [z] at hs; exact hg hs.symm
  have hd1 : sgcd t b ∣ t := Int.natAbs_dvd_natAbs.mp (by rw [hs]; exact Int.gcd_dvd_natAbs_left t b)
  have hd2 : sgcd t b ∣ b := Int.natAbs_dvd_natAbs.mp (by rw [hs]; exact Int.gcd_dvd_natAbs_right t b)
  have e1 : t = (frac t b).1 * sgcd t b := by
    show t = t.fdiv (sgcd t b) * sgcd t b
    exact (Int.fdiv_mul_cancel hd1).symm
  have e2 : b = (frac t b).2 * sgcd t b := by
    show b = b.fdiv (sgcd t b) * sgcd t b
    exact (Int.fdiv_mul_cancel hd2).symm
  refine ⟨sgcd t b, hs0, e1, e2, ⟨?_, ?_⟩⟩
  · -- the bottom's sign
    by_cases h : b < 0
    · have h3 : sgcd t b < 0 := by unfold sgcd; rw [if_pos h]; omega
      rcases Int.lt_trichotomy (frac t b).2 0 with h4 | h4 | h4
      · have := Int.mul_pos_of_neg_of_neg h4 h3; omega
      · rw [h4] at e2; omega
      · exact h4
    · have h3 : 0 < sgcd t b := by unfold sgcd; rw [if_neg h]; omega
      rcases Int.lt_trichotomy (frac t b).2 0 with h4 | h4 | h4
      · have := Int.mul_neg_of_neg_of_pos h4 h3; omega
      · rw [h4] at e2; omega
      · exact h4
  · have h5 : Int.gcd ((frac t b).1 * sgcd t b) ((frac t b).2 * sgcd t b) = Int.gcd (frac t b).1 (frac t b).2 * (sgcd t b).natAbs := Int.gcd_mul_right ..
    rw [← e1, ← e2, hs] at h5
    have h6 : 1 * Int.gcd t b = Int.gcd (frac t b).1 (frac t b).2 * Int.gcd t b := by rw [Nat.one_mul]; exact h5
    exact (Nat.eq_of_mul_eq_mul_right (Nat.pos_of_ne_zero hg) h6).symm
theorem frac_is {t b N D : Int} (hb : b ≠ 0) (hD : 0 < D) (h : t * D = N * b) : Is (frac t b) N D := by
  obtain ⟨g, hg, e1, e2, r⟩ := frac_spec (t := t) hb
  refine ⟨r, hD, ?_⟩
  generalize frac t b = x at *
  subst e1 e2
  have h2 : g * (x.1 * D - N * x.2) = 0 := by grind
  rcases Int.mul_eq_zero.mp h2 with z | z
  · exact absurd z hg
  · omega
theorem int_cop {a b c : Int} (h : a ∣ b * c) (hg : Int.gcd a b = 1) : a ∣ c := by
  have h1 : a.natAbs ∣ b.natAbs * c.natAbs := by rw [← Int.natAbs_mul]; exact Int.natAbs_dvd_natAbs.mpr h
  exact Int.natAbs_dvd_natAbs.mp (Nat.Coprime.dvd_of_dvd_mul_left hg h1)
theorem Is.dvd {x : Fr} {N D : Int} (h : Is x N D) : ∃ m, 0 < m ∧ D = x.2 * m ∧ N = x.1 * m := by
  have h1 : x.2 ∣ x.1 * D := ⟨N, by rw [h.eq, Int.mul_comm]⟩
  have h2 : x.2 ∣ D := int_cop h1 (by rw [Int.gcd_comm]; exact h.red.gcd)
  obtain ⟨m, hm⟩ := h2
  have hp := h.red.pos
  have hD := h.pos
  refine ⟨m, ?_, hm, ?_⟩
  · rcases Int.lt_trichotomy m 0 with z | z | z
    · have := Int.mul_neg_of_pos_of_neg hp z; omega
    · rw [z] at hm; omega
    · exact z
  · have h3 := h.eq
    rw [hm] at h3
    have h4 : x.2 * (x.1 * m - N) = 0 := by grind
    rcases Int.mul_eq_zero.mp h4 with z | z <;> omega
theorem Is.bot {x : Fr} {N D : Int} (h : Is x N D) : x.2 ≤ D := by
  obtain ⟨m, h1, h2, h3⟩ := h.dvd
  have hp := h.red.pos
  rw [h2]
  have : x.2 * 1 ≤ x.2 * m := Int.mul_le_mul_of_nonneg_left (by omega) (by omega)
  omega
theorem Is.top {x : Fr} {N D : Int} (h : Is x N D) : x.1.natAbs ≤ N.natAbs := by
  obtain ⟨m, h1, h2, h3⟩ := h.dvd
  rw [h3, Int.natAbs_mul]
  exact Nat.le_mul_of_pos_right _ (by omega)
theorem Red.is {x : Fr} (h : Red x) : Is x x.1 x.2 := ⟨h, h.pos, rfl⟩
theorem Is.eq_iff {x y : Fr} {N1 N2 D1 D2 : Int} (h1 : Is x N1 D1) (h2 : Is y N2 D2) : x = y ↔ N1 * D2 = N2 * D1 := by
  have e1 := h1.eq
  have e2 := h2.eq
  have p1 := h1.red.pos
  have p2 := h2.red.pos
  constructor
  · intro e
    subst e
    have : x.2 * (N1 * D2 - N2 * D1) = 0 := by grind
    rcases Int.mul_eq_zero.mp this with z | z <;> omega
  · intro e
    -- x.1 * y.2 = y.1 * x.2
    have hc : x.1 * y.2 = y.1 * x.2 := by
      have hD1 := h1.pos
      have hD2 := h2.pos
      have : D1 * (D2 * (x.1 * y.2 - y.1 * x.2)) = 0 := by grind
      rcases Int.mul_eq_zero.mp this with z | z
      · omega
      · rcases Int.mul_eq_zero.mp z with z | z <;> omega
    have hy : Is x y.1 y.2 := ⟨h1.red, p2, hc⟩
    obtain ⟨m, m1, m2, m3⟩ := hy.dvd
    have hm : m = 1 := by
      have hg := h2.red.gcd
      rw [m2, m3, Int.gcd_mul_right, h1.red.gcd] at hg
      omega
    subst hm
    exact Prod.ext (by omega) (by omega)
/-! sizes -/
def B4 : Nat := 2 ^ 4000
def Sm (x : Int) : Prop := x.natAbs < B4
theorem Sm.log {x : Int} (h : Sm x) : x.natAbs.log2 < 4000 := PySem.Flt.log2_lt_of (by decide) h
theorem Sm.mul {x y : Int} (hx : Sm x) (hy : Sm y) : mulM x y = some (x * y) := by
  unfold mulM
  have h1 := hx.log
  have h2 := hy.log
  rw [if_pos (by omega)]
theorem Sm.fr {x y t : Int} (hx : Sm x) (hy : Sm y) (h : x * y ≠ 0) : fractionM t (x * y) = some (frac t (x * y)) := by
  unfold fractionM
  rw [if_pos]
  refine ⟨h, ?_⟩
  have h3 : (x * y).natAbs < 2 ^ (4000 + 4000) := by
    rw [Int.natAbs_mul, Nat.pow_add]
    exact Nat.mul_lt_mul'' hx hy
  exact Nat.lt_of_lt_of_le (PySem.Flt.log2_lt_of (by decide) h3) (by decide)
theorem Sm.le {x y : Int} (hy : Sm y) (h : x.natAbs ≤ y.natAbs) : Sm x := Nat.lt_of_le_of_lt h hy
theorem sm_of {x : Int} {n : Nat} (h : x.natAbs < 2 ^ n) (hn : n ≤ 4000) : Sm x := Nat.lt_of_lt_of_le h (Nat.pow_le_pow_right (by decide) hn)
theorem sm_small {x : Int} (h : x.natAbs < 2 ^ 64) : Sm x := sm_of h (by decide)
theorem sm_one : Sm 1 := sm_small (by decide)
structure IsS (x : Fr) (N D : Int) : Prop extends Is x N D where
  sN : Sm N
  sD : Sm D
theorem IsS.s1 {x : Fr} {N D : Int} (h : IsS x N D) : Sm x.1 := h.sN.le h.top
theorem IsS.s2 {x : Fr} {N D : Int} (h : IsS x N D) : Sm x.2 := h.sD.le (by have := h.bot; have := h.red.pos; omega)
theorem plus_is {x y : Fr} {N1 N2 D : Int} (hx : IsS x N1 D) (hy : IsS y N2 D) : ∃ z, plusM x y = some z ∧ Is z (N1 + N2) D := by
  have p1 := hx.red.pos
  have p2 := hy.red.pos
  have hne : x.2 * y.2 ≠ 0 := fun z => by rcases Int.mul_eq_zero.mp z with z | z <;> omega
  refine ⟨frac (x.1 * y.2 + y.1 * x.2) (x.2 * y.2), ?_, frac_is hne hx.pos ?_⟩
  · unfold plusM
    rw [hx.s1.mul hy.s2, hy.s1.mul hx.s2, hx.s2.mul hy.s2]
    exact hx.s2.fr hy.s2 hne
  · have e1 := hx.eq
    have e2 := hy.eq
    grind
theorem minus_is {x y : Fr} {N1 N2 D : Int} (hx : IsS x N1 D) (hy : IsS y N2 D) : ∃ z, minusM x y = some z ∧ Is z (N1 - N2) D := by
  have p1 := hx.red.pos
  have p2 := hy.red.pos
  have hne : x.2 * y.2 ≠ 0 := fun z => by rcases Int.mul_eq_zero.mp z with z | z <;> omega
  refine ⟨frac (x.1 * y.2 - y.1 * x.2) (x.2 * y.2), ?_, frac_is hne hx.pos ?_⟩
  · unfold minusM
    rw [hx.s1.mul hy.s2, hy.s1.mul hx.s2, hx.s2.mul hy.s2]
    exact hx.s2.fr hy.s2 hne
  · have e1 := hx.eq
    have e2 := hy.eq
    grind
theorem times_is {x : Fr} {N D n : Int} (hx : IsS x N D) (hn : Sm n) : ∃ z, timesM x n = some z ∧ Is z (N * n) D := by
  have p1 := hx.red.pos
  refine ⟨frac (x.1 * n) x.2, ?_, frac_is (by omega) hx.pos ?_⟩
  · unfold timesM
    rw [hx.s1.mul hn]
    show fractionM (x.1 * n) x.2 = _
    have := hx.s2.fr (t := x.1 * n) sm_one (by omega)
    rw [Int.mul_one] at this
    exact this
  · have e1 := hx.eq
    grind
theorem over_is {x : Fr} {N D n : Int} (hx : IsS x N D) (hn : Sm n) (h0 : 0 < n) : ∃ z, overM x n = some z ∧ Is z N (D * n) := by
  have p1 := hx.red.pos
  have hne : x.2 * n ≠ 0 := fun z => by rcases Int.mul_eq_zero.mp z with z | z <;> omega
  refine ⟨frac x.1 (x.2 * n), ?_, frac_is hne (Int.mul_pos hx.pos h0) ?_⟩
  · unfold overM
    rw [hx.s2.mul hn]
    exact hx.s2.fr hn hne
  · have e1 := hx.eq
    grind
theorem less_iff {x y : Fr} {N1 N2 D1 D2 : Int} (hx : Is x N1 D1) (hy : Is y N2 D2) : x.1 * y.2 < y.1 * x.2 ↔ N1 * D2 < N2 * D1 := by
  obtain ⟨m, m1, m2, m3⟩ := hx.dvd
  obtain ⟨n, n1, n2, n3⟩ := hy.dvd
  subst m2 m3 n2 n3
  have hmn : 0 < m * n := Int.mul_pos m1 n1
  have e1 : x.1 * m * (y.2 * n) = x.1 * y.2 * (m * n) := by grind
  have e2 : y.1 * n * (x.2 * m) = y.1 * x.2 * (m * n) := by grind
  rw [e1, e2]
  exact ⟨fun h => Int.mul_lt_mul_of_pos_right h hmn, fun h => Int.lt_of_mul_lt_mul_right h (by omega)⟩
theorem less_is {x y : Fr} {N1 N2 D1 D2 : Int} (hx : IsS x N1 D1) (hy : IsS y N2 D2) : isLessM x y = some (decide (N1 * D2 < N2 * D1)) := by
  unfold isLessM
  rw [hx.s1.mul hy.s2, hy.s1.mul hx.s2]
  show some (decide (x.1 * y.2 < y.1 * x.2)) = _
  congr 1
  exact decide_eq_decide.mpr (less_iff hx.toIs hy.toIs)
theorem lesser_is {x y : Fr} {N1 N2 D1 D2 : Int} (hx : IsS x N1 D1) (hy : IsS y N2 D2) : ∃ z, lesserM x y = some z ∧ (z = x ∨ z = y) := by
  unfold lesserM
  rw [less_is hy hx]
  refine ⟨_, rfl, ?_⟩
  split
  · exact .inr rfl
  · exact .inl rfl
theorem greater_is {x y : Fr} {N1 N2 D1 D2 : Int} (hx : IsS x N1 D1) (hy : IsS y N2 D2) : ∃ z, greaterM x y = some z ∧ (z = x ∨ z = y) := by
  unfold greaterM
  rw [less_is hx hy]
  refine ⟨_, rfl, ?_⟩
  split
  · exact .inr rfl
  · exact .inl rfl
theorem is_one {D : Int} (h : 0 < D) : Is (1, 1) D D := ⟨⟨by decide, by decide⟩, h, by show 1 * D = D * 1; omega⟩
theorem is_int (n : Int) : Is (n, 1) n 1 := ⟨⟨Int.one_pos, by simp⟩, Int.one_pos, rfl⟩
end G3
end
/-! G3M2 -/
section
set_option Elab.async false
set_option linter.all false
set_option maxRecDepth 100000
set_option maxHeartbeats 4000000
/-! G3M2: the plain law: folds that are defined; ways between. -/
namespace G3
section
variable {S α β ρ : Type}
theorem foldO_inv {f : S → α → Option S} (P : Nat → S → Prop) : ∀ (xs : List α) (k : Nat) (s : S), P k s → (∀ i s x, xs[i]? = some x → P (k + i) s → ∃ s', f s x = some s' ∧ P (k + i + 1) s') → ∃ s', foldO f s xs = some s' ∧ P (k + xs.length) s'
  | [], k, s, h, _ => ⟨s, rfl, h⟩
  | x :: r, k, s, h, hs => by
    obtain ⟨s', h1, h2⟩ := hs 0 s x rfl h
    obtain ⟨s2, h3, h4⟩ := foldO_inv P r (k + 1) s' h2 fun i s y hy hp => by
      have := hs (i + 1) s y (by simpa using hy) (by rw [show k + (i + 1) = k + 1 + i by omega]; exact hp)
      rw [show k + (i + 1) + 1 = k + 1 + i + 1 by omega] at this
      exact this
    refine ⟨s2, ?_, ?_⟩
    · unfold foldO; rw [h1]; exact h3
    · rw [List.length_cons, show k + (r.length + 1) = k + 1 + r.length by omega]; exact h4
theorem foldO_list {f : S → α → Option S} {xs : List α} {s : S} (P : Nat → S → Prop) (h0 : P 0 s) (hs : ∀ i s x, xs[i]? = some x → P i s → ∃ s', f s x = some s' ∧ P (i + 1) s') : ∃ s', foldO f s xs = some s' ∧ P xs.length s' := by
  have := foldO_inv P xs 0 s h0 (by simpa using hs)
  simpa using this
theorem foldO_range {f : S → Nat → Option S} {n : Nat} {s : S} (P : Nat → S → Prop) (h0 : P 0 s) (hs : ∀ i s, i < n → P i s → ∃ s', f s i = some s' ∧ P (i + 1) s') : ∃ s', foldO f s (List.range n) = some s' ∧ P n s' := by
  have := foldO_list (f := f) (xs := List.range n) P h0 fun i s x hx hp => by
    obtain ⟨hi, e⟩ := List.getElem?_eq_some_iff.mp hx
    rw [List.getElem_range] at e
    subst e
    exact hs i s (by simpa using hi) hp
  simpa using this
theorem foldR_inv {f : S → α → Option (Out ρ S)} (P : Nat → S → Prop) (R : ρ → Prop) : ∀ (xs : List α) (k : Nat) (s : S), P k s → (∀ i s x, xs[i]? = some x → P (k + i) s → ∃ o, f s x = some o ∧ (∀ r, o = .ret r → R r) ∧ ∀ s', o = .go s' → P (k + i + 1) s') →
    ∃ o, foldR f s xs = some o ∧ (∀ r, o = .ret r → R r) ∧ ∀ s', o = .go s' → P (k + xs.length) s'
  | [], k, s, h, _ => ⟨.go s, rfl, (fun r e => by cases e), fun s' e => by cases e; exact h⟩
  | x :: r, k, s, h, hs => by
    obtain ⟨o, h1, h2, h3⟩ := hs 0 s x rfl h
    cases o with
    | ret q =>
      refine ⟨.ret q, by unfold foldR; rw [h1], h2, fun s' e => by cases e⟩
    | go s' =>
      obtain ⟨o2, h4, h5, h6⟩ := foldR_inv P R r (k + 1) s' (h3 s' rfl) fun i s y hy hp => by
        have := hs (i + 1) s y (by simpa using hy) (by rw [show k + (i + 1) = k + 1 + i by omega]; exact hp)
        rw [show k + (i + 1) + 1 = k + 1 + i + 1 by omega] at this
        exact this
      refine ⟨o2, by unfold foldR; rw [h1]; exact h4, h5, fun s2 e => ?_⟩
      rw [List.length_cons, show k + (r.length + 1) = k + 1 + r.length by omega]; exact h6 s2 e
theorem foldR_list {f : S → α → Option (Out ρ S)} {xs : List α} {s : S} (P : Nat → S → Prop) (R : ρ → Prop) (h0 : P 0 s) (hs : ∀ i s x, xs[i]? = some x → P i s → ∃ o, f s x = some o ∧ (∀ r, o = .ret r → R r) ∧ ∀ s', o = .go s' → P (i + 1) s') :
    ∃ o, foldR f s xs = some o ∧ (∀ r, o = .ret r → R r) ∧ ∀ s', o = .go s' → P xs.length s' := by
  have := foldR_inv P R xs 0 s h0 (by simpa using hs)
  simpa using this
theorem foldR_range {f : S → Nat → Option (Out ρ S)} {n : Nat} {s : S} (P : Nat → S → Prop) (R : ρ → Prop) (h0 : P 0 s) (hs : ∀ i s, i < n → P i s → ∃ o, f s i = some o ∧ (∀ r, o = .ret r → R r) ∧ ∀ s', o = .go s' → P (i + 1) s') :
    ∃ o, foldR f s (List.range n) = some o ∧ (∀ r, o = .ret r → R r) ∧ ∀ s', o = .go s' → P n s' := by
  have := foldR_list (f := f) (xs := List.range n) P R h0 fun i s x hx hp => by
    obtain ⟨hi, e⟩ := List.getElem?_eq_some_iff.mp hx
    rw [List.getElem_range] at e
    subst e
    exact hs i s (by simpa using hi) hp
  simpa using this
theorem whileO_inv {c : S → Option Bool} {f : S → Option S} (P : Nat → S → Prop) (hs : ∀ m s, P m s → ∃ b, c s = some b ∧ (b = true → ∃ s' m', m' < m ∧ f s = some s' ∧ P m' s')) :
    ∀ (fuel m : Nat) (s : S), m < fuel → P m s → ∃ s1 m1, whileO c f fuel s = some s1 ∧ P m1 s1 ∧ c s1 = some false
  | 0, m, s, h, _ => by omega
  | fuel + 1, m, s, h, hp => by
    obtain ⟨b, h1, h2⟩ := hs m s hp
    cases b with
    | false => exact ⟨s, m, by unfold whileO; rw [h1], hp, h1⟩
    | true =>
      obtain ⟨s', m', h3, h4, h5⟩ := h2 rfl
      obtain ⟨s1, m1, h6, h7⟩ := whileO_inv P hs fuel m' s' (by omega) h5
      exact ⟨s1, m1, by unfold whileO; rw [h1]; show (match f s with | none => none | some s' => whileO c f fuel s') = _; rw [h4]; exact h6, h7⟩
theorem compO_def {f : α → Option (Option β)} : ∀ {xs : List α}, (∀ x ∈ xs, ∃ o, f x = some o) → ∃ ys, compO f xs = some ys
  | [], _ => ⟨[], rfl⟩
  | x :: r, h => by
    obtain ⟨o, ho⟩ := h x (List.mem_cons_self ..)
    obtain ⟨ys, hy⟩ := compO_def (xs := r) fun y hy => h y (List.mem_cons_of_mem _ hy)
    exact ⟨o.toList ++ ys, by unfold compO; rw [ho, hy]; rfl⟩
/-- one for each -/
theorem compO_all {f : α → Option (Option β)} {g : α → β} : ∀ {xs : List α}, (∀ x ∈ xs, f x = some (some (g x))) → compO f xs = some (xs.map g)
  | [], _ => rfl
  | x :: r, h => by
    unfold compO
    rw [h x (List.mem_cons_self ..), compO_all (xs := r) fun y hy => h y (List.mem_cons_of_mem _ hy)]
    rfl
theorem compO_flt {f : α → Option (Option α)} {p : α → Bool} : ∀ {xs : List α}, (∀ x ∈ xs, f x = some (if p x = true then some x else none)) → compO f xs = some (xs.filter p)
  | [], _ => rfl
  | x :: r, h => by
    unfold compO
    rw [h x (List.mem_cons_self ..), compO_flt (xs := r) fun y hy => h y (List.mem_cons_of_mem _ hy), List.filter_cons]
    by_cases q : p x = true <;> simp [q]
end
theorem snocM_ok {α : Type} {l : List α} {x : α} (h : l.length ≤ 1000) : snocM l x = some (l ++ [x]) := by unfold snocM; rw [if_pos h]
/-! ### keys -/
section
variable {α : Type} {d : List (Nat × α)} {k : Nat} {v : α}
theorem hasN_iff : hasN d k = true ↔ k ∈ d.map (·.1) := by
  unfold hasN
  rw [List.any_eq_true, List.mem_map]
  constructor
  · rintro ⟨p, h1, h2⟩; exact ⟨p, h1, by simpa using h2⟩
  · rintro ⟨p, h1, h2⟩; exact ⟨p, h1, by simpa using h2⟩
theorem hasN_not : hasN d k = false ↔ k ∉ d.map (·.1) := by
  rw [← Bool.not_eq_true, hasN_iff]
theorem putN_new (h : k ∉ d.map (·.1)) : putN d k v = d ++ [(k, v)] := by
  unfold putN
  rw [hasN_not.mpr h]; rfl
theorem lookN_at {i : Nat} (hd : (d.map (·.1)).Nodup) (h : d[i]? = some (k, v)) : lookN d k = some v := by
  unfold lookN
  induction d generalizing i with
  | nil => simp at h
  | cons p r ih =>
    rw [List.map_cons, List.nodup_cons] at hd
    cases i with
    | zero =>
      simp at h; subst h
      rw [List.find?_cons_of_pos (by simp)]; rfl
    | succ i =>
      simp at h
      have hm : k ∈ r.map (·.1) := List.mem_map.mpr ⟨(k, v), List.mem_of_getElem? h, rfl⟩
      have hne : ¬ (p.1 == k) = true := by
        intro e
        have e : p.1 = k := by simpa using e
        exact hd.1 (e ▸ hm)
      rw [List.find?_cons_of_neg (p := fun q : Nat × α => q.1 == k) hne]
      exact ih hd.2 h
theorem lookN_mem (h : lookN d k = some v) : (k, v) ∈ d := by
  unfold lookN at h
  obtain ⟨p, h1, h2⟩ := Option.map_eq_some_iff.mp h
  have h3 := List.find?_some h1
  have h4 := List.mem_of_find?_eq_some h1
  have h5 : p.1 = k := by simpa using h3
  rw [← h5, ← h2]; exact h4
theorem lookN_has (h : k ∈ d.map (·.1)) : ∃ v, lookN d k = some v := by
  unfold lookN
  induction d with
  | nil => simp at h
  | cons p r ih =>
    by_cases hp : (p.1 == k) = true
    · exact ⟨p.2, by rw [List.find?_cons_of_pos (p := fun q : Nat × α => q.1 == k) hp]; rfl⟩
    · rw [List.find?_cons_of_neg (p := fun q : Nat × α => q.1 == k) hp]
      refine ih ?_
      rw [List.map_cons, List.mem_cons] at h
      rcases h with h | h
      · exact absurd (by simp [h]) hp
      · exact h
end
theorem nodup_le : ∀ (n : Nat) (l : List Nat), l.Nodup → (∀ x ∈ l, x < n) → l.length ≤ n
  | 0, l, _, h => by
    cases l with
    | nil => exact Nat.le_refl _
    | cons a r => exact absurd (h a (List.mem_cons_self ..)) (Nat.not_lt_zero _)
  | n + 1, l, hd, h => by
    by_cases hn : n ∈ l
    · have h1 := nodup_le n (l.erase n) (hd.erase n) fun x hx => by
        have h2 := (List.Nodup.mem_erase_iff hd).mp hx
        have := h x h2.2
        omega
      rw [List.length_erase_of_mem hn] at h1
      omega
    · have h1 := nodup_le n l hd fun x hx => by
        have := h x hx
        have : x ≠ n := fun z => hn (z ▸ hx)
        omega
      omega
/-! ### who is reached -/
inductive Rch (W : Nat → Nat → Bool) (n : Nat) : Nat → Nat → Prop
  | refl (i : Nat) : Rch W n i i
  | tail {i j k : Nat} : Rch W n i j → W j k = true → k < n → Rch W n i k
theorem Rch.trans {W : Nat → Nat → Bool} {n i j k : Nat} (a : Rch W n i j) (b : Rch W n j k) : Rch W n i k := by
  induction b with
  | refl => exact a
  | tail _ h1 h2 ih => exact ih.tail h1 h2
theorem Rch.lt {W : Nat → Nat → Bool} {n i j : Nat} (h : Rch W n i j) (hi : i < n) : j < n := by
  cases h with
  | refl => exact hi
  | tail _ _ h => exact h
structure Bf (W : Nat → Nat → Bool) (n one : Nat) (d : Beh) : Prop where
  nd : (d.map (·.1)).Nodup
  lt : ∀ x ∈ d.map (·.1), x < n
  hd : d[0]? = some (one, none)
  par : ∀ i x v, d[i + 1]? = some (x, v) → ∃ p j u, v = some p ∧ j < i + 1 ∧ d[j]? = some (p, u)
  rch : ∀ x ∈ d.map (·.1), Rch W n one x
theorem Bf.len {W : Nat → Nat → Bool} {n one : Nat} {d : Beh} (h : Bf W n one d) : d.length ≤ n := by
  have h1 : (d.map (·.1)).length ≤ n := nodup_le n _ h.nd h.lt
  rw [List.length_map] at h1; exact h1
theorem Bf.put {W : Nat → Nat → Bool} {n one here there : Nat} {d : Beh} (h : Bf W n one d) (hh : here ∈ d.map (·.1)) (ht : there < n) (hw : W here there = true) (hn : there ∉ d.map (·.1)) : Bf W n one (d ++ [(there, some here)]) where
  nd := by
    rw [List.map_append]
    exact List.nodup_append.mpr ⟨h.nd, by simp, fun a ha b hb => by
      have e : b = there := by simpa using hb
      subst e; exact fun z => hn (z ▸ ha)⟩
  lt := fun x hx => by
    rw [List.map_append, List.mem_append] at hx
    rcases hx with hx | hx
    · exact h.lt x hx
    · have e : x = there := by simpa using hx
      subst e; exact ht
  hd := by
    have := h.hd
    obtain ⟨h0, _⟩ := List.getElem?_eq_some_iff.mp this
    rw [List.getElem?_append_left h0]; exact this
  par := fun i x v e => by
    by_cases hi : i + 1 < d.length
    · rw [List.getElem?_append_left hi] at e
      obtain ⟨p, j, u, h1, h2, h3⟩ := h.par i x v e
      exact ⟨p, j, u, h1, h2, by rw [List.getElem?_append_left (by omega)]; exact h3⟩
    · rw [List.getElem?_append_right (by omega)] at e
      obtain ⟨h1, h2⟩ := List.getElem?_eq_some_iff.mp e
      simp at h1
      simp at h2
      obtain ⟨rfl, rfl⟩ := h2
      obtain ⟨q, hq, hq2⟩ := List.mem_map.mp hh
      obtain ⟨j, hj, hj2⟩ := List.getElem_of_mem hq
      refine ⟨here, j, q.2, rfl, by omega, ?_⟩
      rw [List.getElem?_append_left hj, List.getElem?_eq_getElem hj, hj2, ← hq2]
  rch := fun x hx => by
    rw [List.map_append, List.mem_append] at hx
    rcases hx with hx | hx
    · exact h.rch x hx
    · have e : x = there := by simpa using hx
      subst e; exact (h.rch here hh).tail hw ht
theorem wayM_ok {W : Nat → Nat → Bool} {n : Nat} {ways : List (List Bool)} (hn : ways.length = n) (h1000 : n ≤ 1000) (hW : ∀ i j, i < n → j < n → idx2 ways i j = some (W i j)) {one other : Nat} (ho : one < n) (ht : other < n) :
    ∃ o, wayM ways one other = some o ∧ (o.isSome = true ↔ Rch W n one other) := by
  subst hn
  unfold wayM
  rw [if_pos h1000]
  -- the search
  obtain ⟨s, m, hs, ⟨hb, hwait, hcl, hm, _⟩, hc⟩ := whileO_inv (c := bfsGo other) (f := bfsStep ways)
    (fun m s => Bf W ways.length one s.1 ∧ (∀ x ∈ s.2, x ∈ s.1.map (·.1)) ∧ (∀ x ∈ s.1.map (·.1), x ∉ s.2 → ∀ y, y < ways.length → W x y = true → y ∈ s.1.map (·.1)) ∧ s.2.length + (ways.length - s.1.length) ≤ m ∧ m ≤ ways.length)
    (fun m s hp => by
      obtain ⟨beh, wt⟩ := s
      obtain ⟨hb, hwait, hcl, hm, hmn⟩ := hp
      refine ⟨_, rfl, fun hgo => ?_⟩
      cases wt with
      | nil => cases hgo
      | cons here rest =>
        have hh : here ∈ beh.map (·.1) := hwait here (List.mem_cons_self ..)
        have hhn := hb.lt here hh
        have hbl := hb.len
        have hm : rest.length + 1 + (ways.length - beh.length) ≤ m := hm
        obtain ⟨s', h1, h2, h3, h4, h5, h6, h7⟩ := foldO_range (f := bfsTurn ways here) (n := ways.length) (s := (beh, rest))
          (fun t s => Bf W ways.length one s.1 ∧ here ∈ s.1.map (·.1) ∧ (∀ x ∈ s.2, x ∈ s.1.map (·.1)) ∧ (∀ x ∈ s.1.map (·.1), x ∉ s.2 → x ≠ here → ∀ y, y < ways.length → W x y = true → y ∈ s.1.map (·.1)) ∧
            (∀ y, y < t → W here y = true → y ∈ s.1.map (·.1)) ∧ s.2.length + (ways.length - s.1.length) = rest.length + (ways.length - beh.length))
          ⟨hb, hh, fun x hx => hwait x (List.mem_cons_of_mem _ hx), fun x hx hx2 hx3 => hcl x hx (by
            intro z
            rcases List.mem_cons.mp z with z | z
            · exact hx3 z
            · exact hx2 z), fun y hy => by omega, rfl⟩
          (fun t s ht hp => by
            obtain ⟨d, q⟩ := s
            obtain ⟨h1, h2, h3, h4, h5, h6⟩ := hp
            have h1 : Bf W ways.length one d := h1
            have hdl : d.length ≤ ways.length := h1.len
            have h6 : q.length + (ways.length - d.length) = rest.length + (ways.length - beh.length) := h6
            have h2 : here ∈ d.map (·.1) := h2
            have h3 : ∀ x ∈ q, x ∈ d.map (·.1) := h3
            have h4 : ∀ x ∈ d.map (·.1), x ∉ q → x ≠ here → ∀ y, y < ways.length → W x y = true → y ∈ d.map (·.1) := h4
            have h5 : ∀ y, y < t → W here y = true → y ∈ d.map (·.1) := h5
            unfold bfsTurn
            rw [hW here t hhn ht]
            by_cases hcond : (W here t && !hasN d t) = true
            · rw [Bool.and_eq_true] at hcond
              have hw : W here t = true := hcond.1
              have hnot : t ∉ d.map (·.1) := hasN_not.mp (by simpa using hcond.2)
              have hdd : d.length < ways.length := by
                have h8 := (h1.put h2 ht hw hnot).len
                rw [List.length_append, List.length_singleton] at h8; omega
              have hmem : ∀ x, x ∈ (d ++ [(t, some here)]).map (·.1) ↔ x ∈ d.map (·.1) ∨ x = t := fun x => by simp
              refine ⟨(d ++ [(t, some here)], q ++ [t]), ?_, h1.put h2 ht hw hnot, (hmem _).mpr (.inl h2), ?_, ?_, ?_, ?_⟩
              · show (if (W here t && !hasN d t) = true then (if d.length ≤ 1000 then (snocM q t).bind fun z => some (putN d t (some here), z) else none) else some (d, q)) = _
                rw [if_pos (by rw [hcond.1, hcond.2]; rfl), if_pos (by omega), snocM_ok (by omega), putN_new hnot]; rfl
              · intro x hx
                rw [hmem]
                rcases List.mem_append.mp hx with hx | hx
                · exact .inl (h3 x hx)
                · exact .inr (List.mem_singleton.mp hx)
              · intro x hx hx2 hx3 y hy hxy
                rw [hmem] at hx ⊢
                rcases hx with hx | hx
                · exact .inl (h4 x hx (fun z => hx2 (List.mem_append.mpr (.inl z))) hx3 y hy hxy)
                · exact absurd (List.mem_append.mpr (.inr (List.mem_singleton.mpr hx))) hx2
              · intro y hy hwy
                rw [hmem]
                by_cases hyt : y = t
                · exact .inr hyt
                · exact .inl (h5 y (by omega) hwy)
              · show (q ++ [t]).length + (ways.length - (d ++ [(t, some here)]).length) = _
                rw [List.length_append, List.length_append, List.length_singleton, List.length_singleton]
                omega
            · refine ⟨(d, q), ?_, h1, h2, h3, h4, ?_, h6⟩
              · show (if (W here t && !hasN d t) = true then (if d.length ≤ 1000 then (snocM q t).bind fun z => some (putN d t (some here), z) else none) else some (d, q)) = _
                rw [if_neg hcond]
              · intro y hy hwy
                by_cases hyt : y = t
                · subst hyt
                  rw [hwy] at hcond
                  have : hasN d y = true := by simpa using hcond
                  exact hasN_iff.mp this
                · exact h5 y (by omega) hwy)
        refine ⟨s', rest.length + (ways.length - beh.length), by omega, ?_, h2, h4, ?_, by omega, by omega⟩
        · exact h1
        · intro x hx hx2 y hy hxy
          by_cases hxh : x = here
          · subst hxh; exact h6 y hy hxy
          · exact h5 x hx hx2 hxh y hy hxy)
    (ways.length + 2) ways.length ([(one, none)], [one]) (by omega)
    ⟨⟨by simp, fun x hx => by have e : x = one := by simpa using hx
                              subst e; exact ho, rfl, fun i x v e => by simp at e, fun x hx => by have e : x = one := by simpa using hx
                                                                                                  subst e; exact .refl _⟩, fun x hx => by simpa using hx, fun x hx hx2 => by
      have e : x = one := by simpa using hx
      exact absurd (by rw [e]; exact List.mem_cons_self ..) hx2, by show 1 + (ways.length - 1) ≤ ways.length; omega, Nat.le_refl _⟩
  rw [hs]
  show ∃ o, (if hasN s.1 other = true then (whileO (backGo one) (backStep s.1) (ways.length + 2) [other]).bind fun told => some (some told) else some none) = some o ∧ _
  have hbl := hb.len
  by_cases hother : hasN s.1 other = true
  · rw [if_pos hother]
    have hm2 := hasN_iff.mp hother
    obtain ⟨q, hq, hq2⟩ := List.mem_map.mp hm2
    obtain ⟨i, hi, hi2⟩ := List.getElem_of_mem hq
    obtain ⟨told, m1, h1, _⟩ := whileO_inv (c := backGo one) (f := backStep s.1) (fun m told => ∃ h t v, told = h :: t ∧ s.1[m]? = some (h, v) ∧ told.length + m ≤ ways.length)
      (fun m told hp => by
        obtain ⟨h, t, v, rfl, e1, e2⟩ := hp
        refine ⟨!decide (h = one), rfl, fun hgo => ?_⟩
        have hne : h ≠ one := by simpa using hgo
        cases m with
        | zero =>
          rw [hb.hd] at e1
          cases e1
          exact absurd rfl hne
        | succ m =>
          obtain ⟨p, j, u, rfl, hj, e3⟩ := hb.par m h v e1
          refine ⟨p :: h :: t, j, hj, ?_, p, h :: t, u, rfl, e3, ?_⟩
          · show (lookN s.1 h).bind (fun p => p.bind fun q => if (h :: t).length ≤ 1000 then some (q :: h :: t) else none) = _
            rw [lookN_at hb.nd e1]
            show (if (h :: t).length ≤ 1000 then some (p :: h :: t) else none) = _
            rw [if_pos (by omega)]
          · rw [List.length_cons]; omega)
      (ways.length + 2) i [other] (by omega) ⟨other, [], q.2, rfl, by rw [List.getElem?_eq_getElem hi, hi2, ← hq2], by show 1 + i ≤ _; omega⟩
    rw [h1]
    exact ⟨some told, rfl, fun _ => hb.rch other hm2, fun _ => rfl⟩
  · rw [if_neg hother]
    refine ⟨none, rfl, ⟨(fun z => by cases z), fun hr => ?_⟩⟩
    exfalso
    have hnot : other ∉ s.1.map (·.1) := fun z => hother (hasN_iff.mpr z)
    -- nothing waits
    have hw : s.2 = [] := by
      have hc : (!s.2.isEmpty && !hasN s.1 other) = false := Option.some.inj hc
      have : hasN s.1 other = false := by simpa using hother
      rw [this] at hc
      simpa using hc
    have hall : ∀ x, Rch W ways.length one x → x ∈ s.1.map (·.1) := by
      intro x hx
      induction hx with
      | refl =>
        have := hb.hd
        exact List.mem_map.mpr ⟨(one, none), List.mem_of_getElem? this, rfl⟩
      | tail a b c ih => exact hcl _ (ih) (by rw [hw]; simp) _ c b
    exact hnot (hall other hr)
end G3
end
/-! G3M3 -/
section
set_option Elab.async false
set_option linter.all false
set_option maxRecDepth 100000
set_option maxHeartbeats 4000000
/-! G3M3: the plain law: open ways, barring, the top class. -/
namespace G3
/-- a good cost matrix -/
structure Ok (C : Costs) (n : Nat) : Prop where
  len : C.length = n
  n1 : 1 ≤ n
  n12 : n ≤ 12
  rows : ∀ r ∈ C, r.length = n
  pos : ∀ i j x, idx2 C i j = some x → 0 < x
  big : ∀ i j x, idx2 C i j = some x → x < 8796093022208
def cc (C : Costs) (i j : Nat) : Int := (idx2 C i j).getD 0
section
variable {C : Costs} {n : Nat} (h : Ok C n)
include h
theorem Ok.at {i j : Nat} (hi : i < n) (hj : j < n) : idx2 C i j = some (cc C i j) := by
  unfold cc idx2
  have h1 : i < C.length := by rw [h.len]; exact hi
  rw [List.getElem?_eq_getElem h1]
  have h2 := h.rows _ (List.getElem_mem h1)
  show C[i][j]? = some ((C[i][j]?).getD 0)
  rw [List.getElem?_eq_getElem (by omega)]; rfl
theorem Ok.cp {i j : Nat} (hi : i < n) (hj : j < n) : 0 < cc C i j := h.pos i j _ (h.at hi hj)
theorem Ok.cb {i j : Nat} (hi : i < n) (hj : j < n) : cc C i j < 8796093022208 := h.big i j _ (h.at hi hj)
end
theorem idx2_mk {α : Type} {n m : Nat} {g : Nat → Nat → α} {i j : Nat} (hi : i < n) (hj : j < m) : idx2 ((List.range n).map fun i => (List.range m).map fun j => g i j) i j = some (g i j) := by
  unfold idx2
  rw [List.getElem?_map, List.getElem?_range hi]
  show ((List.range m).map fun j => g i j)[j]? = _
  rw [List.getElem?_map, List.getElem?_range hj]; rfl
/-- which ways are open -/
def ow (C : Costs) (i j : Nat) : Bool := !decide (j = i) && decide (cc C i j ≤ cc C i i)
def owM (C : Costs) (n : Nat) : List (List Bool) := (List.range n).map fun i => (List.range n).map fun j => ow C i j
theorem openWays_ok {C : Costs} {n : Nat} (h : Ok C n) : openWaysM C = some (owM C n) := by
  unfold openWaysM
  have hn := h.n12
  rw [if_pos (by rw [h.len]; omega), h.len]
  have hrow : ∀ k, k < n → owRow C k = some ((List.range n).map fun j => ow C k j) := fun k hk => by
    unfold owRow
    rw [h.len]
    refine compO_all fun j hj => ?_
    have hj := List.mem_range.mp hj
    unfold owCell ow
    by_cases hjk : j = k
    · rw [if_neg (by omega), decide_eq_true hjk]; rfl
    · rw [if_pos hjk, h.at hk hj, h.at hk hk, decide_eq_false hjk]; rfl
  have := foldO_snoc (f := fun told k => (owRow C k).bind fun r => snocM told r) (g := fun k => (List.range n).map fun j => ow C k j) (xs := List.range n) (acc := []) (by rw [List.length_range, List.length_nil]; omega) fun a k hk ha => by
    rw [hrow k (List.mem_range.mp hk)]
    exact snocM_ok ha
  rw [this]; rfl
theorem owM_len (C : Costs) (n : Nat) : (owM C n).length = n := by unfold owM; rw [List.length_map, List.length_range]
theorem owM_at (C : Costs) (n : Nat) : ∀ i j, i < n → j < n → idx2 (owM C n) i j = some (ow C i j) := fun i j hi hj => idx2_mk hi hj
/-- whether there is a way -/
def rb (ways : List (List Bool)) (i j : Nat) : Bool := ((wayM ways i j).bind id).isSome
structure Way (ways : List (List Bool)) (n : Nat) : Prop where
  ok : ∀ i j, i < n → j < n → ∃ o, wayM ways i j = some o ∧ o.isSome = rb ways i j
  refl : ∀ i, i < n → rb ways i i = true
  trans : ∀ i j k, i < n → j < n → k < n → rb ways i j = true → rb ways j k = true → rb ways i k = true
theorem way_ok {W : Nat → Nat → Bool} {n : Nat} {ways : List (List Bool)} (hn : ways.length = n) (h1000 : n ≤ 1000) (hW : ∀ i j, i < n → j < n → idx2 ways i j = some (W i j)) : Way ways n ∧ ∀ i j, i < n → j < n → (rb ways i j = true ↔ Rch W n i j) := by
  have key : ∀ i j, i < n → j < n → (∃ o, wayM ways i j = some o ∧ o.isSome = rb ways i j) ∧ (rb ways i j = true ↔ Rch W n i j) := fun i j hi hj => by
    obtain ⟨o, h1, h2⟩ := wayM_ok hn h1000 hW hi hj
    have h3 : o.isSome = rb ways i j := by unfold rb; rw [h1]; rfl
    exact ⟨⟨o, h1, h3⟩, by rw [← h3]; exact h2⟩
  refine ⟨⟨fun i j hi hj => (key i j hi hj).1, fun i hi => (key i i hi hi).2.mpr (.refl i), fun i j k hi hj hk a b => (key i k hi hk).2.mpr (((key i j hi hj).2.mp a).trans ((key j k hj hk).2.mp b))⟩, fun i j hi hj => (key i j hi hj).2⟩
theorem barring_ok {C : Costs} {n : Nat} (h : Ok C n) {ways : List (List Bool)} (w : Way ways n) : ∃ o, barringM C ways = some o := by
  unfold barringM
  have hn := h.n12
  rw [if_pos (by rw [h.len]; omega), h.len]
  obtain ⟨o, h1, _⟩ := foldR_range (f := fun _ k => foldR (brTurn C ways k) () (List.range n)) (n := n) (s := ()) (ρ := List Nat) (fun _ _ => True) (fun _ => True) trivial fun k s hk _ => by
    obtain ⟨o, h1, _⟩ := foldR_range (f := brTurn C ways k) (n := n) (s := ()) (fun _ _ => True) (fun _ => True) trivial fun j s hj _ => by
      unfold brTurn
      rw [h.at hk hj, h.at hk hk]
      obtain ⟨o, h1, _⟩ := w.ok j k hj hk
      simp only [Option.bind_some]
      by_cases hc : cc C k j < cc C k k
      · rw [if_pos hc, h1]
        exact ⟨_, rfl, fun _ _ => trivial, fun _ _ => trivial⟩
      · rw [if_neg hc]
        exact ⟨_, rfl, fun _ _ => trivial, fun _ _ => trivial⟩
    exact ⟨o, h1, fun _ _ => trivial, fun _ _ => trivial⟩
  rw [h1]
  exact ⟨_, rfl⟩
theorem filter_lt {α : Type} {p q : α → Bool} : ∀ {l : List α}, (∀ x ∈ l, p x = true → q x = true) → (∃ x ∈ l, q x = true ∧ p x = false) → (l.filter p).length < (l.filter q).length
  | [], _, ⟨x, hx, _⟩ => by simp at hx
  | a :: r, h1, ⟨x, hx, h2, h3⟩ => by
    have hle : (r.filter p).length ≤ (r.filter q).length := by
      clear h2 h3 hx
      induction r with
      | nil => exact Nat.le_refl _
      | cons b r ih =>
        have ih := ih fun x hx => h1 x (by
          rcases List.mem_cons.mp hx with z | z
          · rw [z]; exact List.mem_cons_self ..
          · exact List.mem_cons_of_mem _ (List.mem_cons_of_mem _ z))
        rw [List.filter_cons, List.filter_cons]
        have hb := h1 b (List.mem_cons_of_mem _ (List.mem_cons_self ..))
        by_cases hp : p b = true
        · rw [if_pos hp, if_pos (hb hp)]; simp; exact ih
        · rw [if_neg hp]
          split
          · simp; omega
          · exact ih
    rw [List.filter_cons, List.filter_cons]
    rcases List.mem_cons.mp hx with z | z
    · subst z
      rw [h3, h2]
      simp; omega
    · have ih := filter_lt (l := r) (fun x hx => h1 x (List.mem_cons_of_mem _ hx)) ⟨x, z, h2, h3⟩
      have ha := h1 a (List.mem_cons_self ..)
      by_cases hp : p a = true
      · rw [if_pos hp, if_pos (ha hp)]; simp; exact ih
      · rw [if_neg hp]
        split
        · simp; omega
        · exact ih
theorem top_exists {ways : List (List Bool)} {n : Nat} (w : Way ways n) {left : List Nat} (hl : ∀ x ∈ left, x < n) (hne : left ≠ []) : ∃ k ∈ left, ∀ j ∈ left, rb ways j k = true → rb ways k j = true := by
  have key : ∀ m k, k ∈ left → (left.filter fun j => rb ways j k).length ≤ m → ∃ k ∈ left, ∀ j ∈ left, rb ways j k = true → rb ways k j = true := by
    intro m
    induction m with
    | zero =>
      intro k hk h0
      have : k ∈ left.filter fun j => rb ways j k := List.mem_filter.mpr ⟨hk, w.refl k (hl k hk)⟩
      have := List.length_pos_of_mem this
      omega
    | succ m ih =>
      intro k hk h0
      by_cases hall : ∀ j ∈ left, rb ways j k = true → rb ways k j = true
      · exact ⟨k, hk, hall⟩
      · obtain ⟨j, hj⟩ := Classical.not_forall.mp hall
        obtain ⟨hj1, hj2⟩ := Classical.not_imp.mp hj
        obtain ⟨hj3, hj4⟩ := Classical.not_imp.mp hj2
        refine ih j hj1 ?_
        have := filter_lt (l := left) (p := fun i => rb ways i j) (q := fun i => rb ways i k) (fun x hx hxj => w.trans x j k (hl x hx) (hl j hj1) (hl k hk) hxj hj3) ⟨k, hk, w.refl k (hl k hk), by simpa using hj4⟩
        omega
  obtain ⟨a, r, e⟩ := List.exists_cons_of_ne_nil hne
  exact key _ a (by rw [e]; exact List.mem_cons_self ..) (Nat.le_refl _)
theorem topClass_ok {ways : List (List Bool)} {n : Nat} (w : Way ways n) (hn : n ≤ 1000) {left : List Nat} (hl : ∀ x ∈ left, x < n) (hlen : left.length ≤ 1000) (hne : left ≠ []) :
    ∃ k ∈ left, topClassM ways left = some (left.filter fun j => rb ways j k) ∧ ∀ j ∈ left, rb ways j k = true → rb ways k j = true := by
  unfold topClassM
  rw [if_pos hlen]
  have habove : ∀ k ∈ left, compO (tcAbove ways k) left = some (left.filter fun j => rb ways j k) := fun k hk => compO_flt fun j hj => by
    unfold tcAbove
    obtain ⟨o, h1, h2⟩ := w.ok j k (hl j hj) (hl k hk)
    rw [h1, ← h2]; rfl
  have hall : ∀ k ∈ left, compO (tcAll ways k) (left.filter fun j => rb ways j k) = some ((left.filter fun j => rb ways j k).map fun j => rb ways k j) := fun k hk => compO_all fun j hj => by
    unfold tcAll
    obtain ⟨o, h1, h2⟩ := w.ok k j (hl k hk) (hl j (List.mem_filter.mp hj).1)
    rw [h1, ← h2]; rfl
  have hturn : ∀ k ∈ left, tcTurn ways left () k = some (if ((left.filter fun j => rb ways j k).map fun j => rb ways k j).all id then .ret (left.filter fun j => rb ways j k) else .go ()) := fun k hk => by
    unfold tcTurn
    rw [habove k hk]
    show (compO (tcAll ways k) (left.filter fun j => rb ways j k)).bind _ = _
    rw [hall k hk]; rfl
  obtain ⟨o, h1, h2, h3⟩ := foldR_list (f := tcTurn ways left) (xs := left) (s := ()) (fun i _ => ∀ i' k, i' < i → left[i']? = some k → ¬ ∀ j ∈ left, rb ways j k = true → rb ways k j = true)
    (fun lv => ∃ k ∈ left, lv = (left.filter fun j => rb ways j k) ∧ ∀ j ∈ left, rb ways j k = true → rb ways k j = true) (fun i' k h => by omega) fun i s k hk hp => by
      have hkm := List.mem_of_getElem? hk
      refine ⟨_, hturn k hkm, ?_, ?_⟩
      · intro lv e
        split at e
        next hc =>
          cases e
          refine ⟨k, hkm, rfl, fun j hj hjk => ?_⟩
          have h5 := List.all_eq_true.mp hc (rb ways k j) (List.mem_map.mpr ⟨j, List.mem_filter.mpr ⟨hj, hjk⟩, rfl⟩)
          exact h5
        next => cases e
      · intro s' e
        split at e
        next => cases e
        next hc =>
          intro i' k' hi' hk'
          by_cases hii : i' = i
          · subst hii
            rw [hk] at hk'
            cases hk'
            intro z
            apply hc
            rw [List.all_eq_true]
            intro b hb
            obtain ⟨j, hj, rfl⟩ := List.mem_map.mp hb
            exact z j (List.mem_filter.mp hj).1 (List.mem_filter.mp hj).2
          · exact hp i' k' (by omega) hk'
  cases o with
  | ret lv =>
    obtain ⟨k, hk, e, h5⟩ := h2 lv rfl
    refine ⟨k, hk, ?_, h5⟩
    rw [h1, ← e]; rfl
  | go s =>
    exfalso
    obtain ⟨k, hk, h5⟩ := top_exists w hl hne
    obtain ⟨i, hi, e⟩ := List.getElem_of_mem hk
    exact h3 s rfl i k hi (by rw [List.getElem?_eq_getElem hi, e]) h5
end G3
end
/-! G3M4 -/
section
set_option Elab.async false
set_option linter.all false
set_option maxRecDepth 100000
set_option maxHeartbeats 4000000
/-! G3M4: the plain law: the wish of any kind is told. -/
namespace G3
theorem nb_mul {a b : Int} {m k : Nat} (ha : a.natAbs < 2 ^ m) (hb : b.natAbs < 2 ^ k) : (a * b).natAbs < 2 ^ (m + k) := by
  rw [Int.natAbs_mul, Nat.pow_add]; exact Nat.mul_lt_mul'' ha hb
theorem nb_add {a b : Int} {m : Nat} (ha : a.natAbs < 2 ^ m) (hb : b.natAbs < 2 ^ m) : (a + b).natAbs < 2 ^ (m + 1) := by
  have := Int.natAbs_add_le a b
  rw [Nat.pow_succ]; omega
theorem nb_sub {a b : Int} {m : Nat} (ha : a.natAbs < 2 ^ m) (hb : b.natAbs < 2 ^ m) : (a - b).natAbs < 2 ^ (m + 1) := by
  have := Int.natAbs_sub_le a b
  rw [Nat.pow_succ]; omega
theorem nb_mono {a : Int} {m k : Nat} (ha : a.natAbs < 2 ^ m) (h : m ≤ k) : a.natAbs < 2 ^ k := Nat.lt_of_lt_of_le ha (Nat.pow_le_pow_right (by decide) h)
def Bd (x : Fr) (D : Int) (e : Nat) : Prop := ∃ N, Is x N D ∧ N.natAbs < 2 ^ e
theorem Bd.mono {x : Fr} {D : Int} {e e' : Nat} (h : Bd x D e) (l : e ≤ e') : Bd x D e' := by
  obtain ⟨N, h1, h2⟩ := h
  exact ⟨N, h1, nb_mono h2 l⟩
theorem Is.scale {x : Fr} {N D d : Int} (h : Is x N D) (hd : 0 < d) : Is x (N * d) (D * d) := ⟨h.red, Int.mul_pos h.pos hd, by have := h.eq; grind⟩
theorem Bd.scale {x : Fr} {D d : Int} {e : Nat} (h : Bd x D e) (hd : 0 < d) (hb : d.natAbs < 2 ^ 44) : Bd x (D * d) (e + 44) := by
  obtain ⟨N, h1, h2⟩ := h
  exact ⟨_, h1.scale hd, nb_mul h2 hb⟩
section
variable {x y : Fr} {D : Int} {e : Nat} (hx : Bd x D e) (he : e ≤ 4000) (hD : Sm D)
include hx he hD
theorem Bd.s : ∃ N, IsS x N D ∧ N.natAbs < 2 ^ e := by
  obtain ⟨N, h1, h2⟩ := hx
  exact ⟨N, ⟨h1, sm_of h2 he, hD⟩, h2⟩
theorem Bd.times {n : Int} (hn : n.natAbs < 2 ^ 44) : ∃ z, timesM x n = some z ∧ Bd z D (e + 44) := by
  obtain ⟨N, h1, h2⟩ := hx.s he hD
  obtain ⟨z, h3, h4⟩ := times_is h1 (sm_of hn (by decide))
  exact ⟨z, h3, _, h4, nb_mul h2 hn⟩
theorem Bd.over {n : Int} (h0 : 0 < n) (hn : n.natAbs < 2 ^ 44) : ∃ z, overM x n = some z ∧ Bd z (D * n) e := by
  obtain ⟨N, h1, h2⟩ := hx.s he hD
  obtain ⟨z, h3, h4⟩ := over_is h1 (sm_of hn (by decide)) h0
  exact ⟨z, h3, _, h4, h2⟩
variable (hy : Bd y D e)
include hy
theorem Bd.plus : ∃ z, plusM x y = some z ∧ Bd z D (e + 1) := by
  obtain ⟨N, h1, h2⟩ := hx.s he hD
  obtain ⟨M, h3, h4⟩ := hy.s he hD
  obtain ⟨z, h5, h6⟩ := plus_is h1 h3
  exact ⟨z, h5, _, h6, nb_add h2 h4⟩
theorem Bd.minus : ∃ z, minusM x y = some z ∧ Bd z D (e + 1) := by
  obtain ⟨N, h1, h2⟩ := hx.s he hD
  obtain ⟨M, h3, h4⟩ := hy.s he hD
  obtain ⟨z, h5, h6⟩ := minus_is h1 h3
  exact ⟨z, h5, _, h6, nb_sub h2 h4⟩
theorem Bd.lesser : ∃ z, lesserM x y = some z ∧ Bd z D e := by
  obtain ⟨N, h1, h2⟩ := hx.s he hD
  obtain ⟨M, h3, h4⟩ := hy.s he hD
  obtain ⟨z, h5, h6⟩ := lesser_is h1 h3
  refine ⟨z, h5, ?_⟩
  rcases h6 with rfl | rfl
  · exact hx
  · exact hy
end
theorem flt_not {α : Type} {p q : α → Bool} : ∀ {l : List α}, (∀ x ∈ l, p x = !q x) → (l.filter p).length + (l.filter q).length = l.length
  | [], _ => rfl
  | a :: r, h => by
    have ih := flt_not (l := r) fun x hx => h x (List.mem_cons_of_mem _ hx)
    have ha := h a (List.mem_cons_self ..)
    rw [List.filter_cons, List.filter_cons, ha]
    cases hq : q a <;> simp <;> omega
section
variable {C : Costs} {n : Nat}
theorem Ok.sub (h : Ok C n) {i j k l : Nat} (hi : i < n) (hj : j < n) (hk : k < n) (hl : l < n) : (cc C i j - cc C k l).natAbs < 2 ^ 44 := by
  have := h.cp hi hj
  have := h.cb hi hj
  have := h.cp hk hl
  have := h.cb hk hl
  have : (2 : Nat) ^ 44 = 17592186044416 := by decide
  omega
structure AwI (n : Nat) (ways : List (List Bool)) (s : Aw) (e f : Nat) : Prop where
  ks : s.vs.map (·.1) = s.ws.map (·.1)
  lt : ∀ k ∈ s.ws.map (·.1), k < n
  ll : ∀ k ∈ s.left, k < n
  nl : s.left.Nodup
  dj : ∀ k ∈ s.ws.map (·.1), k ∉ s.left
  cov : ∀ k, k < n → k ∈ s.ws.map (·.1) ∨ k ∈ s.left
  len : s.ws.length + s.left.length = n
  sep : ∀ j ∈ s.ws.map (·.1), ∀ k ∈ s.left, rb ways k j = false
  val : ∃ D, 0 < D ∧ D.natAbs < 2 ^ f ∧ (∀ p ∈ s.ws, Bd p.2 D e) ∧ ∀ p ∈ s.vs, Bd p.2 D e
theorem awStep_ok (h : Ok C n) {ways : List (List Bool)} (hways : ways = owM C n) (w : Way ways n) (hr : ∀ i j, i < n → j < n → (rb ways i j = true ↔ Rch (ow C) n i j)) {s : Aw} {e f : Nat} (hfe : f ≤ e) (hf1 : 1 ≤ f) (he : e ≤ 3000) (i : AwI n ways s e f) (hne : s.left ≠ []) :
    ∃ s', awStep C ways s = some s' ∧ s'.left.length < s.left.length ∧ AwI n ways s' (e + 89) (f + 44) := by
  have hn12 := h.n12
  have hlen := i.len
  obtain ⟨top, ht1, ht2, ht3⟩ := topClass_ok w (by omega) i.ll (by omega) hne
  obtain ⟨D, hD0, hDf, hws, hvs⟩ := i.val
  have hDs : Sm D := sm_of hDf (by omega)
  have hone : Bd (1, 1) D e := ⟨D, is_one hD0, nb_mono hDf hfe⟩
  let level := s.left.filter fun j => rb ways j top
  have hlv : ∀ k ∈ level, k ∈ s.left := fun k hk => (List.mem_filter.mp hk).1
  have hlvlt : ∀ k ∈ level, k < n := fun k hk => i.ll k (hlv k hk)
  have lws : ∀ j ∈ s.ws.map (·.1), ∃ x, lookN s.ws j = some x ∧ Bd x D e := fun j hj => by
    obtain ⟨x, hx⟩ := lookN_has hj
    exact ⟨x, hx, hws _ (lookN_mem hx)⟩
  have lvs : ∀ j ∈ s.ws.map (·.1), ∃ x, lookN s.vs j = some x ∧ Bd x D e := fun j hj => by
    obtain ⟨x, hx⟩ := lookN_has (d := s.vs) (by rw [i.ks]; exact hj)
    exact ⟨x, hx, hvs _ (lookN_mem hx)⟩
  -- the worth
  obtain ⟨worth, hw1, hw2⟩ := foldO_list (f := fun worth j => foldO (awWorth C s.ws s.vs j) worth level) (xs := s.ws.map (·.1)) (s := ((1, 1) : Fr)) (fun _ x => Bd x D (e + 45)) (hone.mono (by omega)) fun _ x j hj hx => by
    have hjm := List.mem_of_getElem? hj
    have hjn := i.lt j hjm
    exact foldO_list (f := awWorth C s.ws s.vs j) (xs := level) (s := x) (fun _ x => Bd x D (e + 45)) hx fun _ x k hk hx => by
      have hkn := hlvlt k (List.mem_of_getElem? hk)
      obtain ⟨wj, a1, a2⟩ := lws j hjm
      obtain ⟨vj, b1, b2⟩ := lvs j hjm
      obtain ⟨t, c1, c2⟩ := b2.times (by omega) hDs (h.sub hjn hkn hjn hjn)
      obtain ⟨th, d1, d2⟩ := (a2.mono (e' := e + 44) (by omega)).plus (by omega) hDs c2
      obtain ⟨l, e1, e2⟩ := d2.lesser (by omega) hDs (a2.mono (by omega))
      obtain ⟨z, f1, f2⟩ := hx.lesser (by omega) hDs e2
      refine ⟨z, ?_, f2⟩
      unfold awWorth awThere
      rw [a1, b1, h.at hjn hkn, h.at hjn hjn]
      simp only [Option.bind_some]
      rw [c1]
      simp only [Option.bind_some]
      rw [d1]
      simp only [Option.bind_some]
      rw [e1]
      exact f1
  -- the weight
  obtain ⟨weight, hu1, d0, hd0, hdb, hu2⟩ := foldO_list (f := fun weight j => foldO (awWeight C s.ws worth j) weight level) (xs := s.ws.map (·.1)) (s := ((1, 1) : Fr)) (fun _ x => ∃ d, 0 < d ∧ d.natAbs < 2 ^ 44 ∧ Bd x (D * d) (e + 46)) ⟨1, by decide, by decide, by rw [Int.mul_one]; exact hone.mono (by omega)⟩ fun _ x j hj hx => by
    have hjm := List.mem_of_getElem? hj
    have hjn := i.lt j hjm
    exact foldO_list (f := awWeight C s.ws worth j) (xs := level) (s := x) (fun _ x => ∃ d, 0 < d ∧ d.natAbs < 2 ^ 44 ∧ Bd x (D * d) (e + 46)) hx fun _ x k hk hx => by
      have hkl := List.mem_of_getElem? hk
      have hkn := hlvlt k hkl
      have hlt : cc C k k < cc C k j := by
        have h1 := i.sep j hjm k (hlv k hkl)
        have h2 : ow C k j ≠ true := fun z => by
          have := (hr k j hkn hjn).mpr ((Rch.refl k).tail z hjn)
          rw [h1] at this; cases this
        unfold ow at h2
        have hjk : j ≠ k := fun z => i.dj j hjm (by rw [z]; exact hlv k hkl)
        rw [decide_eq_false hjk] at h2
        simp at h2
        omega
      have hdp : 0 < cc C k j - cc C k k := by omega
      have hdbb := h.sub hkn hjn hkn hkn
      obtain ⟨wj, a1, a2⟩ := lws j hjm
      obtain ⟨m, b1, b2⟩ := (a2.mono (e' := e + 45) (by omega)).minus (by omega) hDs hw2
      obtain ⟨o, c1, c2⟩ := b2.over (by omega) hDs hdp hdbb
      obtain ⟨d, x1, x2, x3⟩ := hx
      have hs : ∀ q : Int, q.natAbs < 2 ^ 44 → Sm (D * q) := fun q hq => sm_of (nb_mul hDf hq) (by omega)
      obtain ⟨N1, y1, _⟩ := x3.s (by omega) (hs _ x2)
      obtain ⟨N2, y2, _⟩ := c2.s (by omega) (hs _ hdbb)
      obtain ⟨z, g1, g2⟩ := greater_is y1 y2
      refine ⟨z, ?_, ?_⟩
      · unfold awWeight
        rw [a1]
        simp only [Option.bind_some]
        rw [b1, h.at hkn hjn, h.at hkn hkn]
        simp only [Option.bind_some]
        rw [c1]
        exact g1
      · rcases g2 with rfl | rfl
        · exact ⟨d, x1, x2, x3⟩
        · exact ⟨_, hdp, hdbb, c2⟩
  -- both put down
  have hnlv : level.Nodup := i.nl.filter _
  have hlvlen : level.length ≤ s.left.length := List.length_filter_le _ _
  obtain ⟨p, hp1, hp2, hp3⟩ := foldO_list (f := awPut worth weight) (xs := level) (s := (s.ws, s.vs)) (fun t p => p.1 = s.ws ++ (level.take t).map (fun k => (k, worth)) ∧ p.2 = s.vs ++ (level.take t).map fun k => (k, weight)) (by simp) fun t p k hk ⟨p1, p2⟩ => by
    obtain ⟨htl, hte⟩ := List.getElem?_eq_some_iff.mp hk
    have hvl : s.vs.length = s.ws.length := by have := congrArg List.length i.ks; simpa using this
    have hkt : k ∉ level.take t := fun z => by
      have h1 := hnlv
      rw [← List.take_append_drop t level] at h1
      have h2 := (List.nodup_append.mp h1).2.2 k z k (by
        rw [List.drop_eq_getElem_cons htl, hte]; exact List.mem_cons_self ..)
      exact h2 rfl
    have hkk : k ∉ s.ws.map (·.1) := fun z => i.dj k z (hlv k (List.mem_of_getElem? hk))
    refine ⟨(putN p.1 k worth, putN p.2 k weight), ?_, ?_, ?_⟩
    · unfold awPut
      rw [if_pos]
      rw [p1, p2]
      simp
      omega
    · show putN p.1 k worth = _
      rw [putN_new, p1, List.append_assoc, List.take_succ, hk]
      · simp
      · rw [p1]; simp only [List.map_append, List.mem_append, List.map_map]
        intro z
        rcases z with z | z
        · exact hkk z
        · apply hkt; simpa [Function.comp_def] using z
    · show putN p.2 k weight = _
      rw [putN_new, p2, List.append_assoc, List.take_succ, hk]
      · simp
      · rw [p2]; simp only [List.map_append, List.mem_append, List.map_map]
        intro z
        rcases z with z | z
        · rw [i.ks] at z; exact hkk z
        · apply hkt; simpa [Function.comp_def] using z
  rw [List.take_length] at hp2 hp3
  have htop : top ∈ level := List.mem_filter.mpr ⟨ht1, w.refl top (i.ll top ht1)⟩
  have hll : (s.left.filter fun k => !decide (k ∈ level)).length + level.length = s.left.length := flt_not fun x hx => by
    congr 1
    by_cases hq : rb ways x top = true
    · rw [hq]; exact decide_eq_true (List.mem_filter.mpr ⟨hx, hq⟩)
    · rw [show rb ways x top = false by simpa using hq]; exact decide_eq_false fun z => hq (List.mem_filter.mp z).2
  have hlpos := List.length_pos_of_mem htop
  refine ⟨⟨p.1, p.2, s.left.filter fun k => !decide (k ∈ level)⟩, ?_, ?_, ?_⟩
  · unfold awStep
    rw [ht2]
    simp only [Option.bind_some]
    rw [hw1]
    simp only [Option.bind_some]
    rw [hu1]
    simp only [Option.bind_some]
    rw [hp1]; rfl
  · show (s.left.filter fun k => !decide (k ∈ level)).length < _
    omega
  · have hk1 : p.1.map (·.1) = s.ws.map (·.1) ++ level := by rw [hp2]; simp [Function.comp_def]
    have hk2 : p.2.map (·.1) = s.ws.map (·.1) ++ level := by rw [hp3, List.map_append, i.ks]; simp [Function.comp_def]
    have hlf : ∀ k, k ∈ (s.left.filter fun k => !decide (k ∈ level)) → k ∈ s.left ∧ k ∉ level := fun k hk => by
      have := List.mem_filter.mp hk
      exact ⟨this.1, by simpa using this.2⟩
    refine ⟨by show p.2.map _ = p.1.map _; rw [hk1, hk2], ?_, fun k hk => i.ll k (hlf k hk).1, i.nl.filter _, ?_, ?_, ?_, ?_, ?_⟩
    · intro k hk
      have hk : k ∈ p.1.map (·.1) := hk
      rw [hk1] at hk
      rcases List.mem_append.mp hk with z | z
      · exact i.lt k z
      · exact hlvlt k z
    · intro k hk hk'
      have hk : k ∈ p.1.map (·.1) := hk
      rw [hk1] at hk
      rcases List.mem_append.mp hk with z | z
      · exact i.dj k z (hlf k hk').1
      · exact (hlf k hk').2 z
    · intro k hk
      show k ∈ p.1.map (·.1) ∨ _
      rw [hk1]
      rcases i.cov k hk with z | z
      · exact .inl (List.mem_append_left _ z)
      · by_cases q : k ∈ level
        · exact .inl (List.mem_append_right _ q)
        · exact .inr (List.mem_filter.mpr ⟨z, by simpa using q⟩)
    · show p.1.length + (s.left.filter fun k => !decide (k ∈ level)).length = n
      rw [hp2, List.length_append, List.length_map]
      omega
    · intro j hj k hk
      have hj : j ∈ p.1.map (·.1) := hj
      rw [hk1] at hj
      obtain ⟨hk1, hk2⟩ := hlf k hk
      rcases List.mem_append.mp hj with z | z
      · exact i.sep j z k hk1
      · cases hb : rb ways k j with
        | false => rfl
        | true =>
          exfalso
          apply hk2
          have := List.mem_filter.mp z
          exact List.mem_filter.mpr ⟨hk1, w.trans k j top (i.ll k hk1) (hlvlt j z) (i.ll top ht1) hb this.2⟩
    · refine ⟨D * d0, Int.mul_pos hD0 hd0, nb_mul hDf hdb, ?_, ?_⟩
      · intro q hq
        have hq : q ∈ p.1 := hq
        rw [hp2] at hq
        rcases List.mem_append.mp hq with z | z
        · exact ((hws q z).scale hd0 hdb).mono (by omega)
        · obtain ⟨k, _, rfl⟩ := List.mem_map.mp z
          exact (hw2.scale hd0 hdb).mono (by omega)
      · intro q hq
        have hq : q ∈ p.2 := hq
        rw [hp3] at hq
        rcases List.mem_append.mp hq with z | z
        · exact ((hvs q z).scale hd0 hdb).mono (by omega)
        · obtain ⟨k, _, rfl⟩ := List.mem_map.mp z
          exact hu2.mono (by omega)
theorem anyWish_ok (h : Ok C n) : ∃ o, anyWishM C (owM C n) = some o := by
  have hn12 := h.n12
  obtain ⟨w, hr⟩ := way_ok (owM_len C n) (by omega) (owM_at C n)
  unfold anyWishM
  rw [if_pos (by rw [h.len]; omega), h.len]
  obtain ⟨s, m, h1, ⟨h2, t, h3, h4⟩, h5⟩ := whileO_inv (c := awGo) (f := awStep C (owM C n)) (fun m s => m = s.left.length ∧ ∃ t, t + s.left.length ≤ n ∧ AwI n (owM C n) s (89 * t + 1) (44 * t + 1)) (fun m s ⟨hm, t, ht, i⟩ => by
    refine ⟨_, rfl, fun hb => ?_⟩
    have hne : s.left ≠ [] := fun z => by rw [z] at hb; cases hb
    obtain ⟨s', a1, a2, a3⟩ := awStep_ok h rfl w hr (by omega) (by omega) (by omega) i hne
    refine ⟨s', s'.left.length, by omega, a1, rfl, t + 1, by omega, ?_⟩
    rw [show 89 * (t + 1) + 1 = 89 * t + 1 + 89 by omega, show 44 * (t + 1) + 1 = 44 * t + 1 + 44 by omega]
    exact a3) (n + 2) n ⟨[], [], List.range n⟩ (by omega) ⟨by simp, 0, by simp, ⟨rfl, (fun k hk => by cases hk), (fun k hk => List.mem_range.mp hk), List.nodup_range, (fun k hk => by cases hk), (fun k hk => .inr (List.mem_range.mpr hk)), by simp, (fun k hk => by cases hk), 1, by decide, by decide, (fun p hp => by cases hp), fun p hp => by cases hp⟩⟩
  have hl : s.left = [] := by
    unfold awGo at h5
    cases e : s.left with
    | nil => rfl
    | cons a r => rw [e] at h5; cases h5
  have hcov : ∀ k, k < n → k ∈ s.ws.map (·.1) := fun k hk => by
    rcases h4.cov k hk with z | z
    · exact z
    · rw [hl] at z; cases z
  obtain ⟨a, ha⟩ := compO_def (f := fun k => (lookN s.ws k).bind fun x => some (some x)) (xs := List.range n) fun k hk => by
    obtain ⟨x, hx⟩ := lookN_has (hcov k (List.mem_range.mp hk))
    rw [hx]; exact ⟨_, rfl⟩
  obtain ⟨b, hb⟩ := compO_def (f := fun k => (lookN s.vs k).bind fun x => some (some x)) (xs := List.range n) fun k hk => by
    obtain ⟨x, hx⟩ := lookN_has (d := s.vs) (by rw [h4.ks]; exact hcov k (List.mem_range.mp hk))
    rw [hx]; exact ⟨_, rfl⟩
  rw [h1]
  simp only [Option.bind_some]
  rw [ha]
  simp only [Option.bind_some]
  rw [hb]
  exact ⟨_, rfl⟩
theorem toldAny_ok (h : Ok C n) : ∃ o, toldAnyM C = some o := by
  have hn12 := h.n12
  obtain ⟨w, hr⟩ := way_ok (owM_len C n) (by omega) (owM_at C n)
  obtain ⟨f, hf⟩ := barring_ok h w
  obtain ⟨o, ho⟩ := anyWish_ok h
  unfold toldAnyM
  rw [openWays_ok h]
  simp only [Option.bind_some]
  rw [hf]
  simp only [Option.bind_some]
  split
  · exact ⟨_, rfl⟩
  · rw [ho]; exact ⟨_, rfl⟩
end
end G3
end
/-! G3M5 -/
section
set_option Elab.async false
set_option linter.all false
set_option maxRecDepth 100000
set_option maxHeartbeats 4000000
/-! G3M5: the plain law: the leak is told. -/
namespace G3
/-- n rows of n things that are all alike -/
structure Sq {α : Type} (n : Nat) (P : α → Prop) (m : List (List α)) : Prop where
  len : m.length = n
  rows : ∀ r ∈ m, r.length = n ∧ ∀ x ∈ r, P x
section
variable {α β : Type} {n : Nat} {P : α → Prop} {m : List (List α)}
theorem Sq.at (h : Sq n P m) {i j : Nat} (hi : i < n) (hj : j < n) : ∃ x, idx2 m i j = some x ∧ P x := by
  have h1 : i < m.length := by rw [h.len]; exact hi
  obtain ⟨h2, h3⟩ := h.rows _ (List.getElem_mem h1)
  have h4 : j < m[i].length := by rw [h2]; exact hj
  refine ⟨m[i][j], ?_, h3 _ (List.getElem_mem h4)⟩
  unfold idx2
  rw [List.getElem?_eq_getElem h1]
  exact List.getElem?_eq_getElem h4
theorem Sq.set (h : Sq n P m) {i j : Nat} (hi : i < n) {x : α} (hx : P x) : Sq n P (set2 m i j x) := by
  unfold set2
  refine ⟨by rw [List.length_set]; exact h.len, fun r hr => ?_⟩
  rcases List.mem_or_eq_of_mem_set hr with z | z
  · exact h.rows r z
  · have h1 : i < m.length := by rw [h.len]; exact hi
    have h2 : m.getD i [] = m[i] := by simp [List.getD, h1]
    rw [h2] at z
    obtain ⟨h3, h4⟩ := h.rows _ (List.getElem_mem h1)
    subst z
    refine ⟨by rw [List.length_set]; exact h3, fun y hy => ?_⟩
    rcases List.mem_or_eq_of_mem_set hy with w | w
    · exact h4 y w
    · rw [w]; exact hx
theorem compO_sq {f : β → Option (Option α)} {P : α → Prop} : ∀ {xs : List β}, (∀ x ∈ xs, ∃ y, f x = some (some y) ∧ P y) → ∃ ys, compO f xs = some ys ∧ ys.length = xs.length ∧ ∀ y ∈ ys, P y
  | [], _ => ⟨[], rfl, rfl, fun y hy => by cases hy⟩
  | x :: r, h => by
    obtain ⟨y, h1, h2⟩ := h x (List.mem_cons_self ..)
    obtain ⟨ys, h3, h4, h5⟩ := compO_sq (xs := r) fun z hz => h z (List.mem_cons_of_mem _ hz)
    refine ⟨y :: ys, by unfold compO; rw [h1, h3]; rfl, by simp [h4], fun z hz => ?_⟩
    rcases List.mem_cons.mp hz with q | q
    · rw [q]; exact h2
    · exact h5 z q
/-- row after row put behind -/
theorem foldO_rows {g : Nat → Option α} {Q : α → Prop} {n : Nat} (hn : n ≤ 1000) (h : ∀ k, k < n → ∃ r, g k = some r ∧ Q r) {f : List α → Nat → Option (List α)} (hf : ∀ m k, f m k = (g k).bind fun r => snocM m r) : ∃ m, foldO f [] (List.range n) = some m ∧ m.length = n ∧ ∀ r ∈ m, Q r := by
  obtain ⟨m, h1, h2, h3⟩ := foldO_range (f := f) (n := n) (s := []) (fun i m => m.length = i ∧ ∀ r ∈ m, Q r) ⟨rfl, fun r hr => by cases hr⟩ fun i m hi ⟨a, b⟩ => by
    obtain ⟨r, h3, h4⟩ := h i hi
    refine ⟨m ++ [r], by rw [hf, h3]; exact snocM_ok (by omega), by simp [a], fun y hy => ?_⟩
    rcases List.mem_append.mp hy with z | z
    · exact b y z
    · rw [List.mem_singleton.mp z]; exact h4
  exact ⟨m, h1, h2, h3⟩
end
/-- a plain fraction -/
structure Pl (x : Fr) : Prop where
  red : Red x
  top : x.1.natAbs < 2 ^ 44
  bot : x.2.natAbs < 2 ^ 44
theorem Pl.s {x : Fr} (h : Pl x) : IsS x x.1 x.2 := ⟨h.red.is, sm_of h.top (by decide), sm_of h.bot (by decide)⟩
theorem Pl.less {x y : Fr} (hx : Pl x) (hy : Pl y) : ∃ b, isLessM x y = some b := ⟨_, less_is hx.s hy.s⟩
theorem Pl.greater {x y : Fr} (hx : Pl x) (hy : Pl y) : ∃ z, greaterM x y = some z ∧ Pl z := by
  obtain ⟨z, h1, h2⟩ := greater_is hx.s hy.s
  refine ⟨z, h1, ?_⟩
  rcases h2 with rfl | rfl
  · exact hx
  · exact hy
section
variable {C : Costs} {n : Nat}
theorem Ok.nb (h : Ok C n) {i j : Nat} (hi : i < n) (hj : j < n) : (cc C i j).natAbs < 2 ^ 44 := by
  have := h.cp hi hj
  have := h.cb hi hj
  have : (2 : Nat) ^ 44 = 17592186044416 := by decide
  omega
theorem share_ok (h : Ok C n) {i j : Nat} (hi : i < n) (hj : j < n) : ∃ z, shareOfM C i j = some z ∧ Pl z := by
  have hp := h.cp hi hi
  have hb1 := h.nb hi hj
  have hb2 := h.nb hi hi
  have hI : Is (frac (cc C i j) (cc C i i)) (cc C i j) (cc C i i) := frac_is (by omega) hp rfl
  refine ⟨frac (cc C i j) (cc C i i), ?_, hI.red, Nat.lt_of_le_of_lt hI.top hb1, ?_⟩
  · unfold shareOfM
    rw [h.at hi hj, h.at hi hi]
    show fractionM _ _ = _
    unfold fractionM
    rw [if_pos ⟨by omega, Nat.lt_of_lt_of_le (sm_of hb2 (by decide)).log (by decide)⟩]
  · have := hI.bot
    have := hI.red.pos
    omega
theorem lkRow_ok (h : Ok C n) {i : Nat} (hi : i < n) : ∃ r, lkRow C n i = some r ∧ r.length = n ∧ ∀ x ∈ r, Pl x := by
  unfold lkRow
  obtain ⟨ys, h1, h2, h3⟩ := compO_sq (f := fun other => (shareOfM C i other).bind fun x => some (some x)) (P := Pl) (xs := List.range n) fun j hj => by
    obtain ⟨z, h1, h2⟩ := share_ok h hi (List.mem_range.mp hj)
    exact ⟨z, by rw [h1]; rfl, h2⟩
  exact ⟨ys, h1, by rw [h2, List.length_range], h3⟩
theorem leastThrough_ok {m : List (List Fr)} (hn : n ≤ 1000) (h : Sq n Pl m) : ∃ t, leastThroughM m = some t ∧ Sq n Pl t := by
  unfold leastThroughM
  rw [if_pos (by rw [h.len]; exact hn), h.len]
  exact foldO_range (f := fun m by_ => foldO (fun m one => foldO (ltTurn by_ one) m (List.range n)) m (List.range n)) (fun _ m => Sq n Pl m) h fun by_ m hb h =>
    foldO_range (f := fun m one => foldO (ltTurn by_ one) m (List.range n)) (fun _ m => Sq n Pl m) h fun one m ho h =>
      foldO_range (f := ltTurn by_ one) (fun _ m => Sq n Pl m) h fun other m ht h => by
        obtain ⟨x, x1, x2⟩ := h.at ho hb
        obtain ⟨y, y1, y2⟩ := h.at hb ht
        obtain ⟨z, z1, z2⟩ := h.at ho ht
        obtain ⟨t, t1, t2⟩ := x2.greater y2
        obtain ⟨l, l1⟩ := t2.less z2
        unfold ltTurn
        rw [x1, y1]
        simp only [Option.bind_some]
        rw [t1]
        simp only [Option.bind_some]
        split
        · rw [z1]
          simp only [Option.bind_some]
          rw [l1]
          refine ⟨_, rfl, ?_⟩
          split
          · exact h.set ho t2
          · exact h
        · exact ⟨_, rfl, h⟩
def LkG (n : Nat) (best : Option (T3 Fr Nat Nat)) : Prop := ∀ z, best = some z → Pl z.a ∧ z.b < n ∧ z.c < n
theorem lkBest_ok {sh th : List (List Fr)} (hs : Sq n Pl sh) (ht : Sq n Pl th) {one other : Nat} (ho : one < n) (hi : other < n) {best : Option (T3 Fr Nat Nat)} (hb : LkG n best) : ∃ b, lkBest sh th one best other = some b ∧ LkG n b ∧ (best ≠ none → b ≠ none) ∧ (one ≠ other → b ≠ none) := by
  unfold lkBest
  split
  next hne =>
    obtain ⟨x, x1, x2⟩ := ht.at ho hi
    obtain ⟨y, y1, y2⟩ := hs.at hi ho
    obtain ⟨t, t1, t2⟩ := x2.greater y2
    rw [x1, y1]
    simp only [Option.bind_some]
    rw [t1]
    simp only [Option.bind_some]
    have hnew : LkG n (some ⟨t, one, other⟩) := fun z e => by cases e; exact ⟨t2, ho, hi⟩
    cases best with
    | none => exact ⟨_, rfl, hnew, fun _ => by simp, fun _ => by simp⟩
    | some z =>
      obtain ⟨l, l1⟩ := t2.less (hb z rfl).1
      show ∃ b, (isLessM t z.a).bind _ = some b ∧ _
      rw [l1]
      cases l
      · exact ⟨_, rfl, hb, fun _ => by simp, fun _ => by simp⟩
      · exact ⟨_, rfl, hnew, fun _ => by simp, fun _ => by simp⟩
  next hne => exact ⟨_, rfl, hb, id, fun z => absurd z hne⟩
theorem leak_ok (h : Ok C n) (h2 : 2 ≤ n) : ∃ o, leakC C n = some o := by
  have hn12 := h.n12
  unfold leakC
  obtain ⟨sh, s1, s2, s3⟩ := foldO_rows (n := n) (by omega) (fun k hk => lkRow_ok h hk) (f := fun sh one => (lkRow C n one).bind fun r => snocM sh r) fun m k => rfl
  have hsh : Sq n Pl sh := ⟨s2, s3⟩
  obtain ⟨th, t1, t2⟩ := leastThrough_ok (by omega) hsh
  obtain ⟨best, b1, b2, b3⟩ := foldO_range (f := fun best one => foldO (lkBest sh th one) best (List.range n)) (n := n) (s := none) (fun i best => LkG n best ∧ (1 ≤ i → best ≠ none)) ⟨(fun z e => by cases e), (fun z => by omega)⟩ fun one best ho ⟨hb1, hb2⟩ => by
    obtain ⟨b, c1, c2, c3, c4⟩ := foldO_range (f := lkBest sh th one) (n := n) (s := best) (fun j b => LkG n b ∧ (best ≠ none → b ≠ none) ∧ ∀ j', j' < j → j' ≠ one → b ≠ none) ⟨hb1, id, (fun j' hj => by omega)⟩ fun j b hj ⟨d1, d2, d3⟩ => by
      obtain ⟨b', e1, e2, e3, e4⟩ := lkBest_ok hsh t2 ho hj d1
      refine ⟨b', e1, e2, fun z => e3 (d2 z), fun j' hj' hne => ?_⟩
      by_cases q : j' = j
      · subst q; exact e4 fun z => hne z.symm
      · exact e3 (d3 j' (by omega) hne)
    refine ⟨b, c1, c2, fun _ => ?_⟩
    by_cases q : one = 0
    · exact c4 1 (by omega) (by omega)
    · exact c4 0 (by omega) fun z => q z.symm
  rw [s1]
  simp only [Option.bind_some]
  rw [t1]
  simp only [Option.bind_some]
  rw [b1]
  simp only [Option.bind_some]
  cases best with
  | none => exact absurd rfl (b3 (by omega))
  | some z =>
    obtain ⟨z1, z2, z3⟩ := b2 z rfl
    simp only [Option.bind_some]
    obtain ⟨ways, w1, w2, w3⟩ := foldO_rows (g := fun k => compO (lkCell sh z.a k) (List.range n)) (Q := fun r => r.length = n ∧ ∀ x ∈ r, True) (n := n) (by omega) (fun k hk => by
      obtain ⟨ys, h1, h2, h3⟩ := compO_sq (f := lkCell sh z.a k) (P := fun _ => True) (xs := List.range n) fun j hj => by
        unfold lkCell
        split
        · obtain ⟨x, x1, x2⟩ := hsh.at hk (List.mem_range.mp hj)
          obtain ⟨l, l1⟩ := z1.less x2
          rw [x1]
          simp only [Option.bind_some]
          rw [l1]
          exact ⟨_, rfl, trivial⟩
        · exact ⟨_, rfl, trivial⟩
      exact ⟨ys, h1, by rw [h2, List.length_range], h3⟩) (f := fun ways k => (compO (lkCell sh z.a k) (List.range n)).bind fun r => snocM ways r) fun m k => rfl
    have hw : Sq n (fun _ => True) ways := ⟨w2, w3⟩
    obtain ⟨o, o1, _⟩ := wayM_ok (W := fun i j => (idx2 ways i j).getD false) w2 (by omega) (fun i j hi hj => by
      obtain ⟨x, hx, _⟩ := hw.at hi hj
      rw [hx]; rfl) z2 z3
    rw [w1]
    simp only [Option.bind_some]
    rw [o1]
    exact ⟨_, rfl⟩
end
end G3
end
/-! G3M6 -/
section
set_option Elab.async false
set_option linter.all false
set_option maxRecDepth 100000
set_option maxHeartbeats 4000000
/-! G3M6: the plain law: the even and the scaled wish are told. -/
namespace G3
section
variable {α : Type} {d : List (Nat × α)} {k k' : Nat} {v : α}
theorem lookN_put_same : lookN (putN d k v) k = some v := by
  unfold putN
  by_cases hh : hasN d k = true
  · rw [if_pos hh]
    obtain ⟨x, hx⟩ := lookN_has (hasN_iff.mp hh)
    unfold lookN at hx ⊢
    rw [List.find?_map]
    have e : ((fun p : Nat × α => p.1 == k) ∘ fun p => if p.1 = k then (p.1, v) else p) = fun p => p.1 == k := by
      funext p
      simp only [Function.comp]
      split <;> rfl
    rw [e]
    obtain ⟨p, h1, h2⟩ := Option.map_eq_some_iff.mp hx
    rw [h1]
    have h3 : p.1 = k := by simpa using List.find?_some h1
    simp [h3]
  · rw [if_neg hh]
    have h0 : hasN d k = false := by simpa using hh
    unfold lookN
    rw [List.find?_append]
    have : d.find? (fun p => p.1 == k) = none := by
      rw [List.find?_eq_none]
      intro p hp hk
      exact hasN_not.mp h0 (List.mem_map.mpr ⟨p, hp, by simpa using hk⟩)
    rw [this]; simp
theorem lookN_put_other (h : k' ≠ k) : lookN (putN d k v) k' = lookN d k' := by
  unfold putN
  by_cases hh : hasN d k = true
  · rw [if_pos hh]
    unfold lookN
    rw [List.find?_map]
    have e : ((fun p : Nat × α => p.1 == k') ∘ fun p => if p.1 = k then (p.1, v) else p) = fun p => p.1 == k' := by
      funext p
      simp only [Function.comp]
      split <;> rfl
    rw [e]
    cases h1 : d.find? fun p => p.1 == k' with
    | none => rfl
    | some p =>
      have h3 : p.1 = k' := by simpa using List.find?_some h1
      simp only [Option.map_some]
      rw [if_neg (by omega)]
  · rw [if_neg hh]
    unfold lookN
    rw [List.find?_append]
    cases h1 : d.find? fun p => p.1 == k' with
    | none =>
      have : (k == k') = false := by simpa using fun z => h z.symm
      simp [List.find?_cons, this]
    | some p => simp
theorem putN_nd (h : (d.map (·.1)).Nodup) : ((putN d k v).map (·.1)).Nodup := by
  unfold putN
  by_cases hh : hasN d k = true
  · rw [if_pos hh, List.map_map]
    have e : ((fun p : Nat × α => p.1) ∘ fun p => if p.1 = k then (p.1, v) else p) = fun p => p.1 := by
      funext p
      simp only [Function.comp]
      split <;> rfl
    rw [e]; exact h
  · rw [if_neg hh, List.map_append, List.nodup_append]
    refine ⟨h, by simp, fun a ha b hb => ?_⟩
    have hb : b = k := by simpa using hb
    have h0 : hasN d k = false := by simpa using hh
    intro z
    rw [z, hb] at ha
    exact hasN_not.mp h0 ha
theorem putN_mem {x : Nat} (h : x ∈ (putN d k v).map (·.1)) : x = k ∨ x ∈ d.map (·.1) := by
  unfold putN at h
  by_cases hh : hasN d k = true
  · rw [if_pos hh, List.map_map] at h
    have e : ((fun p : Nat × α => p.1) ∘ fun p => if p.1 = k then (p.1, v) else p) = fun p => p.1 := by
      funext p
      simp only [Function.comp]
      split <;> rfl
    rw [e] at h; exact .inr h
  · rw [if_neg hh, List.map_append] at h
    rcases List.mem_append.mp h with z | z
    · exact .inr z
    · exact .inl (by simpa using z)
end
/-! ### less than -/
def Lt1 (a b : Fr) : Prop := a.1 * b.2 < b.1 * a.2
instance {a b : Fr} : Decidable (Lt1 a b) := inferInstanceAs (Decidable (_ < _))
theorem Lt1.irr {a : Fr} : ¬ Lt1 a a := fun h => by unfold Lt1 at h; omega
theorem Lt1.trans {a b c : Fr} (ha : 0 < a.2) (hb : 0 < b.2) (hc : 0 < c.2) (h1 : Lt1 a b) (h2 : Lt1 b c) : Lt1 a c := by
  unfold Lt1 at *
  have h3 := Int.mul_lt_mul_of_pos_right h1 hc
  have h4 := Int.mul_lt_mul_of_pos_right h2 ha
  have h5 : a.1 * c.2 * b.2 < c.1 * a.2 * b.2 := by
    have e1 : a.1 * b.2 * c.2 = a.1 * c.2 * b.2 := by grind
    have e2 : b.1 * a.2 * c.2 = b.1 * c.2 * a.2 := by grind
    have e3 : c.1 * b.2 * a.2 = c.1 * a.2 * b.2 := by grind
    omega
  exact Int.lt_of_mul_lt_mul_right h5 (by omega)
theorem mulM_ok {x y : Int} {m k : Nat} (hx : x.natAbs < 2 ^ m) (hy : y.natAbs < 2 ^ k) (hm : 0 < m) (hk : 0 < k) (h : m + k ≤ 1000000) : mulM x y = some (x * y) := by
  unfold mulM
  have h1 : x.natAbs.log2 < m := PySem.Flt.log2_lt_of hm hx
  have h2 : y.natAbs.log2 < k := PySem.Flt.log2_lt_of hk hy
  rw [if_pos (by omega)]
theorem fractionM_ok {t b : Int} {m : Nat} (h0 : b ≠ 0) (hb : b.natAbs < 2 ^ m) (hm : 0 < m) (h : m ≤ 9000) : fractionM t b = some (frac t b) := by
  unfold fractionM
  have h1 : b.natAbs.log2 < m := PySem.Flt.log2_lt_of hm hb
  rw [if_pos ⟨h0, by omega⟩]
structure Wd (e : Nat) (x : Fr) : Prop where
  red : Red x
  top : x.1.natAbs < 2 ^ (44 * (e + 1))
  bot : x.2.natAbs < 2 ^ (44 * (e + 1))
theorem Wd.mono {e e' : Nat} {x : Fr} (h : Wd e x) (l : e ≤ e') : Wd e' x := ⟨h.red, nb_mono h.top (by omega), nb_mono h.bot (by omega)⟩
theorem Wd.less {e : Nat} {x y : Fr} (hx : Wd e x) (hy : Wd e y) (he : e ≤ 150) : isLessM x y = some (decide (Lt1 x y)) := by
  unfold isLessM
  rw [mulM_ok hx.top hy.bot (by omega) (by omega) (by omega), mulM_ok hy.top hx.bot (by omega) (by omega) (by omega)]
  rfl
section
variable {C : Costs} {n : Nat} (h : Ok C n) {kind : PySem.Str} {w : List Fr}
include h
theorem step_ok {e i j : Nat} {x : Fr} (hx : w[i]? = some x) (wx : Wd e x) (he : e ≤ 150) (hi : i < n) (hj : j < n) : ∃ t, stepWorthM kind C w i j = some t ∧ Wd (e + 1) t ∧ (i = j → ¬ Lt1 t x) := by
  have hp := wx.red.pos
  have hd0 := h.cp hi hi
  have hb1 := h.nb hi hj
  have hb2 := h.nb hi hi
  unfold stepWorthM
  rw [hx, h.at hi hj, h.at hi hi]
  have h44 : (2 : Nat) ^ (44 * (e + 1 + 1)) = 2 ^ (44 * (e + 1)) * 17592186044416 := by
    rw [show 44 * (e + 1 + 1) = 44 * (e + 1) + 44 by omega, Nat.pow_add]
  have hpp : 0 < 2 ^ (44 * (e + 1)) := Nat.two_pow_pos _
  split
  · -- even
    simp only [Option.bind_some]
    have hs : (cc C i j - cc C i i).natAbs < 8796093022208 := by
      have := h.cp hi hj
      have := h.cb hi hj
      have := h.cb hi hi
      omega
    have hI : Is (frac (x.1 * 1 + (cc C i j - cc C i i) * x.2) (x.2 * 1)) (x.1 + (cc C i j - cc C i i) * x.2) x.2 := frac_is (by omega) hp (by grind)
    refine ⟨_, ?_, ⟨hI.red, ?_, ?_⟩, ?_⟩
    · unfold plusM
      show (mulM x.1 1).bind _ = _
      rw [mulM_ok (k := 1) wx.top (by decide) (by omega) (by omega) (by omega)]
      simp only [Option.bind_some]
      rw [mulM_ok (m := 44) (Nat.lt_of_lt_of_le hs (by decide)) wx.bot (by omega) (by omega) (by omega), mulM_ok (k := 1) wx.bot (by decide) (by omega) (by omega) (by omega)]
      exact fractionM_ok (m := 44 * (e + 1)) (by omega) (by rw [Int.mul_one]; exact wx.bot) (by omega) (by omega)
    · refine Nat.lt_of_le_of_lt hI.top ?_
      have h1 := Int.natAbs_add_le x.1 ((cc C i j - cc C i i) * x.2)
      rw [Int.natAbs_mul] at h1
      have h2 : (cc C i j - cc C i i).natAbs * x.2.natAbs ≤ 8796093022208 * 2 ^ (44 * (e + 1)) := Nat.mul_le_mul (by omega) (by have := wx.bot; omega)
      have := wx.top
      omega
    · have h1 := hI.bot
      have h2 := hI.red.pos
      have := wx.bot
      have : (frac (x.1 * 1 + (cc C i j - cc C i i) * x.2) (x.2 * 1)).2.natAbs ≤ x.2.natAbs := by omega
      omega
    · intro hij
      subst hij
      intro z
      have := (less_iff hI wx.red.is).mp z
      have e0 : cc C i i - cc C i i = 0 := by omega
      rw [e0] at this
      simp at this
  · -- scaled
    simp only [Option.bind_some]
    have hI1 : Is (frac (x.1 * cc C i j) x.2) (x.1 * cc C i j) x.2 := frac_is (by omega) hp rfl
    have h1 : timesM x (cc C i j) = some (frac (x.1 * cc C i j) x.2) := by
      unfold timesM
      rw [mulM_ok (k := 44) wx.top hb1 (by omega) (by omega) (by omega)]
      exact fractionM_ok (m := 44 * (e + 1)) (by omega) wx.bot (by omega) (by omega)
    rw [h1]
    simp only [Option.bind_some]
    generalize frac (x.1 * cc C i j) x.2 = t at *
    have tp := hI1.red.pos
    have tb := hI1.bot
    have tbn : t.2.natAbs < 2 ^ (44 * (e + 1)) := by have := wx.bot; omega
    have hne : t.2 * cc C i i ≠ 0 := fun z => by rcases Int.mul_eq_zero.mp z with z | z <;> omega
    have hI2 : Is (frac t.1 (t.2 * cc C i i)) (x.1 * cc C i j) (x.2 * cc C i i) := frac_is hne (Int.mul_pos hp hd0) (by have := hI1.eq; grind)
    refine ⟨frac t.1 (t.2 * cc C i i), ?_, ⟨hI2.red, ?_, ?_⟩, ?_⟩
    · unfold overM
      rw [mulM_ok (k := 44) tbn hb2 (by omega) (by omega) (by omega)]
      exact fractionM_ok (m := 44 * (e + 1) + 44) hne (nb_mul tbn hb2) (by omega) (by omega)
    · refine Nat.lt_of_le_of_lt hI2.top ?_
      exact nb_mono (nb_mul wx.top hb1) (by omega)
    · have h1 := hI2.bot
      have h2 := hI2.red.pos
      have h3 : (x.2 * cc C i i).natAbs < 2 ^ (44 * (e + 1 + 1)) := nb_mono (nb_mul wx.bot hb2) (by omega)
      omega
    · intro hij
      subst hij
      intro z
      have := (less_iff hI2 wx.red.is).mp z
      have e0 : x.1 * cc C i i * x.2 = x.1 * (x.2 * cc C i i) := by grind
      omega
omit h
theorem step_congr {w' : List Fr} {i j : Nat} (e : w'[i]? = w[i]?) : stepWorthM kind C w' i j = stepWorthM kind C w i j := by
  unfold stepWorthM; rw [e]
end
def Ls (kind : PySem.Str) (C : Costs) (w : List Fr) (u v : Nat) : Prop := ∃ t x, stepWorthM kind C w u v = some t ∧ w[v]? = some x ∧ Lt1 t x
def AllWd (n e : Nat) (w : List Fr) : Prop := ∀ i, i < n → ∃ x, w[i]? = some x ∧ Wd e x
structure Cor (kind : PySem.Str) (C : Costs) (n T : Nat) (pi : Nat → Nat → Nat) (w : List Fr) (b : List (Nat × Nat)) (lp : Nat → Nat) : Prop where
  wl : w.length = n
  nd : (b.map (·.1)).Nodup
  kl : ∀ k ∈ b.map (·.1), k < n
  i1 : ∀ v, v < n → 1 ≤ lp v → ∃ u, u < n ∧ lookN b v = some u ∧ lp v ≤ lp u + 1
  i2 : ∀ u v, u < n → v < n → pi u v ≤ lp u ∨ ¬ Ls kind C w u v
  i3 : ∀ v, lp v ≤ T
theorem Cor.blen {kind : PySem.Str} {C : Costs} {n T : Nat} {pi : Nat → Nat → Nat} {w : List Fr} {b : List (Nat × Nat)} {lp : Nat → Nat} (c : Cor kind C n T pi w b lp) : b.length ≤ n := by
  have := nodup_le n _ c.nd c.kl
  rwa [List.length_map] at this
/-- which pass an edge was last seen in, at one, other of pass T -/
def pis (T a o u v : Nat) : Nat := if u < a ∨ (u = a ∧ v < o) then T + 1 else T
structure LoI (kind : PySem.Str) (C : Costs) (n T a o e : Nat) (x0 : Fr) (s : Lo) : Prop where
  cor : ∃ lp, Cor kind C n (T + 1) (pis T a o) s.w s.b lp ∧ ∀ v, s.last = some v → v < n ∧ lp v = T + 1
  wd : AllWd n (e + 1) s.w
  src : s.w[a]? = some x0
theorem loTurn_ok {kind : PySem.Str} {C : Costs} {n : Nat} (h : Ok C n) {T a o e : Nat} {x0 : Fr} (hx0 : Wd e x0) (he : e + 1 ≤ 150) {s : Lo} (ha : a < n) (ho : o < n) (i : LoI kind C n T a o e x0 s) : ∃ s', loTurn kind C a s o = some s' ∧ LoI kind C n T a (o + 1) e x0 s' := by
  obtain ⟨lp, c, hl⟩ := i.cor
  have hn12 := h.n12
  obtain ⟨t, t1, t2, t3⟩ := step_ok h (kind := kind) (j := o) i.src hx0 (by omega) ha ho
  obtain ⟨x, x1, x2⟩ := i.wd o ho
  have hless := t2.less x2 he
  have hpi : ∀ u v, ¬ (u = a ∧ v = o) → pis T a (o + 1) u v = pis T a o u v := fun u v hne => by
    unfold pis
    by_cases q : u < a ∨ (u = a ∧ v < o)
    · rw [if_pos q, if_pos (by omega)]
    · rw [if_neg q, if_neg (by omega)]
  have hpile : ∀ o u v, pis T a o u v ≤ T + 1 := fun o u v => by unfold pis; split <;> omega
  have hpi0 : pis T a o a o = T := by unfold pis; rw [if_neg (by omega)]
  unfold loTurn
  rw [t1]
  simp only [Option.bind_some]
  rw [x1]
  simp only [Option.bind_some]
  rw [hless]
  simp only [Option.bind_some]
  by_cases hk : Lt1 t x
  · rw [if_pos (decide_eq_true hk), if_pos (by have := c.blen; omega)]
    have hao : a ≠ o := fun z => by
      have h5 := t3 z
      rw [← z, i.src] at x1
      cases x1
      exact h5 hk
    have hT : T ≤ lp a := by
      rcases c.i2 a o ha ho with z | z
      · rw [hpi0] at z; exact z
      · exact absurd ⟨t, x, t1, x1, hk⟩ z
    have hwo : (s.w.set o t)[o]? = some t := by rw [List.getElem?_set_self]; rw [c.wl]; exact ho
    have hwn : ∀ v, v ≠ o → (s.w.set o t)[v]? = s.w[v]? := fun v hv => List.getElem?_set_ne fun z => hv z.symm
    refine ⟨_, rfl, ⟨fun v => if v = o then T + 1 else lp v, ?_, ?_⟩, ?_, ?_⟩
    · refine ⟨by show (s.w.set o t).length = n; rw [List.length_set]; exact c.wl, putN_nd c.nd, fun k hk => ?_, fun v hv hv1 => ?_, fun u v hu hv => ?_, fun v => ?_⟩
      · rcases putN_mem hk with z | z
        · rw [z]; exact ho
        · exact c.kl k z
      · by_cases q : v = o
        · subst q
          refine ⟨a, ha, lookN_put_same, ?_⟩
          simp only [if_neg hao, if_pos]
          omega
        · have hv1 : 1 ≤ lp v := by simpa [q] using hv1
          obtain ⟨u, u1, u2, u3⟩ := c.i1 v hv hv1
          refine ⟨u, u1, by show lookN (putN s.b o a) v = _; rw [lookN_put_other q]; exact u2, ?_⟩
          simp only [if_neg q]
          by_cases q2 : u = o
          · rw [if_pos q2]
            have := c.i3 v
            omega
          · rw [if_neg q2]; exact u3
      · by_cases q : u = o
        · left; simp only [if_pos q]; exact hpile _ _ _
        · simp only [if_neg q]
          have hst : stepWorthM kind C (s.w.set o t) u v = stepWorthM kind C s.w u v := step_congr (hwn u q)
          by_cases q2 : v = o
          · subst q2
            by_cases q3 : u = a
            · subst q3
              right
              rintro ⟨t', x', y1, y2, y3⟩
              have y1 : stepWorthM kind C (s.w.set v t) u v = some t' := y1
              rw [hst, t1] at y1
              have y2 : (s.w.set v t)[v]? = some x' := y2
              rw [hwo] at y2
              cases y1
              cases y2
              exact Lt1.irr y3
            · rw [hpi u v fun z => q3 z.1]
              rcases c.i2 u v hu ho with z | z
              · exact .inl z
              · right
                rintro ⟨t', x', y1, y2, y3⟩
                have y1 : stepWorthM kind C (s.w.set v t) u v = some t' := y1
                rw [hst] at y1
                have y2 : (s.w.set v t)[v]? = some x' := y2
                rw [hwo] at y2
                cases y2
                refine z ⟨t', x, y1, x1, Lt1.trans ?_ t2.red.pos x2.red.pos y3 hk⟩
                obtain ⟨xu, xu1, xu2⟩ := i.wd u hu
                obtain ⟨t'', z1, z2, _⟩ := step_ok h (kind := kind) (j := v) xu1 xu2 (by omega) hu ho
                rw [z1] at y1
                cases y1
                exact z2.red.pos
          · rw [hpi u v fun z => q2 z.2]
            rcases c.i2 u v hu hv with z | z
            · exact .inl z
            · right
              rintro ⟨t', x', y1, y2, y3⟩
              have y1 : stepWorthM kind C (s.w.set o t) u v = some t' := y1
              rw [hst] at y1
              have y2 : (s.w.set o t)[v]? = some x' := y2
              rw [hwn v q2] at y2
              exact z ⟨t', x', y1, y2, y3⟩
      · show (if v = o then T + 1 else lp v) ≤ T + 1
        split
        · omega
        · exact c.i3 v
    · intro v hv
      cases hv
      exact ⟨ho, by simp⟩
    · intro v hv
      show ∃ x, (s.w.set o t)[v]? = some x ∧ _
      by_cases q : v = o
      · rw [q]; exact ⟨t, hwo, t2⟩
      · rw [hwn v q]; exact i.wd v hv
    · show (s.w.set o t)[a]? = _
      rw [hwn a hao]; exact i.src
  · rw [if_neg (by simpa using hk)]
    refine ⟨_, rfl, ⟨lp, ⟨c.wl, c.nd, c.kl, c.i1, fun u v hu hv => ?_, c.i3⟩, hl⟩, i.wd, i.src⟩
    by_cases q : u = a ∧ v = o
    · obtain ⟨rfl, rfl⟩ := q
      right
      rintro ⟨t', x', y1, y2, y3⟩
      rw [t1] at y1
      rw [x1] at y2
      cases y1
      cases y2
      exact hk y3
    · rw [hpi u v q]; exact c.i2 u v hu hv
theorem Cor.pi {kind : PySem.Str} {C : Costs} {n T : Nat} {pi pi' : Nat → Nat → Nat} {w : List Fr} {b : List (Nat × Nat)} {lp : Nat → Nat} (c : Cor kind C n T pi w b lp) (h : ∀ u v, u < n → v < n → pi' u v = pi u v) : Cor kind C n T pi' w b lp :=
  ⟨c.wl, c.nd, c.kl, c.i1, fun u v hu hv => by rw [h u v hu hv]; exact c.i2 u v hu hv, c.i3⟩
theorem lowered_ok {kind : PySem.Str} {C : Costs} {n : Nat} (h : Ok C n) {T e : Nat} (he : e + n ≤ 149) {w : List Fr} {b : List (Nat × Nat)} {lp : Nat → Nat} (c : Cor kind C n T (fun _ _ => T) w b lp) (hw : AllWd n e w) :
    ∃ s, loweredM kind C w b = some s ∧ AllWd n (e + n) s.w ∧ ∃ lp, Cor kind C n (T + 1) (fun _ _ => T + 1) s.w s.b lp ∧ ∀ v, s.last = some v → v < n ∧ lp v = T + 1 := by
  have hn12 := h.n12
  unfold loweredM
  rw [if_pos (by rw [h.len]; omega), h.len]
  obtain ⟨s, h1, h2, lp', h3, h4⟩ := foldO_range (f := fun s one => foldO (loTurn kind C one) s (List.range n)) (n := n) (s := (⟨none, w, b⟩ : Lo)) (fun a s => AllWd n (e + a) s.w ∧ ∃ lp, Cor kind C n (T + 1) (pis T a 0) s.w s.b lp ∧ ∀ v, s.last = some v → v < n ∧ lp v = T + 1)
    ⟨hw, lp, ⟨c.wl, c.nd, c.kl, c.i1, fun u v hu hv => by
      have : pis T 0 0 u v = T := by unfold pis; rw [if_neg (by omega)]
      rw [this]; exact c.i2 u v hu hv, fun v => Nat.le_succ_of_le (c.i3 v)⟩, fun v hv => by cases hv⟩ fun a s ha ⟨i1, i2⟩ => by
      obtain ⟨x0, y1, y2⟩ := i1 a ha
      obtain ⟨s', z1, z2⟩ := foldO_range (f := loTurn kind C a) (n := n) (s := s) (fun o s => LoI kind C n T a o (e + a) x0 s) ⟨i2, fun i hi => by
        obtain ⟨x, q1, q2⟩ := i1 i hi
        exact ⟨x, q1, q2.mono (by omega)⟩, y1⟩ fun o s ho i => loTurn_ok h y2 (by omega) ha ho i
      refine ⟨s', z1, z2.wd, ?_⟩
      obtain ⟨lp, q1, q2⟩ := z2.cor
      refine ⟨lp, q1.pi fun u v hu hv => ?_, q2⟩
      unfold pis
      by_cases q : u < a + 1
      · rw [if_pos (.inl q), if_pos (by omega)]
      · rw [if_neg (by omega), if_neg (by omega)]
  refine ⟨s, h1, h2, lp', h3.pi fun u v hu hv => ?_, h4⟩
  unfold pis
  rw [if_pos (.inl hu)]
/-! ### the round back -/
theorem pigeon {n : Nat} {v : Nat → Nat} (hv : ∀ i, i ≤ n → v i < n) : ∃ a b, a < b ∧ b ≤ n ∧ v a = v b := by
  refine Classical.byContradiction fun hc => ?_
  have hnd : ((List.range (n + 1)).map v).Nodup := by
    unfold List.Nodup
    rw [List.pairwise_map]
    refine List.Pairwise.imp_of_mem ?_ (List.pairwise_lt_range (n := n + 1))
    intro a b ha hb hab e
    exact hc ⟨a, b, hab, by have := List.mem_range.mp hb; omega, e⟩
  have := nodup_le n _ hnd fun x hx => by
    obtain ⟨i, hi, rfl⟩ := List.mem_map.mp hx
    exact hv i (by have := List.mem_range.mp hi; omega)
  simp at this
  omega
def itr (f : Nat → Nat) (x : Nat) : Nat → Nat
  | 0 => x
  | k + 1 => f (itr f x k)
theorem roundBack_ok {b : List (Nat × Nat)} {n l : Nat} (hn : n ≤ 900) (hl : l < n) {lp : Nat → Nat} (hlp : n ≤ lp l) (i1 : ∀ v, v < n → 1 ≤ lp v → ∃ u, u < n ∧ lookN b v = some u ∧ lp v ≤ lp u + 1) : ∃ o, roundBackM b l n = some o := by
  let f : Nat → Nat := fun x => (lookN b x).getD 0
  have hv : ∀ i, i ≤ n → itr f l i < n ∧ n ≤ lp (itr f l i) + i := by
    intro i
    induction i with
    | zero => intro _; exact ⟨hl, by show n ≤ lp l + 0; omega⟩
    | succ i ih =>
      intro hi
      obtain ⟨a1, a2⟩ := ih (by omega)
      obtain ⟨u, u1, u2, u3⟩ := i1 _ a1 (by omega)
      have : itr f l (i + 1) = u := by show (lookN b (itr f l i)).getD 0 = u; rw [u2]; rfl
      rw [this]
      exact ⟨u1, by omega⟩
  have hdef : ∀ i, i < n → lookN b (itr f l i) = some (itr f l (i + 1)) := fun i hi => by
    obtain ⟨a1, a2⟩ := hv i (by omega)
    obtain ⟨u, u1, u2, u3⟩ := i1 _ a1 (by omega)
    show _ = some ((lookN b (itr f l i)).getD 0)
    rw [u2]; rfl
  obtain ⟨p, q, hpq, hqn, e⟩ := pigeon fun i hi => (hv i hi).1
  have hper : ∀ k, itr f l (p + k) = itr f l (q + k) := by
    intro k
    induction k with
    | zero => exact e
    | succ k ih => show f (itr f l (p + k)) = f (itr f l (q + k)); rw [ih]
  have hall : ∀ i, lookN b (itr f l i) = some (itr f l (i + 1)) := by
    intro i
    induction i using Nat.strongRecOn with
    | ind i ih =>
      by_cases hi : i < n
      · exact hdef i hi
      · have h1 := hper (i - q)
        have h2 := hper (i - q + 1)
        have h3 := ih (p + (i - q)) (by omega)
        rw [show q + (i - q) = i by omega] at h1
        rw [show q + (i - q + 1) = i + 1 by omega] at h2
        rw [← h1, ← h2]
        exact h3
  have hback : itr f l (n + (q - p)) = itr f l n := by
    have := hper (n - p)
    rw [show p + (n - p) = n by omega, show q + (n - p) = n + (q - p) by omega] at this
    exact this.symm
  unfold roundBackM
  rw [if_pos (by omega)]
  obtain ⟨here, h1, h2⟩ := foldO_range (f := rbStep b) (n := n) (s := l) (fun i x => x = itr f l i) rfl fun i x hi e => by
    subst e
    exact ⟨_, hall i, rfl⟩
  rw [h1]
  subst h2
  simp only [Option.bind_some]
  obtain ⟨s, _, w1, _⟩ := whileO_inv (c := rbGo b (itr f l n)) (f := rbBack b) (fun m told => ∃ k, k + m + 1 = q - p ∧ told.length = k + 1 ∧ told[0]? = some (itr f l (n + k))) (fun m told ⟨k, k1, k2, k3⟩ => by
    refine ⟨!decide (itr f l (n + k + 1) = itr f l n), by unfold rbGo; rw [k3]; simp only [Option.bind_some]; rw [hall]; rfl, fun hb => ?_⟩
    refine ⟨itr f l (n + k + 1) :: told, m - 1, ?_, ?_, k + 1, ?_, by simp [k2], rfl⟩
    · rcases Nat.eq_zero_or_pos m with z | z
      · exfalso
        have : n + k + 1 = n + (q - p) := by omega
        rw [this, hback] at hb
        simp at hb
      · omega
    · unfold rbBack
      rw [k3]
      simp only [Option.bind_some]
      rw [hall]
      simp only [Option.bind_some]
      rw [if_pos (by omega)]
    · rcases Nat.eq_zero_or_pos m with z | z
      · exfalso
        have : n + k + 1 = n + (q - p) := by omega
        rw [this, hback] at hb
        simp at hb
      · omega) (n + 2) (q - p - 1) [itr f l n] (by omega) ⟨0, by omega, rfl, rfl⟩
  exact ⟨s, w1⟩
theorem told_ok {kind : PySem.Str} {C : Costs} {n : Nat} (h : Ok C n) : ∃ o, toldC C n kind = some o := by
  have hn12 := h.n12
  have hn1 := h.n1
  unfold toldC
  split
  · exact toldAny_ok h
  rw [if_pos (by omega)]
  have hnn : n * n ≤ 12 * 12 := Nat.mul_le_mul hn12 hn12
  obtain ⟨o, h1, h2, h3⟩ := foldR_range (f := tbTurn kind C n) (n := n) (s := (⟨List.replicate n (1, 1), [], none⟩ : Tb)) (ρ := AnyD) (fun T s => AllWd n (T * n) s.w ∧ ∃ lp, Cor kind C n T (fun _ _ => T) s.w s.b lp ∧ (1 ≤ T → ∃ v, s.last = some v ∧ v < n ∧ lp v = T)) (fun _ => True)
    ⟨fun i hi => ⟨(1, 1), by simp [hi], ⟨by decide, by decide⟩, by rw [Nat.zero_mul]; decide, by rw [Nat.zero_mul]; decide⟩, fun _ => 0, ⟨by simp, by simp, (fun k hk => by cases hk), (fun v hv z => by omega), (fun u v hu hv => .inl (Nat.le_refl _)), fun v => Nat.le_refl _⟩, fun z => by omega⟩ fun T s hT ⟨a1, lp, a2, a3⟩ => by
      have hTn : T * n + n ≤ n * n := by
        have : (T + 1) * n ≤ n * n := Nat.mul_le_mul_right n hT
        rw [Nat.succ_mul] at this; exact this
      obtain ⟨s', b1, b2, lp', b3, b4⟩ := lowered_ok h (e := T * n) (by omega) a2 a1
      unfold tbTurn
      rw [b1]
      simp only [Option.bind_some]
      cases hl : s'.last with
      | none =>
        simp only
        split
        · obtain ⟨ys, hy⟩ := compO_def (f := fun k => (s'.w[k]?).bind fun x => (idx2 C k k).bind fun y => (overM x y).bind fun z => some (some z)) (xs := List.range n) fun k hk => by
            have hk := List.mem_range.mp hk
            obtain ⟨x, x1, x2⟩ := b2 k hk
            rw [x1, h.at hk hk]
            simp only [Option.bind_some]
            have hp := h.cp hk hk
            have xp := x2.red.pos
            have : overM x (cc C k k) = some (frac x.1 (x.2 * cc C k k)) := by
              unfold overM
              rw [mulM_ok (k := 44) x2.bot (h.nb hk hk) (by omega) (by omega) (by omega)]
              exact fractionM_ok (m := 44 * (T * n + n + 1) + 44) (fun z => by rcases Int.mul_eq_zero.mp z with z | z <;> omega) (nb_mul x2.bot (h.nb hk hk)) (by omega) (by omega)
            rw [this]
            exact ⟨_, rfl⟩
          rw [hy]
          exact ⟨_, rfl, fun _ _ => trivial, fun s' e => by cases e⟩
        · exact ⟨_, rfl, fun _ _ => trivial, fun s' e => by cases e⟩
      | some v =>
        refine ⟨_, rfl, fun _ _ => trivial, fun s2 e => ?_⟩
        cases e
        refine ⟨by rw [Nat.succ_mul]; exact b2, lp', b3, fun _ => ⟨v, rfl, b4 v hl⟩⟩
  rw [h1]
  simp only [Option.bind_some]
  cases o with
  | ret r => exact ⟨_, rfl⟩
  | go s =>
    obtain ⟨_, lp, c1, c2⟩ := h3 s rfl
    obtain ⟨v, v1, v2, v3⟩ := c2 hn1
    obtain ⟨r, hr⟩ := roundBack_ok (l := v) (by omega) v2 (by omega) c1.i1
    show ∃ o, (s.last.bind fun l => (roundBackM s.b l n).bind fun _ => some (PySem.Str.ofString "round", _)) = some o
    rw [v1]
    simp only [Option.bind_some]
    rw [hr]
    exact ⟨_, rfl⟩
end G3
end
/-! G3M7 -/
section
set_option Elab.async false
set_option linter.all false
set_option maxRecDepth 100000
set_option maxHeartbeats 4000000
/-! G3M7: the plain law: potentials, tight rounds (whole numbers alone). -/
namespace G3
/-- what is final; U is the rest, m the least of it -/
structure Kk (n : Nat) (c : Nat → Nat → Int) (E : Nat → Int) (U : List Nat) (m : Nat) (R : Nat → Prop) (N : Nat → Int) : Prop where
  i1 : ∀ u v, u < n → u ∉ U → v < n → v ∈ U → N u - E u ≤ N v - E v
  i2 : ∀ u v, u < n → u ∉ U → v < n → v ≠ u → N v ≤ N u + c u v
  i3 : ∀ v, v < n → v ∈ U → N m - E m ≤ N v - E v
  i4 : ∀ v, v < n → v ≠ m → R v → N v ≤ N m + c m v
section
variable {n : Nat} {c : Nat → Nat → Int} {E : Nat → Int} {U : List Nat} {m : Nat} {R R' : Nat → Prop} {N : Nat → Int}
theorem Kk.mono (k : Kk n c E U m R N) (h : ∀ v, v < n → v ≠ m → R' v → R v) : Kk n c E U m R' N := ⟨k.i1, k.i2, k.i3, fun v hv hm hr => k.i4 v hv hm (h v hv hm hr)⟩
theorem Kk.skip (k : Kk n c E U m R N) {x y : Nat} (hge : N y ≤ N x + c x y) : Kk n c E U m (fun v => R v ∨ (x = m ∧ v = y)) N := ⟨k.i1, k.i2, k.i3, fun v hv hm hr => by
  rcases hr with z | ⟨z1, z2⟩
  · exact k.i4 v hv hm z
  · subst z1 z2; exact hge⟩
theorem Kk.upd (hE : ∀ u v, u < n → v < n → u ≠ v → E v ≤ E u + c u v) (k : Kk n c E U m R N) {x y : Nat} (hx : x < n) (hy : y < n) (hxy : x ≠ y) (hlt : N x + c x y < N y) :
    Kk n c E U m (fun v => R v ∨ (x = m ∧ v = y)) (fun v => if v = y then N x + c x y else N v) := by
  have hE1 := hE x y hx hy hxy
  have hxU : x ∈ U := Classical.byContradiction fun z => by have := k.i2 x y hx z hy (fun q => hxy q.symm); omega
  have hyU : y ∈ U := Classical.byContradiction fun z => by have := k.i1 y x hy z hx hxU; omega
  have h3 := k.i3 x hx hxU
  have hym : m ≠ y := fun z => by subst z; omega
  refine ⟨fun u v hu hU hv hV => ?_, fun u v hu hU hv hvu => ?_, fun v hv hV => ?_, fun v hv hm hr => ?_⟩
  · have huy : u ≠ y := fun z => hU (z ▸ hyU)
    simp only [if_neg huy]
    by_cases q : v = y
    · subst q
      simp only [if_pos]
      have := k.i1 u x hu hU hx hxU
      omega
    · simp only [if_neg q]
      exact k.i1 u v hu hU hv hV
  · have huy : u ≠ y := fun z => hU (z ▸ hyU)
    simp only [if_neg huy]
    have h5 := k.i2 u v hu hU hv hvu
    by_cases q : v = y
    · subst q
      simp only [if_pos]
      omega
    · simp only [if_neg q]; exact h5
  · simp only [if_neg hym]
    by_cases q : v = y
    · subst q
      simp only [if_pos]
      omega
    · simp only [if_neg q]; exact k.i3 v hv hV
  · simp only [if_neg hym]
    by_cases q : v = y
    · subst q
      simp only [if_pos]
      rcases hr with z | ⟨z1, _⟩
      · have := k.i4 v hv hm z; omega
      · subst z1; omega
    · simp only [if_neg q]
      rcases hr with z | ⟨_, z2⟩
      · exact k.i4 v hv hm z
      · exact absurd z2 q
end
theorem argmin {F : Nat → Int} : ∀ {U : List Nat}, U ≠ [] → ∃ m ∈ U, ∀ v ∈ U, F m ≤ F v
  | [], h => absurd rfl h
  | a :: r, _ => by
    by_cases hr : r = []
    · subst hr
      exact ⟨a, List.mem_cons_self .., fun v hv => by rw [List.mem_singleton.mp hv]; exact Int.le_refl _⟩
    · obtain ⟨m, h1, h2⟩ := argmin (F := F) hr
      by_cases q : F a ≤ F m
      · refine ⟨a, List.mem_cons_self .., fun v hv => ?_⟩
        rcases List.mem_cons.mp hv with z | z
        · rw [z]; exact Int.le_refl _
        · have := h2 v z; omega
      · refine ⟨m, List.mem_cons_of_mem _ h1, fun v hv => ?_⟩
        rcases List.mem_cons.mp hv with z | z
        · rw [z]; omega
        · exact h2 v z
/-- between two passes -/
structure Ps (n : Nat) (c : Nat → Nat → Int) (E : Nat → Int) (U : List Nat) (N : Nat → Int) : Prop where
  nd : U.Nodup
  ul : ∀ v ∈ U, v < n
  i1 : ∀ u v, u < n → u ∉ U → v < n → v ∈ U → N u - E u ≤ N v - E v
  i2 : ∀ u v, u < n → u ∉ U → v < n → v ≠ u → N v ≤ N u + c u v
theorem Ps.start {n : Nat} {c : Nat → Nat → Int} {E : Nat → Int} {U : List Nat} {N : Nat → Int} (hn : 1 ≤ n) (p : Ps n c E U N) : ∃ m, m < n ∧ Kk n c E U m (fun v => m < 0 ∨ (m = 0 ∧ v < 0)) N ∧ (U ≠ [] → m ∈ U) := by
  by_cases h : U = []
  · exact ⟨0, hn, ⟨p.i1, p.i2, (fun v hv hV => by rw [h] at hV; cases hV), fun v hv hm hr => by omega⟩, fun z => absurd h z⟩
  · obtain ⟨m, h1, h2⟩ := argmin (F := fun v => N v - E v) h
    exact ⟨m, p.ul m h1, ⟨p.i1, p.i2, fun v hv hV => h2 v hV, fun v hv hm hr => by omega⟩, fun _ => h1⟩
theorem Ps.stop {n : Nat} {c : Nat → Nat → Int} {E : Nat → Int} {U : List Nat} {N : Nat → Int} (nd : U.Nodup) (ul : ∀ v ∈ U, v < n) {m : Nat} (hm : m < n) (k : Kk n c E U m (fun v => m < n ∨ (m = n ∧ v < 0)) N) : Ps n c E (U.erase m) N := by
  refine ⟨nd.erase m, fun v hv => ul v ((List.Nodup.mem_erase_iff nd).mp hv).2, fun u v hu hU hv hV => ?_, fun u v hu hU hv hvu => ?_⟩
  · have hV := (List.Nodup.mem_erase_iff nd).mp hV
    by_cases q : u = m
    · subst q; exact k.i3 v hv hV.2
    · exact k.i1 u v hu (fun z => hU ((List.Nodup.mem_erase_iff nd).mpr ⟨q, z⟩)) hv hV.2
  · by_cases q : u = m
    · subst q; exact k.i4 v hv hvu (.inl hm)
    · exact k.i2 u v hu (fun z => hU ((List.Nodup.mem_erase_iff nd).mpr ⟨q, z⟩)) hv hvu
theorem optmin : ∀ (n : Nat) (g : Nat → Option Int), (∃ k, k < n ∧ ∃ x, g k = some x) → ∃ e, (∃ k, k < n ∧ g k = some e) ∧ ∀ k x, k < n → g k = some x → e ≤ x
  | 0, g, ⟨k, hk, _⟩ => by omega
  | n + 1, g, ⟨k, hk, x, hx⟩ => by
    by_cases hex : ∃ k, k < n ∧ ∃ x, g k = some x
    · obtain ⟨e, ⟨k1, h1, h2⟩, h3⟩ := optmin n g hex
      cases hn : g n with
      | none =>
        refine ⟨e, ⟨k1, by omega, h2⟩, fun k x hk hx => ?_⟩
        by_cases q : k = n
        · subst q; rw [hn] at hx; cases hx
        · exact h3 k x (by omega) hx
      | some y =>
        by_cases hy : y < e
        · refine ⟨y, ⟨n, by omega, hn⟩, fun k x hk hx => ?_⟩
          by_cases q : k = n
          · subst q; rw [hn] at hx; cases hx; omega
          · have := h3 k x (by omega) hx; omega
        · refine ⟨e, ⟨k1, by omega, h2⟩, fun k x hk hx => ?_⟩
          by_cases q : k = n
          · subst q; rw [hn] at hx; cases hx; omega
          · exact h3 k x (by omega) hx
    · have hkn : k = n := Classical.byContradiction fun z => hex ⟨k, by omega, x, hx⟩
      subst hkn
      refine ⟨x, ⟨k, by omega, hx⟩, fun k' x' hk' hx' => ?_⟩
      by_cases q : k' = k
      · subst q; rw [hx] at hx'; cases hx'; omega
      · exact absurd ⟨k', by omega, x', hx'⟩ hex
theorem tight_walk {n : Nat} {c : Nat → Nat → Int} {D : Nat → Nat → Option Int}
    (d0 : ∀ v, v < n → ∃ k, k < n ∧ ∃ x, D k v = some x)
    (d1 : ∀ k v y, k < n → v < n → D (k + 1) v = some y → ∃ u, u < n ∧ u ≠ v ∧ ∃ x, D k u = some x ∧ y = x + c u v)
    (d2 : ∀ k u v x, k < n → u < n → v < n → u ≠ v → D k u = some x → ∃ y, D (k + 1) v = some y ∧ y ≤ x + c u v)
    (hA : ∀ v y, v < n → D n v = some y → ∃ k, k < n ∧ ∃ x, D k v = some x ∧ x ≤ y)
    (hB : ∃ v, v < n ∧ ∃ y, D n v = some y ∧ ∀ k x, k < n → D k v = some x → y ≤ x) :
    ∃ E : Nat → Int, (∀ u v, u < n → v < n → u ≠ v → E v ≤ E u + c u v) ∧ ∀ N : Nat → Int, (∀ u v, u < n → v < n → u ≠ v → N v ≤ N u + c u v) →
      ∃ u v, u < n ∧ v < n ∧ u ≠ v ∧ N u + c u v = N v ∧ Rch (fun i j => decide (i ≠ j ∧ N i + c i j = N j)) n v u := by
  have hex : ∀ v, ∃ e, v < n → (∃ k, k < n ∧ D k v = some e) ∧ ∀ k x, k < n → D k v = some x → e ≤ x := fun v => by
    by_cases hv : v < n
    · obtain ⟨e, h⟩ := optmin n (fun k => D k v) (d0 v hv)
      exact ⟨e, fun _ => h⟩
    · exact ⟨0, fun z => absurd z hv⟩
  obtain ⟨E, hE⟩ := Classical.axiomOfChoice hex
  have hfe : ∀ u v, u < n → v < n → u ≠ v → E v ≤ E u + c u v := fun u v hu hv huv => by
    obtain ⟨⟨k, hk, hx⟩, _⟩ := hE u hu
    obtain ⟨y, hy, hle⟩ := d2 k u v _ hk hu hv huv hx
    by_cases q : k + 1 < n
    · have := (hE v hv).2 (k + 1) y q hy
      omega
    · have hkn : k + 1 = n := by omega
      rw [hkn] at hy
      obtain ⟨j, hj, x, hx, hxy⟩ := hA v y hv hy
      have := (hE v hv).2 j x hj hx
      omega
  refine ⟨E, hfe, fun N hN => ?_⟩
  obtain ⟨v0, hv0, y0, hy0, hB⟩ := hB
  have hE0 : D n v0 = some (E v0) := by
    obtain ⟨⟨k, hk, hx⟩, h2⟩ := hE v0 hv0
    have h3 := hB k _ hk hx
    obtain ⟨j, hj, x, hx, hxy⟩ := hA v0 y0 hv0 hy0
    have := h2 j x hj hx
    have : y0 = E v0 := by omega
    rw [← this]; exact hy0
  have hstep : ∀ q : Nat × Nat, ∃ u', q.1 < n → q.2 < n → D (n - q.1) q.2 = some (E q.2) → u' < n ∧ D (n - (q.1 + 1)) u' = some (E u') ∧ u' ≠ q.2 ∧ E q.2 = E u' + c u' q.2 := fun ⟨i, u⟩ => by
    by_cases h : i < n ∧ u < n ∧ D (n - i) u = some (E u)
    · obtain ⟨h1, h2, h3⟩ := h
      rw [show n - i = (n - (i + 1)) + 1 by omega] at h3
      obtain ⟨u', a1, a2, x, a3, a4⟩ := d1 _ u _ (by omega) h2 h3
      refine ⟨u', fun _ _ _ => ?_⟩
      have h5 := (hE u' a1).2 _ x (by omega) a3
      have h6 := hfe u' u a1 h2 a2
      have : x = E u' := by omega
      subst this
      exact ⟨a1, a3, a2, a4⟩
    · exact ⟨0, fun a b d => absurd ⟨a, b, d⟩ h⟩
  obtain ⟨g, hg⟩ := Classical.axiomOfChoice hstep
  let f : Nat → Nat := fun i => Nat.rec v0 (fun i u => g (i, u)) i
  have hf0 : f 0 = v0 := rfl
  have hfs : ∀ i, f (i + 1) = g (i, f i) := fun i => rfl
  have hf : ∀ i, i ≤ n → f i < n ∧ D (n - i) (f i) = some (E (f i)) := by
    intro i
    induction i with
    | zero => intro _; exact ⟨hv0, hE0⟩
    | succ i ih =>
      intro hi
      obtain ⟨a1, a2⟩ := ih (by omega)
      obtain ⟨b1, b2, _, _⟩ := hg (i, f i) (by omega) a1 a2
      rw [hfs]
      exact ⟨b1, b2⟩
  have hedge : ∀ i, i < n → f (i + 1) ≠ f i ∧ E (f i) = E (f (i + 1)) + c (f (i + 1)) (f i) := fun i hi => by
    obtain ⟨a1, a2⟩ := hf i (by omega)
    obtain ⟨_, _, b3, b4⟩ := hg (i, f i) (by omega) a1 a2
    rw [hfs]
    exact ⟨b3, b4⟩
  obtain ⟨a, b, hab, hbn, hfab⟩ := pigeon fun i hi => (hf i hi).1
  have hmono : ∀ t i, i + t ≤ n → N (f i) - E (f i) ≤ N (f (i + t)) - E (f (i + t)) := by
    intro t
    induction t with
    | zero => intro i _; exact Int.le_refl _
    | succ t ih =>
      intro i hi
      have h1 := ih i (by omega)
      obtain ⟨h2, h3⟩ := hedge (i + t) (by omega)
      have h4 := hN _ _ (hf (i + t + 1) (by omega)).1 (hf (i + t) (by omega)).1 h2
      rw [show i + (t + 1) = i + t + 1 by omega]
      omega
  have htight : ∀ i, a ≤ i → i < b → f (i + 1) ≠ f i ∧ N (f (i + 1)) + c (f (i + 1)) (f i) = N (f i) := fun i hi hib => by
    have h1 := hmono (i - a) a (by omega)
    have h2 := hmono (b - (i + 1)) (i + 1) (by omega)
    rw [show a + (i - a) = i by omega] at h1
    rw [show i + 1 + (b - (i + 1)) = b by omega] at h2
    obtain ⟨h3, h4⟩ := hedge i (by omega)
    have h5 := hN _ _ (hf (i + 1) (by omega)).1 (hf i (by omega)).1 h3
    rw [hfab] at h1
    exact ⟨h3, by omega⟩
  have hrch : ∀ t, a + t ≤ b → Rch (fun i j => decide (i ≠ j ∧ N i + c i j = N j)) n (f b) (f (b - t)) := by
    intro t
    induction t with
    | zero => intro _; exact .refl _
    | succ t ih =>
      intro ht
      have h1 := ih (by omega)
      have h2 := htight (b - (t + 1)) (by omega) (by omega)
      rw [show b - (t + 1) + 1 = b - t by omega] at h2
      exact h1.tail (by simpa using h2) (hf (b - (t + 1)) (by omega)).1
  obtain ⟨h1, h2⟩ := htight a (Nat.le_refl _) hab
  have h3 := hrch (b - (a + 1)) (by omega)
  rw [show b - (b - (a + 1)) = a + 1 by omega, ← hfab] at h3
  exact ⟨f (a + 1), f a, (hf (a + 1) (by omega)).1, (hf a (by omega)).1, h1, h2, h3⟩
end G3
end
/-! G3M8 -/
section
set_option Elab.async false
set_option linter.all false
set_option maxRecDepth 100000
set_option maxHeartbeats 4000000
/-! G3M8: the plain law: walks, the least mean. -/
namespace G3
def aa (C : Costs) (u v : Nat) : Int := cc C u v - cc C u u
/-- one cell after one row -/
structure CellOK (C : Costs) (n : Nat) (prev : List (Option Int)) (v : Nat) (r : Option Int) : Prop where
  d1 : ∀ y, r = some y → ∃ u, u < n ∧ u ≠ v ∧ ∃ x, prev[u]? = some (some x) ∧ y = x + aa C u v
  d2 : ∀ u x, u < n → u ≠ v → prev[u]? = some (some x) → ∃ y, r = some y ∧ y ≤ x + aa C u v
section
variable {C : Costs} {n : Nat} (h : Ok C n)
include h
theorem Ok.aa {u v : Nat} (hu : u < n) (hv : v < n) : (aa C u v).natAbs < 8796093022208 := by
  have := h.cp hu hv
  have := h.cb hu hv
  have := h.cp hu hu
  have := h.cb hu hu
  unfold G3.aa; omega
theorem wkCell_ok {prev row : List (Option Int)} (hp : prev.length = n) (hr : row.length ≤ n) {v : Nat} (hv : v < n) : ∃ r, wkCell C n prev row v = some (row ++ [r]) ∧ CellOK C n prev v r := by
  have hn12 := h.n12
  obtain ⟨l, l1, _, l2, l3⟩ := foldO_range (f := wkSome C prev v) (n := n) (s := []) (fun i acc => acc.length ≤ i ∧ (∀ y ∈ acc, ∃ u, u < n ∧ u ≠ v ∧ ∃ x, prev[u]? = some (some x) ∧ y = x + aa C u v) ∧ ∀ u x, u < i → u ≠ v → prev[u]? = some (some x) → x + aa C u v ∈ acc)
    ⟨Nat.le_refl _, (fun y hy => by cases hy), fun u x hu => by omega⟩ fun i acc hi ⟨a1, a2, a3⟩ => by
      unfold wkSome
      by_cases hiv : i = v
      · rw [if_neg (by omega)]
        exact ⟨_, rfl, by omega, a2, fun u x hu huv hx => a3 u x (by omega) huv hx⟩
      · rw [if_pos hiv, List.getElem?_eq_getElem (by omega : i < prev.length)]
        simp only [Option.bind_some]
        cases hpi : prev[i]'(by omega) with
        | none =>
          refine ⟨_, rfl, by omega, a2, fun u x hu huv hx => ?_⟩
          by_cases q : u = i
          · subst q
            rw [List.getElem?_eq_getElem (by omega : u < prev.length), hpi] at hx
            cases hx
          · exact a3 u x (by omega) huv hx
        | some x0 =>
          have hx0 : prev[i]? = some (some x0) := by rw [List.getElem?_eq_getElem (by omega : i < prev.length), hpi]
          simp only
          rw [h.at hi hv, h.at hi hi]
          simp only [Option.bind_some]
          rw [snocM_ok (by omega)]
          have he : x0 + cc C i v - cc C i i = x0 + aa C i v := by unfold aa; omega
          refine ⟨_, rfl, by simp; omega, fun y hy => ?_, fun u x hu huv hx => ?_⟩
          · rcases List.mem_append.mp hy with z | z
            · exact a2 y z
            · exact ⟨i, hi, hiv, x0, hx0, by rw [List.mem_singleton.mp z]; exact he⟩
          · by_cases q : u = i
            · subst q
              rw [hx0] at hx
              cases hx
              exact List.mem_append_right _ (List.mem_singleton.mpr he.symm)
            · exact List.mem_append_left _ (a3 u x (by omega) huv hx)
  unfold wkCell
  rw [l1]
  simp only [Option.bind_some]
  rw [snocM_ok (by omega)]
  refine ⟨_, rfl, fun y hy => ?_, fun u x hu huv hx => ?_⟩
  · cases l with
    | nil => cases hy
    | cons z r =>
      cases hy
      exact l2 _ (minI_le r z).2
  · have hm := l3 u x hu huv hx
    cases l with
    | nil => cases hm
    | cons z r => exact ⟨_, rfl, (minI_le r z).1 _ hm⟩
theorem wkRow_ok {prev : List (Option Int)} (hp : prev.length = n) : ∃ row, foldO (wkCell C n prev) [] (List.range n) = some row ∧ row.length = n ∧ ∀ v, v < n → ∃ r, row[v]? = some r ∧ CellOK C n prev v r := by
  obtain ⟨row, h1, h2, h3⟩ := foldO_range (f := wkCell C n prev) (n := n) (s := []) (fun j row => row.length = j ∧ ∀ v, v < j → ∃ r, row[v]? = some r ∧ CellOK C n prev v r) ⟨rfl, fun v hv => by omega⟩ fun j row hj ⟨a1, a2⟩ => by
    obtain ⟨r, r1, r2⟩ := wkCell_ok h hp (row := row) (by omega) hj
    refine ⟨_, r1, by simp [a1], fun v hv => ?_⟩
    by_cases q : v = j
    · subst q
      refine ⟨r, ?_, r2⟩
      rw [List.getElem?_append_right (by omega), a1]; simp
    · obtain ⟨r', b1, b2⟩ := a2 v (by omega)
      exact ⟨r', by rw [List.getElem?_append_left (by omega)]; exact b1, b2⟩
  exact ⟨row, h1, h2, h3⟩
/-- the table of walks -/
structure Tab (C : Costs) (n : Nat) (told : List (List (Option Int))) (D : Nat → Nat → Option Int) : Prop where
  at_ : ∀ k v, k ≤ n → v < n → idx2 told k v = some (D k v)
  zero : ∀ v, v < n → D 0 v = if v = 0 then some 0 else none
  d1 : ∀ k v y, k < n → v < n → D (k + 1) v = some y → ∃ u, u < n ∧ u ≠ v ∧ ∃ x, D k u = some x ∧ y = x + aa C u v
  d2 : ∀ k u v x, k < n → u < n → v < n → u ≠ v → D k u = some x → ∃ y, D (k + 1) v = some y ∧ y ≤ x + aa C u v
theorem walks_ok : ∃ told D, walksM C = some told ∧ Tab C n told D := by
  have hn12 := h.n12
  have hn1 := h.n1
  let init : List (Option Int) := some 0 :: List.replicate (n - 1) none
  have hil : init.length = n := by simp [init]; omega
  obtain ⟨told, t1, t2, t3, t4, t5⟩ := foldO_range (f := wkTurn C n) (n := n) (s := [init]) (fun k told => told.length = k + 1 ∧ told[0]? = some init ∧ (∀ i, i ≤ k → ∃ row, told[i]? = some row ∧ row.length = n) ∧ ∀ i, i < k → ∃ prev row, told[i]? = some prev ∧ told[i + 1]? = some row ∧ ∀ v, v < n → ∃ r, row[v]? = some r ∧ CellOK C n prev v r)
    ⟨rfl, rfl, (fun i hi => ⟨init, by rw [show i = 0 by omega]; rfl, hil⟩), fun i hi => by omega⟩ fun k told hk ⟨a1, a2, a3, a4⟩ => by
      obtain ⟨prev, b1, b2⟩ := a3 k (Nat.le_refl _)
      obtain ⟨row, r1, r2, r3⟩ := wkRow_ok h b2
      have hap : ∀ i, i ≤ k → (told ++ [row])[i]? = told[i]? := fun i hi => List.getElem?_append_left (by omega)
      have hnew : (told ++ [row])[k + 1]? = some row := by rw [List.getElem?_append_right (by omega), a1]; simp
      refine ⟨told ++ [row], ?_, by simp [a1], by rw [hap 0 (by omega)]; exact a2, fun i hi => ?_, fun i hi => ?_⟩
      · unfold wkTurn
        rw [List.getLast?_eq_getElem?, a1, show k + 1 - 1 = k by omega, b1]
        simp only [Option.bind_some]
        rw [r1]
        exact snocM_ok (by omega)
      · by_cases q : i = k + 1
        · subst q; exact ⟨row, hnew, r2⟩
        · rw [hap i (by omega)]; exact a3 i (by omega)
      · by_cases q : i = k
        · subst q
          exact ⟨prev, row, by rw [hap i (by omega)]; exact b1, hnew, r3⟩
        · obtain ⟨p', r', c1, c2, c3⟩ := a4 i (by omega)
          exact ⟨p', r', by rw [hap i (by omega)]; exact c1, by rw [hap (i + 1) (by omega)]; exact c2, c3⟩
  have hat : ∀ k v, k ≤ n → v < n → idx2 told k v = some ((idx2 told k v).getD none) := fun k v hk hv => by
    obtain ⟨row, r1, r2⟩ := t4 k hk
    unfold idx2
    rw [r1]
    simp only [Option.bind_some]
    rw [List.getElem?_eq_getElem (by omega : v < row.length)]; rfl
  have hprev : ∀ k u x, k ≤ n → u < n → (∀ prev, told[k]? = some prev → (prev[u]? = some (some x) ↔ (idx2 told k u).getD none = some x)) := fun k u x hk hu prev hp => by
    have h1 := hat k u hk hu
    have h2 : idx2 told k u = prev[u]? := by unfold idx2; rw [hp]; rfl
    rw [← h2, h1]
    constructor
    · intro z; exact Option.some.inj z
    · intro z; rw [Option.getD_some] at z; rw [z]
  refine ⟨told, fun k v => (idx2 told k v).getD none, ?_, hat, fun v hv => ?_, fun k v y hk hv hy => ?_, fun k u v x hk hu hv huv hx => ?_⟩
  · unfold walksM
    rw [if_pos (by rw [h.len]; omega), h.len]
    exact t1
  · unfold idx2
    rw [t3]
    simp only [Option.bind_some]
    by_cases q : v = 0
    · subst q; rfl
    · rw [if_neg q]
      obtain ⟨w, rfl⟩ : ∃ w, v = w + 1 := ⟨v - 1, by omega⟩
      show ((List.replicate (n - 1) none)[w]?).getD none = none
      rw [List.getElem?_replicate]
      split <;> rfl
  · obtain ⟨prev, row, a1, a2, a3⟩ := t5 k hk
    obtain ⟨r, r1, r2⟩ := a3 v hv
    have hr : (idx2 told (k + 1) v).getD none = r := by unfold idx2; rw [a2]; simp only [Option.bind_some]; rw [r1]; rfl
    simp only [hr] at hy
    obtain ⟨u, b1, b2, x, b3, b4⟩ := r2.d1 y hy
    exact ⟨u, b1, b2, x, (hprev k u x (by omega) b1 prev a1).mp b3, b4⟩
  · obtain ⟨prev, row, a1, a2, a3⟩ := t5 k hk
    obtain ⟨r, r1, r2⟩ := a3 v hv
    have hr : (idx2 told (k + 1) v).getD none = r := by unfold idx2; rw [a2]; simp only [Option.bind_some]; rw [r1]; rfl
    simp only [hr]
    exact r2.d2 u x hu huv ((hprev k u x (by omega) hu prev a1).mpr hx)
variable {told : List (List (Option Int))} {D : Nat → Nat → Option Int} (t : Tab C n told D)
include t
theorem Tab.big : ∀ k, k ≤ n → ∀ v x, v < n → D k v = some x → x.natAbs ≤ k * 8796093022208 := by
  intro k
  induction k with
  | zero =>
    intro _ v x hv hx
    rw [t.zero v hv] at hx
    split at hx
    · cases hx; simp
    · cases hx
  | succ k ih =>
    intro hk v x hv hx
    obtain ⟨u, hu, _, y, hy, e⟩ := t.d1 k v x (by omega) hv hx
    have h1 := ih (by omega) u y hu hy
    have h2 := h.aa hu hv
    rw [Nat.succ_mul]
    omega
theorem Tab.d0 (h2 : 2 ≤ n) : ∀ v, v < n → ∃ k, k < n ∧ ∃ x, D k v = some x := fun v hv => by
  have h0 := t.zero v hv
  by_cases q : v = 0
  · exact ⟨0, by omega, 0, by rw [h0, if_pos q]⟩
  · have h1 := t.zero 0 (by omega)
    rw [if_pos rfl] at h1
    obtain ⟨y, hy, _⟩ := t.d2 0 0 v 0 (by omega) (by omega) hv (fun z => q z.symm) h1
    exact ⟨1, by omega, y, hy⟩
theorem Tab.any (h2 : 2 ≤ n) : ∀ k, k ≤ n → ∃ v x, v < n ∧ D k v = some x := by
  intro k
  induction k with
  | zero => intro _; exact ⟨0, 0, by omega, by rw [t.zero 0 (by omega), if_pos rfl]⟩
  | succ k ih =>
    intro hk
    obtain ⟨u, x, hu, hx⟩ := ih (by omega)
    by_cases q : u = 0
    · obtain ⟨y, hy, _⟩ := t.d2 k u 1 x (by omega) hu (by omega) (by omega) hx
      exact ⟨1, y, by omega, hy⟩
    · obtain ⟨y, hy, _⟩ := t.d2 k u 0 x (by omega) hu (by omega) q hx
      exact ⟨0, y, by omega, hy⟩
end
/-! ### means -/
theorem lt_tr1 {x y : Fr} {N m : Int} (hx : 0 < x.2) (hy : 0 < y.2) (hm : 0 < m) (h1 : Lt1 y x) (h2 : x.1 * m ≤ N * x.2) : y.1 * m ≤ N * y.2 := by
  unfold Lt1 at h1
  have a := Int.mul_lt_mul_of_pos_right h1 hm
  have b := Int.mul_le_mul_of_nonneg_right h2 (Int.le_of_lt hy)
  refine Int.le_of_mul_le_mul_right ?_ hx
  have e1 : y.1 * m * x.2 = y.1 * x.2 * m := by grind
  have e2 : N * y.2 * x.2 = N * x.2 * y.2 := by grind
  have e3 : x.1 * y.2 * m = x.1 * m * y.2 := by grind
  omega
theorem lt_tr2 {x y : Fr} {N m : Int} (hy : 0 < y.2) (hm : 0 < m) (h1 : ¬ Lt1 y x) (h2 : y.1 * m = N * y.2) : x.1 * m ≤ N * x.2 := by
  unfold Lt1 at h1
  have a := Int.mul_le_mul_of_nonneg_right (Int.not_lt.mp h1) (Int.le_of_lt hm)
  refine Int.le_of_mul_le_mul_right ?_ hy
  have e1 : x.1 * m * y.2 = x.1 * y.2 * m := by grind
  have e2 : N * x.2 * y.2 = y.1 * x.2 * m := by grind
  omega
theorem lt_tr3 {x y : Fr} {N m : Int} (hx : 0 < x.2) (hy : 0 < y.2) (hm : 0 < m) (h1 : Lt1 x y) (h2 : N * x.2 ≤ x.1 * m) : N * y.2 ≤ y.1 * m := by
  unfold Lt1 at h1
  have a := Int.mul_lt_mul_of_pos_right h1 hm
  have b := Int.mul_le_mul_of_nonneg_right h2 (Int.le_of_lt hy)
  refine Int.le_of_mul_le_mul_right ?_ hx
  have e1 : y.1 * m * x.2 = y.1 * x.2 * m := by grind
  have e2 : N * y.2 * x.2 = N * x.2 * y.2 := by grind
  have e3 : x.1 * y.2 * m = x.1 * m * y.2 := by grind
  omega
theorem lt_tr4 {x y : Fr} {N m : Int} (hy : 0 < y.2) (hm : 0 < m) (h1 : ¬ Lt1 x y) (h2 : y.1 * m = N * y.2) : N * x.2 ≤ x.1 * m := by
  unfold Lt1 at h1
  have a := Int.mul_le_mul_of_nonneg_right (Int.not_lt.mp h1) (Int.le_of_lt hm)
  refine Int.le_of_mul_le_mul_right ?_ hy
  have e1 : x.1 * m * y.2 = x.1 * y.2 * m := by grind
  have e2 : N * x.2 * y.2 = y.1 * x.2 * m := by grind
  omega
/-- a mean's size -/
structure Qd (x : Fr) : Prop where
  red : Red x
  top : x.1.natAbs < 562949953421312
  bot : x.2 ≤ 12
theorem Qd.wd {x : Fr} (h : Qd x) : Wd 1 x := ⟨h.red, Nat.lt_trans h.top (by decide), by
  have h1 := h.bot
  have h2 := h.red.pos
  have h3 : x.2.natAbs ≤ 12 := by omega
  exact Nat.lt_of_le_of_lt h3 (by decide)⟩
section
variable {C : Costs} {n : Nat} (h : Ok C n) {told : List (List (Option Int))} {D : Nat → Nat → Option Int} (t : Tab C n told D)
include h t
structure Wst (n : Nat) (D : Nat → Nat → Option Int) (v : Nat) (dn : Int) (k : Nat) (x : Fr) : Prop where
  q : Qd x
  eq : ∃ k' dk, k' < n ∧ D k' v = some dk ∧ x.1 * ((n : Int) - k') = (dn - dk) * x.2
  ge : ∀ k' dk, k' < k → D k' v = some dk → (dn - dk) * x.2 ≤ x.1 * ((n : Int) - k')
theorem worst_ok (h2 : 2 ≤ n) {v : Nat} (hv : v < n) {dn : Int} (hdn : D n v = some dn) : ∃ x, foldO (lmWorst told n v dn) none (List.range n) = some (some x) ∧ Wst n D v dn n x := by
  have hn12 := h.n12
  have hbn := t.big h n (Nat.le_refl _) v dn hv hdn
  have hnb : n * 8796093022208 ≤ 12 * 8796093022208 := Nat.mul_le_mul_right _ hn12
  obtain ⟨w, w1, w2, w3⟩ := foldO_range (f := lmWorst told n v dn) (n := n) (s := none) (fun k worst => (worst = none → ∀ k', k' < k → D k' v = none) ∧ ∀ x, worst = some x → Wst n D v dn k x) ⟨fun _ k' hk' => by omega, fun x hx => by cases hx⟩ fun k worst hk ⟨a1, a2⟩ => by
    unfold lmWorst
    rw [t.at_ k v (by omega) hv]
    simp only [Option.bind_some]
    cases hdk : D k v with
    | none =>
      refine ⟨worst, rfl, fun e k' hk' => ?_, fun x hx => ⟨(a2 x hx).q, (a2 x hx).eq, fun k' dk hk' hdk' => ?_⟩⟩
      · by_cases q : k' = k
        · rw [q]; exact hdk
        · exact a1 e k' (by omega)
      · by_cases q : k' = k
        · rw [q, hdk] at hdk'; cases hdk'
        · exact (a2 x hx).ge k' dk (by omega) hdk'
    | some dk =>
      have hbk := t.big h k (by omega) v dk hv hdk
      have hkb : k * 8796093022208 ≤ 12 * 8796093022208 := Nat.mul_le_mul_right _ (by omega)
      simp only
      have hm : (0 : Int) < (n : Int) - k := by omega
      rw [fractionM_ok (m := 8) (by omega) (by have : (2 : Nat) ^ 8 = 256 := by decide
                                               omega) (by decide) (by decide)]
      simp only [Option.bind_some]
      have hI : Is (frac (dn - dk) ((n : Int) - k)) (dn - dk) ((n : Int) - k) := frac_is (by omega) hm rfl
      generalize frac (dn - dk) ((n : Int) - k) = f at *
      have hq : Qd f := ⟨hI.red, Nat.lt_of_le_of_lt hI.top (by omega), by have := hI.bot; omega⟩
      have hfp := hI.red.pos
      have hnew : ∀ (_ : ∀ k' d', k' < k → D k' v = some d' → (dn - d') * f.2 ≤ f.1 * ((n : Int) - k')), Wst n D v dn (k + 1) f := fun hh => ⟨hq, ⟨k, dk, hk, hdk, hI.eq⟩, fun k' d' hk' hd' => by
        by_cases q : k' = k
        · subst q; rw [hdk] at hd'; cases hd'; have := hI.eq; omega
        · exact hh k' d' (by omega) hd'⟩
      cases worst with
      | none =>
        refine ⟨some f, rfl, (fun e => by cases e), fun x hx => ?_⟩
        cases hx
        exact hnew fun k' d' hk' hd' => by rw [a1 rfl k' hk'] at hd'; cases hd'
      | some x =>
        have ax := a2 x rfl
        simp only
        rw [ax.q.wd.less hq.wd (by decide)]
        simp only [Option.bind_some]
        by_cases hl : Lt1 x f
        · rw [if_pos (decide_eq_true hl)]
          refine ⟨some f, rfl, (fun e => by cases e), fun y hy => ?_⟩
          cases hy
          exact hnew fun k' d' hk' hd' => lt_tr3 ax.q.red.pos hfp (by omega) hl (ax.ge k' d' hk' hd')
        · rw [if_neg (by simpa using hl)]
          refine ⟨some x, rfl, (fun e => by cases e), fun y hy => ?_⟩
          cases hy
          refine ⟨ax.q, ax.eq, fun k' d' hk' hd' => ?_⟩
          by_cases q : k' = k
          · subst q; rw [hdk] at hd'; cases hd'
            exact lt_tr4 hfp hm hl hI.eq
          · exact ax.ge k' d' (by omega) hd'
  obtain ⟨k, hk, x, hx⟩ := t.d0 h h2 v hv
  cases w with
  | none => rw [w2 rfl k hk] at hx; cases hx
  | some y => exact ⟨y, w1, w3 y rfl⟩
structure Lm (n : Nat) (D : Nat → Nat → Option Int) (j : Nat) (x : Fr) : Prop where
  q : Qd x
  hA : ∀ v dn, v < j → D n v = some dn → ∃ k dk, k < n ∧ D k v = some dk ∧ x.1 * ((n : Int) - k) ≤ (dn - dk) * x.2
  hB : ∃ v dn, v < n ∧ D n v = some dn ∧ ∀ k dk, k < n → D k v = some dk → (dn - dk) * x.2 ≤ x.1 * ((n : Int) - k)
theorem least_ok (h2 : 2 ≤ n) : ∃ x, foldO (lmTurn told n) none (List.range n) = some (some x) ∧ Lm n D n x := by
  obtain ⟨w, w1, w2, w3⟩ := foldO_range (f := lmTurn told n) (n := n) (s := none) (fun j best => (best = none → ∀ v, v < j → D n v = none) ∧ ∀ x, best = some x → Lm n D j x) ⟨fun _ k' hk' => by omega, fun x hx => by cases hx⟩ fun j best hj ⟨a1, a2⟩ => by
    unfold lmTurn
    rw [t.at_ n j (by omega) hj]
    simp only [Option.bind_some]
    cases hdn : D n j with
    | none =>
      refine ⟨best, rfl, fun e v hv => ?_, fun x hx => ⟨(a2 x hx).q, fun v dn hv hd => ?_, (a2 x hx).hB⟩⟩
      · by_cases q : v = j
        · rw [q]; exact hdn
        · exact a1 e v (by omega)
      · by_cases q : v = j
        · rw [q, hdn] at hd; cases hd
        · exact (a2 x hx).hA v dn (by omega) hd
    | some dn =>
      obtain ⟨y, y1, y2⟩ := worst_ok h t h2 hj hdn
      have hyp := y2.q.red.pos
      have hB : ∃ v dn, v < n ∧ D n v = some dn ∧ ∀ k dk, k < n → D k v = some dk → (dn - dk) * y.2 ≤ y.1 * ((n : Int) - k) := ⟨j, dn, hj, hdn, fun k dk hk hdk => y2.ge k dk hk hdk⟩
      obtain ⟨k0, dk0, e1, e2, e3⟩ := y2.eq
      simp only
      rw [y1]
      simp only [Option.bind_some]
      cases best with
      | none =>
        refine ⟨some y, rfl, (fun e => by cases e), fun x hx => ?_⟩
        cases hx
        refine ⟨y2.q, fun v d hv hd => ?_, hB⟩
        by_cases q : v = j
        · subst q; rw [hdn] at hd; cases hd
          exact ⟨k0, dk0, e1, e2, by omega⟩
        · rw [a1 rfl v (by omega)] at hd; cases hd
      | some x =>
        have ax := a2 x rfl
        simp only [Option.bind_some]
        rw [y2.q.wd.less ax.q.wd (by decide)]
        simp only [Option.bind_some]
        by_cases hl : Lt1 y x
        · rw [if_pos (decide_eq_true hl)]
          refine ⟨some y, rfl, (fun e => by cases e), fun z hz => ?_⟩
          cases hz
          refine ⟨y2.q, fun v d hv hd => ?_, hB⟩
          by_cases q : v = j
          · subst q; rw [hdn] at hd; cases hd
            exact ⟨k0, dk0, e1, e2, by omega⟩
          · obtain ⟨k, dk, b1, b2, b3⟩ := ax.hA v d (by omega) hd
            exact ⟨k, dk, b1, b2, lt_tr1 ax.q.red.pos hyp (by omega) hl b3⟩
        · rw [if_neg (by simpa using hl)]
          refine ⟨some x, rfl, (fun e => by cases e), fun z hz => ?_⟩
          cases hz
          refine ⟨ax.q, fun v d hv hd => ?_, ax.hB⟩
          by_cases q : v = j
          · subst q; rw [hdn] at hd; cases hd
            exact ⟨k0, dk0, e1, e2, lt_tr2 hyp (by omega) hl e3⟩
          · exact ax.hA v d (by omega) hd
  obtain ⟨v, x, hv, hx⟩ := t.any h h2 n (Nat.le_refl _)
  cases w with
  | none => rw [w2 rfl v hv] at hx; cases hx
  | some y => exact ⟨y, w1, w3 y rfl⟩
end
end G3
end
/-! G3M9 -/
section
set_option Elab.async false
set_option linter.all false
set_option maxRecDepth 100000
set_option maxHeartbeats 4000000
/-! G3M9: the plain law: the dearest round is told. -/
namespace G3
/-- an edge's price over the mean -/
def ce (C : Costs) (x : Fr) (u v : Nat) : Int := aa C u v * x.2 - x.1
structure Wn (n e : Nat) (q : Int) (N : Nat → Int) (w : List Fr) : Prop where
  len : w.length = n
  val : ∀ i, i < n → ∃ x, w[i]? = some x ∧ Is x (N i) q ∧ (N i).natAbs ≤ e * 1125899906842624
theorem Wn.mono {n e e' : Nat} {q : Int} {N : Nat → Int} {w : List Fr} (h : Wn n e q N w) (l : e ≤ e') : Wn n e' q N w := ⟨h.len, fun i hi => by
  obtain ⟨x, a, b, c⟩ := h.val i hi
  exact ⟨x, a, b, Nat.le_trans c (Nat.mul_le_mul_right _ l)⟩⟩
section
variable {C : Costs} {n : Nat} (h : Ok C n) {mean : Fr} (qm : Qd mean)
include h qm
theorem ce_big {u v : Nat} (hu : u < n) (hv : v < n) : (ce C mean u v).natAbs ≤ 1125899906842624 := by
  have h1 := h.aa hu hv
  have h2 := qm.top
  have h3 := qm.bot
  have h4 := qm.red.pos
  have h5 : (aa C u v * mean.2).natAbs ≤ 8796093022208 * 12 := by
    rw [Int.natAbs_mul]
    exact Nat.mul_le_mul (by omega) (by omega)
  unfold ce
  omega
theorem liThere_ok {e : Nat} (he : e ≤ 2000) {N : Nat → Int} {w : List Fr} (hw : Wn n e mean.2 N w) {u v : Nat} (hu : u < n) (hv : v < n) : ∃ t, liThere C mean w u v = some t ∧ Is t (N u + ce C mean u v) mean.2 := by
  obtain ⟨x, x1, x2, x3⟩ := hw.val u hu
  have h1 := h.aa hu hv
  have h2 := qm.top
  have h3 := qm.bot
  have h4 := qm.red.pos
  have h5 : (aa C u v * mean.2).natAbs ≤ 8796093022208 * 12 := by
    rw [Int.natAbs_mul]
    exact Nat.mul_le_mul (by omega) (by omega)
  have h6 : e * 1125899906842624 ≤ 2000 * 1125899906842624 := Nat.mul_le_mul_right _ he
  have h64 : (2 : Nat) ^ 64 = 18446744073709551616 := by decide
  have sq : Sm mean.2 := sm_small (by omega)
  have I1 : IsS x (N u) mean.2 := ⟨x2, sm_small (by omega), sq⟩
  have I2 : IsS (aa C u v, 1) (aa C u v * mean.2) mean.2 := by
    have := (is_int (aa C u v)).scale h4
    rw [Int.one_mul] at this
    exact ⟨this, sm_small (by omega), sq⟩
  obtain ⟨s, s1, s2⟩ := plus_is I1 I2
  have I3 : IsS s (N u + aa C u v * mean.2) mean.2 := ⟨s2, sm_small (by omega), sq⟩
  have I4 : IsS mean mean.1 mean.2 := ⟨qm.red.is, sm_small (by omega), sq⟩
  obtain ⟨t, t1, t2⟩ := minus_is I3 I4
  refine ⟨t, ?_, ?_⟩
  · unfold liThere
    rw [x1, h.at hu hv, h.at hu hu]
    simp only [Option.bind_some]
    show (plusM x (aa C u v, 1)).bind _ = _
    rw [s1]
    exact t1
  · rw [show N u + ce C mean u v = N u + aa C u v * mean.2 - mean.1 by unfold ce; omega]
    exact t2
theorem li_less {x y : Fr} {N1 N2 : Int} (hx : Is x N1 mean.2) (hy : Is y N2 mean.2) (b1 : N1.natAbs < 2 ^ 64) (b2 : N2.natAbs < 2 ^ 64) : isLessM x y = some (decide (N1 < N2)) := by
  have h3 := qm.bot
  have h4 := qm.red.pos
  have h64 : (2 : Nat) ^ 64 = 18446744073709551616 := by decide
  have sq : Sm mean.2 := sm_small (by omega)
  rw [less_is (⟨hx, sm_small b1, sq⟩ : IsS x N1 mean.2) (⟨hy, sm_small b2, sq⟩ : IsS y N2 mean.2)]
  congr 1
  refine decide_eq_decide.mpr ⟨fun z => Int.lt_of_mul_lt_mul_right z (Int.le_of_lt h4), fun z => Int.mul_lt_mul_of_pos_right z h4⟩
structure LiI (n : Nat) (c : Nat → Nat → Int) (E : Nat → Int) (q : Int) (U : List Nat) (m e : Nat) (R : Nat → Prop) (w : List Fr) : Prop where
  val : ∃ N, Wn n e q N w ∧ Kk n c E U m R N
theorem liTurn_ok {E : Nat → Int} (hE : ∀ u v, u < n → v < n → u ≠ v → E v ≤ E u + ce C mean u v) {U : List Nat} {m e a o : Nat} (he : e + 1 ≤ 2000) (ha : a < n) (ho : o < n) {w : List Fr} (i : LiI n (ce C mean) E mean.2 U m e (fun v => m < a ∨ (m = a ∧ v < o)) w) :
    ∃ w', liTurn C mean a w o = some w' ∧ LiI n (ce C mean) E mean.2 U m (e + 1) (fun v => m < a ∨ (m = a ∧ v < o + 1)) w' := by
  obtain ⟨N, hw, hk⟩ := i.val
  obtain ⟨t, t1, t2⟩ := liThere_ok h qm (by omega) hw ha ho
  have hR : ∀ v, v < n → v ≠ m → (m < a ∨ (m = a ∧ v < o + 1)) → ((m < a ∨ (m = a ∧ v < o)) ∨ (a = m ∧ v = o)) := fun v _ _ hr => by omega
  have hcb := ce_big h qm ha ho
  have h6 : e * 1125899906842624 ≤ 2000 * 1125899906842624 := Nat.mul_le_mul_right _ (by omega)
  have h64 : (2 : Nat) ^ 64 = 18446744073709551616 := by decide
  have hs : (e + 1) * 1125899906842624 = e * 1125899906842624 + 1125899906842624 := Nat.succ_mul ..
  unfold liTurn
  rw [t1]
  simp only [Option.bind_some]
  by_cases hao : a = o
  · rw [if_neg (by omega)]
    exact ⟨w, rfl, N, hw.mono (by omega), hk.mono fun v hv hm hr => by omega⟩
  · rw [if_pos hao]
    obtain ⟨x, x1, x2, x3⟩ := hw.val o ho
    obtain ⟨y, y1, y2, y3⟩ := hw.val a ha
    rw [x1]
    simp only [Option.bind_some]
    rw [li_less h qm t2 x2 (by omega) (by omega)]
    simp only [Option.bind_some]
    by_cases hl : N a + ce C mean a o < N o
    · rw [if_pos (decide_eq_true hl)]
      refine ⟨_, rfl, fun v => if v = o then N a + ce C mean a o else N v, ⟨by rw [List.length_set]; exact hw.len, fun v hv => ?_⟩, (hk.upd hE ha ho hao hl).mono hR⟩
      by_cases q : v = o
      · subst q
        refine ⟨t, by rw [List.getElem?_set_self]; rw [hw.len]; exact hv, by simp only [if_pos]; exact t2, ?_⟩
        simp only [if_pos]
        omega
      · obtain ⟨z, z1, z2, z3⟩ := hw.val v hv
        refine ⟨z, by rw [List.getElem?_set_ne fun z => q z.symm]; exact z1, by simp only [if_neg q]; exact z2, ?_⟩
        simp only [if_neg q]
        exact Nat.le_trans z3 (Nat.mul_le_mul_right _ (Nat.le_succ e))
    · rw [if_neg (by simpa using hl)]
      exact ⟨w, rfl, N, hw.mono (by omega), (hk.skip (x := a) (y := o) (by omega)).mono hR⟩
theorem lifted_ok {E : Nat → Int} (hE : ∀ u v, u < n → v < n → u ≠ v → E v ≤ E u + ce C mean u v) : ∃ w N, liftedM C mean = some w ∧ Wn n 1800 mean.2 N w ∧ ∀ u v, u < n → v < n → u ≠ v → N v ≤ N u + ce C mean u v := by
  have hn12 := h.n12
  have hn1 := h.n1
  unfold liftedM
  rw [if_pos (by rw [h.len]; omega), h.len]
  obtain ⟨w, w1, U, N, w2, w3, w4⟩ := foldO_range (f := fun w _ => foldO (fun w one => foldO (liTurn C mean one) w (List.range n)) w (List.range n)) (n := n) (s := List.replicate n ((0, 1) : Fr)) (fun T w => ∃ U N, U.length + T ≤ n ∧ Wn n (T * 144) mean.2 N w ∧ Ps n (ce C mean) E U N)
    ⟨List.range n, fun _ => 0, by simp, ⟨by simp, fun i hi => ⟨(0, 1), by simp [hi], ⟨⟨by decide, by decide⟩, qm.red.pos, by simp⟩, by simp⟩⟩, List.nodup_range, (fun v hv => List.mem_range.mp hv), (fun u v hu hU => absurd (List.mem_range.mpr hu) hU), fun u v hu hU => absurd (List.mem_range.mpr hu) hU⟩ fun T w hT ⟨U, N, a1, a2, a3⟩ => by
      obtain ⟨m, hm, b1, b2⟩ := a3.start hn1
      obtain ⟨w', c1, N', c2, c3⟩ := foldO_range (f := fun w one => foldO (liTurn C mean one) w (List.range n)) (n := n) (s := w) (fun a w => LiI n (ce C mean) E mean.2 U m (T * 144 + a * 12) (fun v => m < a ∨ (m = a ∧ v < 0)) w) ⟨N, by rw [Nat.zero_mul]; exact a2, b1⟩ fun a w ha i => by
        obtain ⟨w', d1, N', d2, d3⟩ := foldO_range (f := liTurn C mean a) (n := n) (s := w) (fun o w => LiI n (ce C mean) E mean.2 U m (T * 144 + a * 12 + o) (fun v => m < a ∨ (m = a ∧ v < o)) w) i fun o w ho i => liTurn_ok h qm hE (e := T * 144 + a * 12 + o) (by omega) ha ho i
        exact ⟨w', d1, N', d2.mono (by omega), d3.mono fun v hv hm hr => by omega⟩
      refine ⟨w', c1, U.erase m, N', ?_, c2.mono (by omega), ?_⟩
      · by_cases hU : U = []
        · subst hU; simp; omega
        · have := b2 hU
          rw [List.length_erase_of_mem this]
          have := List.length_pos_of_mem this
          omega
      · exact Ps.stop a3.nd a3.ul hm c3
  have hU : U = [] := List.eq_nil_of_length_eq_zero (by omega)
  refine ⟨w, N, w1, w3.mono (by omega), fun u v hu hv huv => w4.i2 u v hu (by rw [hU]; simp) hv fun z => huv z.symm⟩
end
/-- which steps are tight -/
def tg (C : Costs) (mean : Fr) (N : Nat → Int) (i j : Nat) : Bool := decide (i ≠ j ∧ N i + ce C mean i j = N j)
theorem dear_ok {C : Costs} {n : Nat} (h : Ok C n) (h2 : 2 ≤ n) : ∃ o, dearC C n = some o := by
  have hn12 := h.n12
  obtain ⟨told, D, t1, t2⟩ := walks_ok h
  obtain ⟨mean, m1, m2⟩ := least_ok h t2 h2
  have qm := m2.q
  have hq := qm.red.pos
  -- the prices over the mean
  let D' : Nat → Nat → Option Int := fun k v => (D k v).map fun x => x * mean.2 - k * mean.1
  have hD' : ∀ k v y, D' k v = some y → ∃ x, D k v = some x ∧ y = x * mean.2 - k * mean.1 := fun k v y hy => by
    obtain ⟨x, a, b⟩ := Option.map_eq_some_iff.mp hy
    exact ⟨x, a, b.symm⟩
  have hD2 : ∀ k v x, D k v = some x → D' k v = some (x * mean.2 - k * mean.1) := fun k v x hx => by
    show (D k v).map _ = _
    rw [hx]; rfl
  obtain ⟨E, hE, hN⟩ := tight_walk (n := n) (c := ce C mean) (D := D') (fun v hv => by
      obtain ⟨k, hk, x, hx⟩ := t2.d0 h h2 v hv
      exact ⟨k, hk, _, hD2 k v x hx⟩) (fun k v y hk hv hy => by
      obtain ⟨x, hx, rfl⟩ := hD' _ v y hy
      obtain ⟨u, hu, huv, z, hz, e⟩ := t2.d1 k v x hk hv hx
      refine ⟨u, hu, huv, _, hD2 k u z hz, ?_⟩
      subst e
      unfold ce
      grind) (fun k u v x hk hu hv huv hx => by
      obtain ⟨z, hz, rfl⟩ := hD' _ u x hx
      obtain ⟨y, hy, hle⟩ := t2.d2 k u v z hk hu hv huv hz
      refine ⟨_, hD2 _ v y hy, ?_⟩
      have h5 := Int.mul_le_mul_of_nonneg_right hle (Int.le_of_lt hq)
      unfold ce
      grind) (fun v y hv hy => by
      obtain ⟨dn, hdn, rfl⟩ := hD' _ v y hy
      obtain ⟨k, dk, hk, hdk, hle⟩ := m2.hA v dn hv hdn
      refine ⟨k, hk, _, hD2 k v dk hdk, ?_⟩
      grind) (by
      obtain ⟨v, dn, hv, hdn, hge⟩ := m2.hB
      refine ⟨v, hv, _, hD2 n v dn hdn, fun k x hk hx => ?_⟩
      obtain ⟨dk, hdk, rfl⟩ := hD' _ v x hx
      have := hge k dk hk hdk
      grind)
  obtain ⟨w, N, w1, w2, w3⟩ := lifted_ok h qm hE
  obtain ⟨u, v, hu, hv, huv, htight, hrch⟩ := hN N w3
  -- the ways
  have hcell : ∀ one, one < n → foldO (deCell C mean w one) [] (List.range n) = some ((List.range n).map fun j => tg C mean N one j) := fun one ho => by
    have := foldO_snoc (f := deCell C mean w one) (g := fun j => tg C mean N one j) (xs := List.range n) (acc := []) (by rw [List.length_range, List.length_nil]; omega) fun a j hj ha => by
      have hj := List.mem_range.mp hj
      obtain ⟨t, t1, t2⟩ := liThere_ok h qm (by omega) w2 ho hj
      unfold deCell
      rw [t1]
      simp only [Option.bind_some]
      by_cases q : one = j
      · rw [if_neg (by omega), snocM_ok ha]
        unfold tg
        rw [decide_eq_false (fun z => z.1 q)]
      · rw [if_pos q]
        obtain ⟨x, x1, x2, _⟩ := w2.val j hj
        rw [x1]
        simp only [Option.bind_some]
        rw [snocM_ok ha]
        congr 3
        unfold tg
        refine decide_eq_decide.mpr ?_
        rw [t2.eq_iff x2]
        constructor
        · intro z
          refine ⟨q, ?_⟩
          exact Int.eq_of_mul_eq_mul_right (by omega) z
        · intro z; rw [z.2]
    rw [this]; rfl
  have hways : foldO (deRow C mean w n) [] (List.range n) = some ((List.range n).map fun i => (List.range n).map fun j => tg C mean N i j) := by
    have := foldO_snoc (f := deRow C mean w n) (g := fun i => (List.range n).map fun j => tg C mean N i j) (xs := List.range n) (acc := []) (by rw [List.length_range, List.length_nil]; omega) fun a i hi ha => by
      unfold deRow
      rw [hcell i (List.mem_range.mp hi)]
      exact snocM_ok ha
    rw [this]; rfl
  let ways := (List.range n).map fun i => (List.range n).map fun j => tg C mean N i j
  have hwl : ways.length = n := by simp [ways]
  have hwa : ∀ i j, i < n → j < n → idx2 ways i j = some (tg C mean N i j) := fun i j hi hj => idx2_mk hi hj
  obtain ⟨o, o1, _, o2⟩ := foldR_range (f := fun _ one => foldR (deTurn ways one) () (List.range n)) (n := n) (s := ()) (ρ := List Nat) (fun i _ => ∀ a b, a < i → b < n → tg C mean N a b = true → ¬ Rch (tg C mean N) n b a) (fun _ => True) (fun a b ha => by omega) fun a _ ha hP => by
    obtain ⟨o, o1, _, o2⟩ := foldR_range (f := deTurn ways a) (n := n) (s := ()) (fun j _ => ∀ b, b < j → tg C mean N a b = true → ¬ Rch (tg C mean N) n b a) (fun _ => True) (fun b hb => by omega) fun j _ hj hP => by
      unfold deTurn
      rw [hwa a j ha hj]
      simp only [Option.bind_some]
      by_cases q : tg C mean N a j = true
      · rw [if_pos q]
        obtain ⟨r, r1, r2⟩ := wayM_ok hwl (by omega) hwa hj ha
        rw [r1]
        simp only [Option.bind_some]
        refine ⟨_, rfl, fun _ _ => trivial, fun s' e b hb hab => ?_⟩
        cases r with
        | some p => cases e
        | none =>
          by_cases q2 : b = j
          · subst q2
            intro z
            have := r2.mpr z
            cases this
          · exact hP b (by omega) hab
      · rw [if_neg q]
        refine ⟨_, rfl, fun _ _ => trivial, fun s' e b hb hab => ?_⟩
        by_cases q2 : b = j
        · subst q2; exact absurd hab q
        · exact hP b (by omega) hab
    refine ⟨o, o1, fun _ _ => trivial, fun s' e a' b ha' hb hab => ?_⟩
    by_cases q : a' = a
    · subst q; exact o2 s' e b hb hab
    · exact hP a' b (by omega) hb hab
  have hlm : leastMeanM C = some (some mean) := by
    unfold leastMeanM
    rw [if_pos (by rw [h.len]; omega), t1, h.len]
    exact m1
  unfold dearC
  rw [hlm]
  simp only [Option.bind_some]
  rw [w1]
  simp only [Option.bind_some]
  rw [hways]
  simp only [Option.bind_some]
  rw [show ((List.range n).map fun i => (List.range n).map fun j => tg C mean N i j) = ways from rfl, o1]
  cases o with
  | go s =>
    exfalso
    exact o2 s rfl u v hu hv (decide_eq_true ⟨huv, htight⟩) hrch
  | ret p =>
    simp only [Option.bind_some]
    have wd := qm.wd
    have : overM mean (0 - 1) = some (frac mean.1 (mean.2 * (0 - 1))) := by
      unfold overM
      rw [mulM_ok (k := 1) wd.bot (by decide) (by decide) (by decide) (by decide)]
      refine fractionM_ok (m := 89) (by omega) ?_ (by decide) (by decide)
      have h3 := qm.bot
      have h89 : (2 : Nat) ^ 89 = 618970019642690137449562112 := by decide
      omega
    rw [this]
    exact ⟨_, rfl⟩
end G3
end
/-! G3M10 -/
section
set_option Elab.async false
set_option linter.all false
set_option maxRecDepth 100000
set_option maxHeartbeats 4000000
/-! G3M10: the plain law: all is told of a good book; alike of books alike in cost. -/
namespace G3
structure GoodB (b : Book) : Prop where
  n1 : 1 ≤ b.length
  n12 : b.length ≤ 12
  ok : ∀ x ∈ b, okInts x.1.l = true ∧ okInts x.2.l = true
  pos : ∀ x ∈ b, ∀ y ∈ b, 0 < costAt x.1.l y.2.l
  big : ∀ x ∈ b, ∀ y ∈ b, costAt x.1.l y.2.l < 8796093022208
theorem GoodB.okB {b : Book} (g : GoodB b) : okBook b = true := by
  unfold okBook
  rw [Bool.and_eq_true]
  refine ⟨decide_eq_true (by have := g.n12; omega), ?_⟩
  rw [List.all_eq_true]
  intro x hx
  rw [Bool.and_eq_true]
  exact g.ok x hx
theorem GoodB.costs_ {b : Book} (g : GoodB b) : costsM b = some (costs b) := by unfold costsM; rw [if_pos g.okB]
theorem costs_at {b : Book} {i j : Nat} {x : Int} (h : idx2 (costs b) i j = some x) : ∃ u ∈ b, ∃ v ∈ b, x = costAt u.1.l v.2.l := by
  unfold idx2 costs at h
  rw [List.getElem?_map] at h
  cases hi : b[i]? with
  | none => rw [hi] at h; cases h
  | some u =>
    rw [hi] at h
    simp only [Option.map_some, Option.bind_some, List.getElem?_map] at h
    cases hj : b[j]? with
    | none => rw [hj] at h; cases h
    | some v =>
      rw [hj] at h
      cases h
      exact ⟨u, List.mem_of_getElem? hi, v, List.mem_of_getElem? hj, rfl⟩
theorem GoodB.Ok {b : Book} (g : GoodB b) : Ok (costs b) b.length := by
  refine ⟨by unfold costs; rw [List.length_map], g.n1, g.n12, fun r hr => ?_, fun i j x hx => ?_, fun i j x hx => ?_⟩
  · unfold costs at hr
    obtain ⟨u, _, rfl⟩ := List.mem_map.mp hr
    rw [List.length_map]
  · obtain ⟨u, hu, v, hv, rfl⟩ := costs_at hx
    exact g.pos u hu v hv
  · obtain ⟨u, hu, v, hv, rfl⟩ := costs_at hx
    exact g.big u hu v hv
theorem GoodB.sub {b b' : Book} (g : GoodB b) (hs : ∀ x ∈ b', x ∈ b) (h1 : 1 ≤ b'.length) (h2 : b'.length ≤ b.length) : GoodB b' := ⟨h1, Nat.le_trans h2 g.n12, fun x hx => g.ok x (hs x hx), fun x hx y hy => g.pos x (hs x hx) y (hs y hy), fun x hx y hy => g.big x (hs x hx) y (hs y hy)⟩
theorem GoodB.toldBy {b : Book} (g : GoodB b) (kind : PySem.Str) : ∃ o, toldByM b kind = some o := by
  unfold toldByM
  rw [g.costs_]
  exact told_ok g.Ok
theorem GoodB.hasWish {b : Book} (g : GoodB b) (kind : PySem.Str) : ∃ o, hasWishM b kind = some o := by
  unfold hasWishM
  obtain ⟨o, ho⟩ := g.toldBy kind
  rw [ho]; exact ⟨_, rfl⟩
theorem GoodB.leak {b : Book} (g : GoodB b) (h2 : 2 ≤ b.length) : ∃ o, leakM b = some o := by
  unfold leakM
  have := g.n12
  rw [if_pos (by omega), g.costs_]
  exact leak_ok g.Ok h2
theorem GoodB.dearest {b : Book} (g : GoodB b) (h2 : 2 ≤ b.length) : ∃ o, dearestM b = some o := by
  unfold dearestM
  have := g.n12
  rw [if_pos (by omega), g.costs_]
  exact dear_ok g.Ok h2
theorem GoodB.stand {b : Book} (g : GoodB b) {k : Nat} (hk : k < b.length) : ∃ o, standM b k = some o := by
  have hn12 := g.n12
  unfold standM needNumberM
  rw [if_pos hk]
  simp only [Option.bind_some]
  rw [g.costs_]
  simp only [Option.bind_some]
  rw [openWays_ok g.Ok]
  simp only [Option.bind_some]
  rw [if_pos (by omega)]
  refine compO_def fun j hj => ?_
  obtain ⟨o, h1, _⟩ := wayM_ok (owM_len (costs b) b.length) (by omega) (owM_at (costs b) b.length) (List.mem_range.mp hj) hk
  rw [h1]; exact ⟨_, rfl⟩
/-! ### slips -/
theorem choices_all : ∀ n, n ≤ 5 → ∀ s, s < n → ∃ cs, choicesM n s = some cs ∧ (cs.all fun ns => (List.range n).any fun k => !decide (k ∈ ns)) = true := by
  have h : ((List.range 6).all fun n => (List.range n).all fun s => match choicesM n s with
    | some cs => cs.all fun ns => (List.range n).any fun k => !decide (k ∈ ns)
    | none => false) = true := by decide
  intro n hn s hs
  have h1 := List.all_eq_true.mp h n (List.mem_range.mpr (by omega))
  have h2 := List.all_eq_true.mp h1 s (List.mem_range.mpr hs)
  cases hc : choicesM n s with
  | none => rw [hc] at h2; cases h2
  | some cs => rw [hc] at h2; exact ⟨cs, rfl, h2⟩
theorem without_mem {b : Book} {ns : List Nat} : ∀ x ∈ withoutB b ns, x ∈ b := fun x hx => by
  unfold withoutB at hx
  obtain ⟨p, hp, rfl⟩ := List.mem_map.mp hx
  exact (List.of_mem_zip (List.mem_filter.mp hp).1).2
theorem without_len {b : Book} {ns : List Nat} : (withoutB b ns).length ≤ b.length := by
  unfold withoutB
  rw [List.length_map]
  refine Nat.le_trans (List.length_filter_le _ _) ?_
  rw [List.length_zip, List.length_range]; omega
theorem without_pos {b : Book} {ns : List Nat} {k : Nat} (hk : k < b.length) (h : k ∉ ns) : 1 ≤ (withoutB b ns).length := by
  unfold withoutB
  rw [List.length_map]
  have : (k, b[k]) ∈ ((List.range b.length).zip b).filter fun p => !decide (p.1 ∈ ns) := by
    refine List.mem_filter.mpr ⟨?_, by simpa using h⟩
    have h2 : ((List.range b.length).zip b)[k]? = some (k, b[k]) := by
      rw [List.getElem?_zip_eq_some]
      exact ⟨List.getElem?_range hk, List.getElem?_eq_getElem hk⟩
    exact List.mem_of_getElem? h2
  exact List.length_pos_of_mem this
theorem GoodB.slips {b : Book} (g : GoodB b) (h5 : b.length ≤ 5) (kind : PySem.Str) : ∃ o, slipsM b kind = some o := by
  unfold slipsM needFewM
  rw [if_pos (by omega)]
  simp only [Option.bind_some]
  obtain ⟨o, h1, _⟩ := foldR_range (f := fun _ size => (choicesM b.length size).bind fun cs => foldR (slTurn b kind) () cs) (n := b.length) (s := ()) (ρ := List Nat) (fun _ _ => True) (fun _ => True) trivial fun size _ hs _ => by
    obtain ⟨cs, c1, c2⟩ := choices_all b.length h5 size hs
    rw [c1]
    simp only [Option.bind_some]
    obtain ⟨o, h1, _⟩ := foldR_list (f := slTurn b kind) (xs := cs) (s := ()) (fun _ _ => True) (fun _ => True) trivial fun i _ ns hns _ => by
      have h3 := List.all_eq_true.mp c2 ns (List.mem_of_getElem? hns)
      obtain ⟨k, hk, hkn⟩ := List.any_eq_true.mp h3
      have hk := List.mem_range.mp hk
      have g' := g.sub (b' := withoutB b ns) without_mem (without_pos hk (by simpa using hkn)) without_len
      obtain ⟨w, hw⟩ := g'.hasWish kind
      unfold slTurn withoutM
      rw [if_pos (by omega)]
      simp only [Option.bind_some]
      rw [hw]
      exact ⟨_, rfl, fun _ _ => trivial, fun _ _ => trivial⟩
    exact ⟨o, h1, fun _ _ => trivial, fun _ _ => trivial⟩
  rw [h1]
  exact ⟨_, rfl⟩
theorem GoodB.told {b : Book} (g : GoodB b) : ∃ o, toldM b = some o := by
  have hn12 := g.n12
  unfold toldM
  rw [if_pos (by omega)]
  obtain ⟨f, f1, f2⟩ := foldO_list (f := tlTurn b) (xs := [PySem.Str.ofString "any", PySem.Str.ofString "even", PySem.Str.ofString "scaled"]) (s := []) (fun i l => l.length ≤ 2 * i) (Nat.le_refl _) fun i l kind hk hl => by
    have hi : i < 3 := (List.getElem?_eq_some_iff.mp hk).1
    obtain ⟨w, hw⟩ := g.hasWish kind
    unfold tlTurn
    rw [hw]
    simp only [Option.bind_some]
    by_cases q : b.length < 6
    · rw [if_pos q]
      obtain ⟨s, hs⟩ := g.slips (by omega) kind
      rw [hs]
      simp only [Option.bind_some]
      rw [snocM_ok (by simp; omega)]
      exact ⟨_, rfl, by simp; omega⟩
    · rw [if_neg q, snocM_ok (by omega)]
      exact ⟨_, rfl, by simp; omega⟩
  rw [f1]
  have f2 : f.length ≤ 6 := f2
  simp only [Option.bind_some]
  have hst : ∃ st, compO (fun k => (standM b k).bind fun s => some (some (Res.l s))) (List.range b.length) = some st := compO_def fun k hk => by
    obtain ⟨o, ho⟩ := g.stand (List.mem_range.mp hk)
    rw [ho]; exact ⟨_, rfl⟩
  obtain ⟨st, hst⟩ := hst
  by_cases q : 1 < b.length
  · obtain ⟨l, hl⟩ := g.leak q
    obtain ⟨d, hd⟩ := g.dearest q
    rw [if_pos q, hl]
    simp only [Option.bind_some]
    rw [hd]
    simp only [Option.bind_some]
    rw [hst]
    simp only [Option.bind_some]
    rw [if_pos (by simp; omega)]
    exact ⟨_, rfl⟩
  · rw [if_neg q]
    simp only [Option.bind_some]
    rw [hst]
    simp only [Option.bind_some]
    rw [if_pos (by omega)]
    exact ⟨_, rfl⟩
/-! ### books alike in cost -/
section
variable {b1 b2 : Book} (o1 : okBook b1 = true) (o2 : okBook b2 = true) (hc : costs b1 = costs b2)
include hc
theorem len_eq : b1.length = b2.length := by
  have := congrArg List.length hc
  unfold costs at this
  rwa [List.length_map, List.length_map] at this
include o1 o2
theorem costsM_eq : costsM b1 = costsM b2 := by unfold costsM; rw [if_pos o1, if_pos o2, hc]
theorem toldBy_eq : toldByM b1 = toldByM b2 := by
  funext kind
  unfold toldByM
  rw [costsM_eq o1 o2 hc, len_eq hc]
theorem hasWish_eq : hasWishM b1 = hasWishM b2 := by
  funext kind
  unfold hasWishM
  rw [toldBy_eq o1 o2 hc]
theorem leak_eq : leakM b1 = leakM b2 := by
  unfold leakM
  rw [costsM_eq o1 o2 hc, len_eq hc]
theorem dearest_eq : dearestM b1 = dearestM b2 := by
  unfold dearestM
  rw [costsM_eq o1 o2 hc, len_eq hc]
theorem stand_eq : standM b1 = standM b2 := by
  funext k
  unfold standM needNumberM
  rw [costsM_eq o1 o2 hc, len_eq hc]
end
/-- the books of one list of numbers -/
def mk (g : Nat → Buy) (n : Nat) : Book := (List.range n).map g
theorem without_mk {g : Nat → Buy} {n : Nat} {ns : List Nat} : withoutB (mk g n) ns = ((List.range n).filter fun k => !decide (k ∈ ns)).map g := by
  unfold withoutB mk
  rw [List.length_map, List.length_range]
  have h1 : (List.range n).zip ((List.range n).map g) = (List.range n).map fun k => (k, g k) := by
    generalize List.range n = l
    induction l with
    | nil => rfl
    | cons a r ih => simp [ih]
  rw [h1, List.filter_map, List.map_map]
  rfl
theorem costs_map {g : Nat → Buy} {l : List Nat} : costs (l.map g) = l.map fun i => l.map fun j => costAt (g i).1.l (g j).2.l := by
  unfold costs
  rw [List.map_map]
  simp only [List.map_map]
  rfl
theorem okBook_sub {b b' : Book} (o : okBook b = true) (hs : ∀ x ∈ b', x ∈ b) (h : b'.length ≤ b.length) : okBook b' = true := by
  unfold okBook at *
  rw [Bool.and_eq_true] at *
  refine ⟨decide_eq_true (by have := of_decide_eq_true o.1; omega), ?_⟩
  rw [List.all_eq_true] at *
  intro x hx
  exact o.2 x (hs x hx)
theorem told_eq {g1 g2 : Nat → Buy} {n : Nat} (o1 : okBook (mk g1 n) = true) (o2 : okBook (mk g2 n) = true) (hc : ∀ i j, i < n → j < n → costAt (g1 i).1.l (g1 j).2.l = costAt (g2 i).1.l (g2 j).2.l) : toldM (mk g1 n) = toldM (mk g2 n) := by
  have hcs : ∀ l : List Nat, (∀ x ∈ l, x < n) → costs (l.map g1) = costs (l.map g2) := fun l hl => by
    rw [costs_map, costs_map]
    refine List.map_congr_left fun i hi => List.map_congr_left fun j hj => hc i j (hl i hi) (hl j hj)
  have h0 : costs (mk g1 n) = costs (mk g2 n) := hcs _ fun x hx => List.mem_range.mp hx
  have hlen := len_eq h0
  have hsl : slipsM (mk g1 n) = slipsM (mk g2 n) := by
    funext kind
    have : slTurn (mk g1 n) kind = slTurn (mk g2 n) kind := by
      funext u ns
      unfold slTurn withoutM
      rw [hlen]
      split
      · simp only [Option.bind_some]
        rw [hasWish_eq (okBook_sub o1 without_mem without_len) (okBook_sub o2 without_mem without_len) (b1 := withoutB (mk g1 n) ns) (b2 := withoutB (mk g2 n) ns)]
        rw [without_mk, without_mk]
        exact hcs _ fun x hx => List.mem_range.mp (List.mem_filter.mp hx).1
      · rfl
    unfold slipsM needFewM
    rw [hlen, this]
  have htl : tlTurn (mk g1 n) = tlTurn (mk g2 n) := by
    funext found kind
    unfold tlTurn
    rw [hasWish_eq o1 o2 h0, hlen, hsl]
  unfold toldM
  rw [htl, hlen, leak_eq o1 o2 h0, dearest_eq o1 o2 h0, stand_eq o1 o2 h0]
end G3
end
/-! G3M11 -/
section
set_option Elab.async false
set_option linter.all false
set_option maxRecDepth 100000
set_option maxHeartbeats 4000000
/-! G3M11: the plain law: the draws, the book. -/
namespace G3
theorem getP {α : Type} {P : α → Prop} {l : List α} (h : ∀ x ∈ l, P x) {i : Nat} (hi : i < l.length) : ∃ x, l[i]? = some x ∧ P x := ⟨l[i], List.getElem?_eq_getElem hi, h _ (List.getElem_mem hi)⟩
theorem draws_ok (cell : Int) {many : Nat} {base : Int} (hb : 0 < base) (hb2 : base < 1073741824) (hm : many ≤ 900) : ∃ l, drawsM cell many base = some l ∧ l.length = many ∧ ∀ x ∈ l, 0 ≤ x ∧ x < base := by
  have hmod : ∀ x : Int, 0 ≤ x % base ∧ x % base < base := fun x => ⟨Int.emod_nonneg _ (by omega), Int.emod_lt_of_pos _ hb⟩
  have hbig : ∀ x : Int, 0 ≤ x % bigM ∧ x % bigM < bigM := fun x => ⟨Int.emod_nonneg _ (by decide), Int.emod_lt_of_pos _ (by decide)⟩
  unfold drawsM
  rw [if_pos ⟨hb, hb2, by omega⟩]
  obtain ⟨s, h1, h2, h3, h4⟩ := foldO_range (f := drTurn base) (n := many + 3) (s := ⟨[], cell * (if 1000000000000000000 ≤ cell then 1 else 0), cell % bigM⟩) (fun i s => s.found.length = i - 3 ∧ (0 ≤ s.st ∧ s.st < bigM) ∧ ∀ x ∈ s.found, 0 ≤ x ∧ x < base) ⟨rfl, hbig _, fun x hx => by cases hx⟩ fun i s hi ⟨a1, a2, a3⟩ => by
    unfold drTurn
    rw [if_pos ⟨a2.1, a2.2, by omega⟩]
    have hn : 0 ≤ drNext s.st i ∧ drNext s.st i < bigM := hbig _
    by_cases q : 2 < i ∧ 0 < s.rest
    · rw [if_pos q]
      refine ⟨_, rfl, by simp; omega, hn, fun x hx => ?_⟩
      rcases List.mem_append.mp hx with z | z
      · exact a3 x z
      · rw [List.mem_singleton.mp z]; exact hmod _
    · rw [if_neg q]
      by_cases q2 : 2 < i
      · rw [if_pos q2]
        refine ⟨_, rfl, by simp; omega, hn, fun x hx => ?_⟩
        rcases List.mem_append.mp hx with z | z
        · exact a3 x z
        · rw [List.mem_singleton.mp z]; exact hmod _
      · rw [if_neg q2]
        exact ⟨_, rfl, by show s.found.length = _; omega, hn, a3⟩
  rw [h1]
  exact ⟨s.found, rfl, by omega, h4⟩
theorem best_ok {p wt : List Int} {n : Nat} {amount : Int} (hp : p.length = n) (hw : wt.length = n) (h1 : 1 ≤ n) (hn : n ≤ 900) (ha : 0 ≤ amount) : ∃ r, bestGoodM p wt amount = some r ∧ r.length = n ∧ ∀ x ∈ r, 0 ≤ x := by
  unfold bestGoodM
  rw [if_pos (by omega), hp]
  obtain ⟨b, b1, b2⟩ := foldO_range (f := bgTurn p wt) (n := n) (s := 0) (fun _ b => b < n) (by omega) fun i b hi hb => by
    unfold bgTurn
    rw [List.getElem?_eq_getElem (by omega : i < wt.length), List.getElem?_eq_getElem (by omega : b < p.length), List.getElem?_eq_getElem (by omega : b < wt.length), List.getElem?_eq_getElem (by omega : i < p.length)]
    refine ⟨_, rfl, ?_⟩
    split
    · exact hi
    · exact hb
  rw [b1]
  refine ⟨_, rfl, by simp, fun x hx => ?_⟩
  obtain ⟨k, _, rfl⟩ := List.mem_map.mp hx
  split <;> omega
/-- a buying's amounts -/
structure AmO (goods : Nat) (a : List Int) : Prop where
  len : a.length = goods
  all : ∀ x ∈ a, 0 ≤ x ∧ x ≤ 1000000
  some_ : ∃ x ∈ a, 0 < x
theorem max_amo {a : List Int} {goods : Nat} (h1 : 1 ≤ goods) (len : a.length = goods) (all : ∀ x ∈ a, 0 ≤ x ∧ x ≤ 1000000) : ∃ m, maxI a = some m ∧ (m ≠ 0 → AmO goods a) := by
  cases a with
  | nil => rw [List.length_nil] at len; omega
  | cons z r =>
    refine ⟨_, rfl, fun hm => ⟨len, all, _, (maxI_le r z).2, ?_⟩⟩
    have := all _ (maxI_le r z).2
    omega
theorem abAmounts_ok {heads picks prices : List Int} {goods : Nat} {far way : Int} (h1 : 1 ≤ goods) (h6 : goods ≤ 6) (hh : heads.length = 12) (hp : picks.length = 14) (hpn : ∀ x ∈ picks, 0 ≤ x ∧ x < 1000000000) (hpr : prices.length = goods) (hpf : ∀ x ∈ prices, 1 ≤ x ∧ x ≤ far) (hf : 0 < far) :
    ∃ a, abAmounts heads picks prices goods far way = some a ∧ AmO goods a := by
  obtain ⟨p12, e12, _⟩ := getP hpn (show 12 < picks.length by omega)
  obtain ⟨p13, e13, _⟩ := getP hpn (show 13 < picks.length by omega)
  unfold abAmounts
  rw [e12, e13]
  simp only [Option.bind_some]
  generalize hs : (picks.drop 6).take goods = some_
  have hsl : some_.length = goods := by rw [← hs, List.length_take, List.length_drop]; omega
  obtain ⟨a1, x1, x2, x3⟩ : ∃ a1, (if way = 1 then bestGoodM prices ((heads.drop 6).take goods) (1 + p12 % far) else some (some_.map fun pick => pick % (far + 1) * (if 0 < pick % 5 then 1 else 0))) = some a1 ∧ a1.length = goods ∧ ∀ x ∈ a1, 0 ≤ x := by
    by_cases q : way = 1
    · rw [if_pos q]
      have := Int.emod_nonneg p12 (show far ≠ 0 by omega)
      exact best_ok hpr (by rw [List.length_take, List.length_drop]; omega) h1 (by omega) (by omega)
    · rw [if_neg q]
      refine ⟨_, rfl, by rw [List.length_map]; exact hsl, fun x hx => ?_⟩
      obtain ⟨k, _, rfl⟩ := List.mem_map.mp hx
      have := Int.emod_nonneg k (show far + 1 ≠ 0 by omega)
      split <;> omega
  rw [x1]
  simp only [Option.bind_some]
  generalize ha2 : (if way = 2 then prices.map fun price => far + 1 - price else a1) = a2
  have y2 : a2.length = goods ∧ ∀ x ∈ a2, 0 ≤ x := by
    rw [← ha2]
    split
    · refine ⟨by rw [List.length_map]; exact hpr, fun x hx => ?_⟩
      obtain ⟨k, hk, rfl⟩ := List.mem_map.mp hx
      have := hpf k hk
      omega
    · exact ⟨x2, x3⟩
  generalize ha3 : (if p13 % 9 = 0 then some_.map fun pick => pick % far else a2) = a3
  have y3 : a3.length = goods ∧ ∀ x ∈ a3, 0 ≤ x := by
    rw [← ha3]
    split
    · refine ⟨by rw [List.length_map]; exact hsl, fun x hx => ?_⟩
      obtain ⟨k, hk, rfl⟩ := List.mem_map.mp hx
      exact Int.emod_nonneg k (show far ≠ 0 by omega)
    · exact y2
  generalize ha4 : (a3.map fun amount => if amount < 1000000 then amount else 1000000) = a4
  have y4 : a4.length = goods ∧ ∀ x ∈ a4, 0 ≤ x ∧ x ≤ 1000000 := by
    rw [← ha4]
    refine ⟨by rw [List.length_map]; exact y3.1, fun x hx => ?_⟩
    obtain ⟨k, hk, rfl⟩ := List.mem_map.mp hx
    have := y3.2 k hk
    split <;> omega
  obtain ⟨m, m1, m2⟩ := max_amo h1 y4.1 y4.2
  rw [m1]
  simp only [Option.bind_some]
  by_cases q : m = 0
  · rw [if_pos q]
    have hg : (0 : Int) < (goods : Int) := by omega
    have e1 := Int.emod_nonneg p12 (show (goods : Int) ≠ 0 by omega)
    have e2 := Int.emod_lt_of_pos p12 hg
    have hi : (p12 % (goods : Int)).toNat < a4.length := by omega
    rw [if_pos hi]
    refine ⟨_, rfl, by rw [List.length_set]; exact y4.1, fun x hx => ?_, 1, List.mem_set hi 1, by decide⟩
    rcases List.mem_or_eq_of_mem_set hx with z | z
    · exact y4.2 x z
    · rw [z]; decide
  · rw [if_neg q]
    exact ⟨a4, rfl, m2 q⟩
/-- a good buying -/
structure GB (goods : Nat) (x : Buy) : Prop where
  len : x.1.l.length = goods
  pr : ∀ p ∈ x.1.l, 1 ≤ p ∧ p ≤ 1000000
  am : AmO goods x.2.l
theorem abTurn_ok {cell1 : Int} {heads : List Int} {goods : Nat} {far way : Int} (h1 : 1 ≤ goods) (h6 : goods ≤ 6) (hh : heads.length = 12) (hf : 0 < far) (hf2 : far ≤ 1000000) {k : Nat} {book : Book} (hk : book.length = k) (hk2 : k ≤ 900) (hb : ∀ x ∈ book, GB goods x) : ∃ b, abTurn cell1 heads goods far way book k = some b ∧ b.length = k + 1 ∧ ∀ x ∈ b, GB goods x := by
  have e6 : heads[6]? = some heads[6] := List.getElem?_eq_getElem (by omega)
  obtain ⟨picks, p1, p2, p3⟩ := draws_ok (cell1 + (k : Int) * (heads[6] + 1)) (many := 14) (base := 1000000000) (by decide) (by decide) (by decide)
  have hpl : ((picks.take goods).map fun pick => 1 + pick % far).length = goods := by rw [List.length_map, List.length_take]; omega
  have hpr : ∀ x ∈ (picks.take goods).map fun pick => 1 + pick % far, 1 ≤ x ∧ x ≤ far := fun x hx => by
    obtain ⟨q, hq, rfl⟩ := List.mem_map.mp hx
    have := Int.emod_nonneg q (show far ≠ 0 by omega)
    have := Int.emod_lt_of_pos q hf
    omega
  obtain ⟨am, a1, a2⟩ := abAmounts_ok (way := way) h1 h6 hh p2 p3 hpl hpr hf
  obtain ⟨p13, e13, _⟩ := getP p3 (show 13 < picks.length by omega)
  unfold abTurn
  rw [e6]
  simp only [Option.bind_some]
  rw [p1]
  simp only [Option.bind_some]
  rw [a1]
  simp only [Option.bind_some]
  rw [e13]
  simp only [Option.bind_some]
  have hnew : ∀ bu : Buy, GB goods bu → ∃ b, snocM book bu = some b ∧ b.length = k + 1 ∧ ∀ x ∈ b, GB goods x := fun bu hg => ⟨_, snocM_ok (by omega), by simp [hk], fun x hx => by
    rcases List.mem_append.mp hx with z | z
    · exact hb x z
    · rw [List.mem_singleton.mp z]; exact hg⟩
  have hpr2 : ∀ x ∈ (picks.take goods).map fun pick => 1 + pick % far, 1 ≤ x ∧ x ≤ 1000000 := fun x hx => by
    have := hpr x hx; omega
  by_cases q : book ≠ [] ∧ p13.fdiv 9 % 7 = 0
  · rw [if_pos q]
    have hpos : 0 < book.length := List.length_pos_iff.mpr q.1
    have e1 := Int.emod_nonneg (p13.fdiv 63) (show (book.length : Int) ≠ 0 by omega)
    have e2 := Int.emod_lt_of_pos (p13.fdiv 63) (show (0 : Int) < (book.length : Int) by omega)
    obtain ⟨o, o1, o2⟩ := getP hb (show ((p13.fdiv 63) % (book.length : Int)).toNat < book.length by omega)
    rw [o1]
    simp only [Option.bind_some]
    exact hnew _ ⟨hpl, hpr2, o2.am⟩
  · rw [if_neg q]
    simp only [Option.bind_some]
    exact hnew _ ⟨hpl, hpr2, a2⟩
theorem pick3 {a b c x : Int} {P : Int → Prop} (ha : P a) (hb : P b) (hc : P c) : ∃ y, [a, b, c][(x % 3).toNat]? = some y ∧ P y := by
  have : x % 3 = 0 ∨ x % 3 = 1 ∨ x % 3 = 2 := by omega
  rcases this with z | z | z <;> rw [z]
  · exact ⟨a, rfl, ha⟩
  · exact ⟨b, rfl, hb⟩
  · exact ⟨c, rfl, hc⟩
theorem pick2 {a b x : Int} {P : Int → Prop} (ha : P a) (hb : P b) : ∃ y, [a, b][((x % 3).fdiv 2).toNat]? = some y ∧ P y := by
  have : x % 3 = 0 ∨ x % 3 = 1 ∨ x % 3 = 2 := by omega
  rcases this with z | z | z <;> rw [z]
  · exact ⟨a, rfl, ha⟩
  · exact ⟨a, rfl, ha⟩
  · exact ⟨b, rfl, hb⟩
theorem pick4 {a b c d x : Int} {P : Int → Prop} (ha : P a) (hb : P b) (hc : P c) (hd : P d) : ∃ y, [a, b, c, d][(x % 4).toNat]? = some y ∧ P y := by
  have : x % 4 = 0 ∨ x % 4 = 1 ∨ x % 4 = 2 ∨ x % 4 = 3 := by omega
  rcases this with z | z | z | z <;> rw [z]
  · exact ⟨a, rfl, ha⟩
  · exact ⟨b, rfl, hb⟩
  · exact ⟨c, rfl, hc⟩
  · exact ⟨d, rfl, hd⟩
theorem aBook_ok {K : PySem.W.Frag} (s : Scr K) (at_ : Nat) : ∃ b goods, aBookM s at_ 12 = some b ∧ 1 ≤ goods ∧ goods ≤ 6 ∧ 1 ≤ b.length ∧ b.length ≤ 12 ∧ ∀ x ∈ b, GB goods x := by
  obtain ⟨heads, h1, h2, h3⟩ := draws_ok (s.ns.getD at_ 0) (many := 12) (base := 1000000) (by decide) (by decide) (by decide)
  obtain ⟨h0, e0, _⟩ := getP h3 (show 0 < heads.length by omega)
  obtain ⟨g1, e1, _⟩ := getP h3 (show 1 < heads.length by omega)
  obtain ⟨g2, e2, _⟩ := getP h3 (show 2 < heads.length by omega)
  obtain ⟨g3, e3, _⟩ := getP h3 (show 3 < heads.length by omega)
  obtain ⟨g4, e4, _⟩ := getP h3 (show 4 < heads.length by omega)
  obtain ⟨g5, e5, _⟩ := getP h3 (show 5 < heads.length by omega)
  obtain ⟨goods, a1, a2, a3⟩ := pick3 (a := 1 + h0 % 6) (b := 2) (c := 2 + h0 % 2) (x := g1) (P := fun y => 1 ≤ y ∧ y ≤ 6) (by omega) (by omega) (by omega)
  obtain ⟨many, b1, b2, b3⟩ := pick2 (a := 1 + g2 % ((12 : Nat) : Int)) (b := 1 + g2 % (if (4 : Int) < ((12 : Nat) : Int) then 4 else ((12 : Nat) : Int))) (x := g3) (P := fun y => 1 ≤ y ∧ y ≤ 12) (by omega) (by rw [if_pos (by decide)]; omega)
  obtain ⟨far, c1, c2, c3⟩ := pick4 (a := 3) (b := 9) (c := 60) (d := 1000000) (x := g4) (P := fun y => 0 < y ∧ y ≤ 1000000) (by omega) (by omega) (by omega) (by omega)
  unfold aBookM
  rw [if_pos (by decide), h1]
  simp only [Option.bind_some]
  rw [e0, e1, e2, e3, e4, e5]
  simp only [Option.bind_some]
  rw [a1]
  simp only [Option.bind_some]
  rw [b1]
  simp only [Option.bind_some]
  rw [c1]
  simp only [Option.bind_some]
  rw [if_pos (by omega)]
  obtain ⟨b, d1, d2, d3⟩ := foldO_range (f := abTurn (s.ns.getD (at_ + 1) 0) heads goods.toNat far (g5 % 5)) (n := many.toNat) (s := []) (fun k b => b.length = k ∧ ∀ x ∈ b, GB goods.toNat x) ⟨rfl, fun x hx => by cases hx⟩ fun k b hk ⟨x1, x2⟩ => abTurn_ok (by omega) (by omega) h2 c2 c3 x1 (by omega) x2
  exact ⟨b, goods.toNat, d1, by omega, by omega, by omega, by omega, d3⟩
theorem lawBook_ok {K : PySem.W.Frag} (s : Scr K) : ∃ b goods, lawBook s = some b ∧ 1 ≤ goods ∧ goods ≤ 6 ∧ 1 ≤ b.length ∧ b.length ≤ 12 ∧ ∀ x ∈ b, GB goods x := by
  obtain ⟨b0, goods, h1, h2, h3, h4, h5, h6⟩ := aBook_ok s 0
  unfold lawBook
  rw [h1]
  simp only [Option.bind_some]
  generalize hb : b0.map cut5 = b
  have hbl : b.length = b0.length := by rw [← hb, List.length_map]
  rw [if_pos (by omega)]
  let gd := min 5 goods
  have hcut : ∀ x ∈ b, x.1.l.length = gd ∧ (∀ p ∈ x.1.l, 1 ≤ p ∧ p ≤ 1000000) ∧ x.2.l.length = gd ∧ ∀ a ∈ x.2.l, 0 ≤ a ∧ a ≤ 1000000 := fun x hx => by
    rw [← hb] at hx
    obtain ⟨y, hy, rfl⟩ := List.mem_map.mp hx
    have g := h6 y hy
    unfold cut5
    refine ⟨?_, fun p hp => g.pr p (List.mem_of_mem_take hp), ?_, fun a ha => g.am.all a (List.mem_of_mem_take ha)⟩
    · show (y.1.l.take 5).length = gd
      rw [List.length_take, g.len]
    · show (y.2.l.take 5).length = gd
      rw [List.length_take, g.am.len]
  have hzl : ((List.range b.length).zip b).length = b.length := by rw [List.length_zip, List.length_range]; omega
  obtain ⟨r, r1, r2, r3, _⟩ := foldO_list (f := fixTurn) (xs := (List.range b.length).zip b) (s := b) (fun i r => r.length = b.length ∧ (∀ j, j < i → ∃ x, r[j]? = some x ∧ GB gd x) ∧ ∀ j, i ≤ j → r[j]? = b[j]?) ⟨rfl, (fun j hj => by omega), fun j _ => rfl⟩ fun i r p hp ⟨a1, a2, a3⟩ => by
    obtain ⟨p1, p2⟩ := p
    have hz := List.getElem?_zip_eq_some.mp hp
    have hpb : b[i]? = some p2 := hz.2
    obtain ⟨hib, e2⟩ := List.getElem?_eq_some_iff.mp hpb
    have hpi : p1 = i := by
      have := hz.1
      rw [List.getElem?_range hib] at this
      exact (Option.some.inj this).symm
    subst hpi
    obtain ⟨c1, c2, c3, c4⟩ := hcut p2 (List.mem_of_getElem? hpb)
    obtain ⟨m, m1, m2⟩ := max_amo (goods := gd) (by omega) c3 c4
    unfold fixTurn
    simp only
    rw [m1]
    simp only [Option.bind_some]
    by_cases q : m = 0
    · rw [if_pos q, if_pos (by omega)]
      refine ⟨_, rfl, by rw [List.length_set]; exact a1, fun j hj => ?_, fun j hj => ?_⟩
      · by_cases q2 : j = p1
        · subst q2
          refine ⟨(p2.1, ⟨p2.2.l.dropLast ++ [1]⟩), List.getElem?_set_self (by omega), c1, c2, ?_, fun x hx => ?_, 1, ?_, by decide⟩
          · show (p2.2.l.dropLast ++ [1]).length = gd
            rw [List.length_append, List.length_dropLast]; simp; omega
          · have hx : x ∈ p2.2.l.dropLast ++ [1] := hx
            rcases List.mem_append.mp hx with z | z
            · exact c4 x (List.dropLast_subset _ z)
            · rw [List.mem_singleton.mp z]; decide
          · exact List.mem_append_right _ (List.mem_singleton.mpr rfl)
        · rw [List.getElem?_set_ne fun z => q2 z.symm]
          exact a2 j (by omega)
      · rw [List.getElem?_set_ne (by omega)]
        exact a3 j (by omega)
    · rw [if_neg q]
      refine ⟨r, rfl, a1, fun j hj => ?_, fun j hj => a3 j (by omega)⟩
      by_cases q2 : j = p1
      · subst q2
        exact ⟨p2, by rw [a3 j (Nat.le_refl _)]; exact hpb, c1, c2, m2 q⟩
      · exact a2 j (by omega)
  rw [hzl] at r3
  refine ⟨r, gd, r1, by omega, by omega, by omega, by omega, fun x hx => ?_⟩
  obtain ⟨j, hj, e⟩ := List.getElem_of_mem hx
  obtain ⟨y, y1, y2⟩ := r3 j (by omega)
  rw [List.getElem?_eq_getElem hj, e] at y1
  cases y1
  exact y2
/-! ### what a buying costs -/
theorem cost_nil (a : List Int) : costAt [] a = 0 := by unfold costAt; rfl
theorem cost_cons (p a : Int) (ps as : List Int) : costAt (p :: ps) (a :: as) = p * a + costAt ps as := by unfold costAt; rw [List.zip_cons_cons, List.map_cons, List.sum_cons]
theorem cost_append : ∀ {p1 a1 : List Int} (p2 a2 : List Int), p1.length = a1.length → costAt (p1 ++ p2) (a1 ++ a2) = costAt p1 a1 + costAt p2 a2
  | [], [], p2, a2, _ => by rw [cost_nil]; simp
  | p :: ps, a :: as, p2, a2, h => by
    rw [List.cons_append, List.cons_append, cost_cons, cost_cons, cost_append p2 a2 (by simpa using h)]
    omega
theorem cost_nn : ∀ {ps as : List Int}, (∀ p ∈ ps, 1 ≤ p ∧ p ≤ 1000000) → (∀ a ∈ as, 0 ≤ a ∧ a ≤ 1000000) → 0 ≤ costAt ps as ∧ costAt ps as ≤ ps.length * 1000000000000
  | [], as, _, _ => by rw [cost_nil]; exact ⟨by decide, by simp⟩
  | p :: ps, [], _, _ => by
    have : costAt (p :: ps) [] = 0 := by unfold costAt; rfl
    rw [this]; exact ⟨by decide, by omega⟩
  | p :: ps, a :: as, hp, ha => by
    rw [cost_cons]
    obtain ⟨h1, h2⟩ := cost_nn (ps := ps) (as := as) (fun q hq => hp q (List.mem_cons_of_mem _ hq)) fun q hq => ha q (List.mem_cons_of_mem _ hq)
    obtain ⟨p1, p2⟩ := hp p (List.mem_cons_self ..)
    obtain ⟨a1, a2⟩ := ha a (List.mem_cons_self ..)
    have h3 : 0 ≤ p * a := Int.mul_nonneg (by omega) a1
    have h4 : p * a ≤ 1000000 * 1000000 := Int.mul_le_mul p2 a2 a1 (by decide)
    rw [List.length_cons]
    omega
theorem cost_pos : ∀ {ps as : List Int}, ps.length = as.length → (∀ p ∈ ps, 1 ≤ p ∧ p ≤ 1000000) → (∀ a ∈ as, 0 ≤ a ∧ a ≤ 1000000) → (∃ a ∈ as, 0 < a) → 0 < costAt ps as
  | [], [], _, _, _, ⟨a, h, _⟩ => by cases h
  | p :: ps, a :: as, hl, hp, ha, ⟨x, hx, hx2⟩ => by
    rw [cost_cons]
    have hp' : ∀ p ∈ ps, 1 ≤ p ∧ p ≤ 1000000 := fun q hq => hp q (List.mem_cons_of_mem _ hq)
    have ha' : ∀ a ∈ as, 0 ≤ a ∧ a ≤ 1000000 := fun q hq => ha q (List.mem_cons_of_mem _ hq)
    obtain ⟨h1, h2⟩ := cost_nn hp' ha'
    obtain ⟨p1, p2⟩ := hp p (List.mem_cons_self ..)
    obtain ⟨a1, a2⟩ := ha a (List.mem_cons_self ..)
    have h3 : 0 ≤ p * a := Int.mul_nonneg (by omega) a1
    rcases List.mem_cons.mp hx with z | z
    · subst z
      have := Int.mul_pos (show 0 < p by omega) hx2
      omega
    · have := cost_pos (ps := ps) (as := as) (by simpa using hl) hp' ha' ⟨x, z, hx2⟩
      omega
theorem ints_ok {l : List Int} (h : l.length ≤ 1000) (hl : ∀ x ∈ l, 0 ≤ x ∧ x ≤ 10000000) : okInts l = true := by
  unfold okInts
  rw [Bool.and_eq_true]
  refine ⟨decide_eq_true h, ?_⟩
  rw [List.all_eq_true]
  intro x hx
  have := hl x hx
  exact decide_eq_true (by omega)
theorem good_of {b : Book} {goods : Nat} (h6 : goods ≤ 6) (h1 : 1 ≤ b.length) (h12 : b.length ≤ 12) (hb : ∀ x ∈ b, GB goods x) : GoodB b := by
  refine ⟨h1, h12, fun x hx => ?_, fun x hx y hy => ?_, fun x hx y hy => ?_⟩
  · have g := hb x hx
    refine ⟨ints_ok (by have := g.len; omega) fun p hp => ?_, ints_ok (by have := g.am.len; omega) fun a ha => ?_⟩
    · have := g.pr p hp; omega
    · have := g.am.all a ha; omega
  · exact cost_pos (by rw [(hb x hx).len, (hb y hy).am.len]) (hb x hx).pr (hb y hy).am.all (hb y hy).am.some_
  · have := (cost_nn (hb x hx).pr (hb y hy).am.all).2
    have h := (hb x hx).len
    rw [h] at this
    omega
end G3
end
/-! G3M12 -/
section
set_option Elab.async false
set_option linter.all false
set_option maxRecDepth 100000
set_option maxHeartbeats 4000000
/-! G3M12: the plain law: the turned books; the law. -/
namespace G3
open PySem PySem.Spec PyProof.Rows L2
open RepE (dat)
theorem eqvAll_refl : ∀ {xs : List PyData}, (∀ x ∈ xs, PyData.eqv x x = true) → PyData.eqvAll xs xs = true
  | [], _ => by unfold PyData.eqvAll; rfl
  | x :: r, h => by
    unfold PyData.eqvAll
    rw [h x (List.mem_cons_self ..), eqvAll_refl (xs := r) fun y hy => h y (List.mem_cons_of_mem _ hy)]; rfl
theorem eqv_res (t : Res) : PyData.eqv (dat t) (dat t) = true := by
  cases t with
  | b x => show PyData.eqv (.bool x) (.bool x) = true; unfold PyData.eqv; simp
  | l x =>
    show PyData.eqv (.list (x.map fun n : Nat => PyData.int n)) (.list (x.map fun n : Nat => PyData.int n)) = true
    unfold PyData.eqv
    refine eqvAll_refl fun y hy => ?_
    obtain ⟨n, _, rfl⟩ := List.mem_map.mp hy
    unfold PyData.eqv; simp
  | f x => exact (eqv_fr x x).trans (decide_eq_true rfl)
theorem eqv_told (t : List Res) : PyData.eqv (dat t) (dat t) = true := by
  show PyData.eqv (.list (t.map dat)) (.list (t.map dat)) = true
  unfold PyData.eqv
  refine eqvAll_refl fun y hy => ?_
  obtain ⟨n, _, rfl⟩ := List.mem_map.mp hy
  exact eqv_res n
theorem okBook_mk {g : Nat → Buy} {n : Nat} (hn : n ≤ 1000) (h : ∀ i, i < n → okInts (g i).1.l = true ∧ okInts (g i).2.l = true) : okBook (mk g n) = true := by
  unfold okBook mk
  rw [Bool.and_eq_true]
  refine ⟨decide_eq_true (by simpa using hn), ?_⟩
  rw [List.all_eq_true]
  intro x hx
  obtain ⟨i, hi, rfl⟩ := List.mem_map.mp hx
  rw [Bool.and_eq_true]
  exact h i (List.mem_range.mp hi)
theorem split_at {l : List Int} {k : Nat} (h : k < l.length) : l = l.take k ++ (l.getD k 0 :: l.drop (k + 1)) ∧ (l.drop k).take 1 = [l.getD k 0] := by
  have h1 : l.getD k 0 = l[k] := by simp [List.getD, h]
  have h2 := List.drop_eq_getElem_cons h
  constructor
  · rw [h1, ← h2, List.take_append_drop]
  · rw [h1, h2]; rfl
section
variable {x y : Buy} {goods : Nat} (gx : GB goods x) (gy : GB goods y)
include gx gy
theorem wide_cost (p q : Int) : costAt (tuWide p x).1.l (tuWide q y).2.l = costAt x.1.l y.2.l := by
  show costAt (x.1.l ++ [1 + p % 1000000]) (y.2.l ++ [0]) = _
  rw [cost_append _ _ (by rw [gx.len, gy.am.len]), cost_cons, cost_nil]
  omega
theorem part_cost {good : Nat} (hg : good < goods) (p q : Int) : costAt (tuPart p good x).1.l (tuPart q good y).2.l = costAt x.1.l y.2.l := by
  obtain ⟨e1, e2⟩ := split_at (l := x.1.l) (k := good) (by rw [gx.len]; exact hg)
  obtain ⟨e3, _⟩ := split_at (l := y.2.l) (k := good) (by rw [gy.am.len]; exact hg)
  show costAt (x.1.l ++ (x.1.l.drop good).take 1) ((y.2.l.take good ++ [y.2.l.getD good 0 - q % (y.2.l.getD good 0 + 1)] ++ y.2.l.drop (good + 1)) ++ [q % (y.2.l.getD good 0 + 1)]) = _
  rw [e2]
  have hl : (x.1.l.take good).length = (y.2.l.take good).length := by rw [List.length_take, List.length_take, gx.len, gy.am.len]
  have h0 : costAt x.1.l y.2.l = costAt (x.1.l.take good) (y.2.l.take good) + (x.1.l.getD good 0 * y.2.l.getD good 0 + costAt (x.1.l.drop (good + 1)) (y.2.l.drop (good + 1))) := by
    conv => lhs; rw [e1, e3]
    rw [cost_append _ _ hl, cost_cons]
  rw [cost_append _ _ (by simp [List.length_take, List.length_drop, gx.len, gy.am.len]; omega), cost_cons, cost_nil]
  have h1 : costAt x.1.l (y.2.l.take good ++ [y.2.l.getD good 0 - q % (y.2.l.getD good 0 + 1)] ++ y.2.l.drop (good + 1)) = costAt (x.1.l.take good) (y.2.l.take good) + (x.1.l.getD good 0 * (y.2.l.getD good 0 - q % (y.2.l.getD good 0 + 1)) + costAt (x.1.l.drop (good + 1)) (y.2.l.drop (good + 1))) := by
    conv => lhs; arg 1; rw [e1]
    rw [List.append_assoc, cost_append _ _ hl]
    rw [List.singleton_append, cost_cons]
  rw [h1, h0]
  grind
theorem other_cost {good : Nat} (hg : good < goods) {by_ : Int} (hb : y.2.l.getD good 0 % by_ = 0) : costAt (tuOther by_ good x).1.l (tuOther by_ good y).2.l = costAt x.1.l y.2.l := by
  obtain ⟨e1, e2⟩ := split_at (l := x.1.l) (k := good) (by rw [gx.len]; exact hg)
  obtain ⟨e3, _⟩ := split_at (l := y.2.l) (k := good) (by rw [gy.am.len]; exact hg)
  show costAt (x.1.l.take good ++ [x.1.l.getD good 0 * by_] ++ x.1.l.drop (good + 1)) (y.2.l.take good ++ [(y.2.l.getD good 0).fdiv by_] ++ y.2.l.drop (good + 1)) = _
  have hl : (x.1.l.take good).length = (y.2.l.take good).length := by rw [List.length_take, List.length_take, gx.len, gy.am.len]
  have h0 : costAt x.1.l y.2.l = costAt (x.1.l.take good) (y.2.l.take good) + (x.1.l.getD good 0 * y.2.l.getD good 0 + costAt (x.1.l.drop (good + 1)) (y.2.l.drop (good + 1))) := by
    conv => lhs; rw [e1, e3]
    rw [cost_append _ _ hl, cost_cons]
  rw [List.append_assoc, List.append_assoc, cost_append _ _ hl, List.singleton_append, List.singleton_append, cost_cons, h0]
  have h5 := Int.fdiv_mul_cancel (Int.dvd_of_emod_eq_zero hb)
  have h6 : x.1.l.getD good 0 * by_ * (y.2.l.getD good 0).fdiv by_ = x.1.l.getD good 0 * y.2.l.getD good 0 := by
    conv => rhs; rw [← h5]
    grind
  rw [h6]
end
section
variable {x : Buy} {goods : Nat} (gx : GB goods x) (h6 : goods ≤ 6)
include gx h6
theorem plain_ints : okInts x.1.l = true ∧ okInts x.2.l = true := ⟨ints_ok (by have := gx.len; omega) fun p hp => by have := gx.pr p hp; omega, ints_ok (by have := gx.am.len; omega) fun a ha => by have := gx.am.all a ha; omega⟩
theorem wide_ints (p : Int) : okInts (tuWide p x).1.l = true ∧ okInts (tuWide p x).2.l = true := by
  refine ⟨ints_ok ?_ fun q hq => ?_, ints_ok ?_ fun q hq => ?_⟩
  · show (x.1.l ++ [1 + p % 1000000]).length ≤ 1000
    have := gx.len; simp; omega
  · have hq : q ∈ x.1.l ++ [1 + p % 1000000] := hq
    rcases List.mem_append.mp hq with z | z
    · have := gx.pr q z; omega
    · rw [List.mem_singleton.mp z]; omega
  · show (x.2.l ++ [0]).length ≤ 1000
    have := gx.am.len; simp; omega
  · have hq : q ∈ x.2.l ++ [0] := hq
    rcases List.mem_append.mp hq with z | z
    · have := gx.am.all q z; omega
    · rw [List.mem_singleton.mp z]; omega
theorem amt {good : Nat} (hg : good < goods) : 0 ≤ x.2.l.getD good 0 ∧ x.2.l.getD good 0 ≤ 1000000 := by
  have h : good < x.2.l.length := by rw [gx.am.len]; exact hg
  have h1 : x.2.l.getD good 0 = x.2.l[good] := by simp [List.getD, h]
  rw [h1]
  exact gx.am.all _ (List.getElem_mem h)
theorem prc {good : Nat} (hg : good < goods) : 1 ≤ x.1.l.getD good 0 ∧ x.1.l.getD good 0 ≤ 1000000 := by
  have h : good < x.1.l.length := by rw [gx.len]; exact hg
  have h1 : x.1.l.getD good 0 = x.1.l[good] := by simp [List.getD, h]
  rw [h1]
  exact gx.pr _ (List.getElem_mem h)
theorem part_ints {good : Nat} (hg : good < goods) (p : Int) : okInts (tuPart p good x).1.l = true ∧ okInts (tuPart p good x).2.l = true := by
  obtain ⟨a1, a2⟩ := amt gx h6 hg
  have m1 := Int.emod_nonneg p (show x.2.l.getD good 0 + 1 ≠ 0 by omega)
  have m2 := Int.emod_lt_of_pos p (show 0 < x.2.l.getD good 0 + 1 by omega)
  refine ⟨ints_ok ?_ fun q hq => ?_, ints_ok ?_ fun q hq => ?_⟩
  · show (x.1.l ++ (x.1.l.drop good).take 1).length ≤ 1000
    have := gx.len; simp; omega
  · have hq : q ∈ x.1.l ++ (x.1.l.drop good).take 1 := hq
    rcases List.mem_append.mp hq with z | z
    · have := gx.pr q z; omega
    · have := gx.pr q (List.mem_of_mem_drop (List.mem_of_mem_take z)); omega
  · show ((x.2.l.take good ++ [x.2.l.getD good 0 - p % (x.2.l.getD good 0 + 1)] ++ x.2.l.drop (good + 1)) ++ [p % (x.2.l.getD good 0 + 1)]).length ≤ 1000
    have := gx.am.len; simp; omega
  · have hq : q ∈ (x.2.l.take good ++ [x.2.l.getD good 0 - p % (x.2.l.getD good 0 + 1)] ++ x.2.l.drop (good + 1)) ++ [p % (x.2.l.getD good 0 + 1)] := hq
    rcases List.mem_append.mp hq with z | z
    · rcases List.mem_append.mp z with z | z
      · rcases List.mem_append.mp z with z | z
        · have := gx.am.all q (List.mem_of_mem_take z); omega
        · rw [List.mem_singleton.mp z]; omega
      · have := gx.am.all q (List.mem_of_mem_drop z); omega
    · rw [List.mem_singleton.mp z]; omega
theorem other_ints {good : Nat} (hg : good < goods) {by_ : Int} (hb : 0 < by_) (hb9 : by_ ≤ 9) : okInts (tuOther by_ good x).1.l = true ∧ okInts (tuOther by_ good x).2.l = true := by
  obtain ⟨a1, a2⟩ := amt gx h6 hg
  obtain ⟨p1, p2⟩ := prc gx h6 hg
  have m1 : 0 ≤ (x.2.l.getD good 0).fdiv by_ := by rw [Int.fdiv_eq_ediv_of_nonneg _ (by omega)]; exact Int.ediv_nonneg a1 (by omega)
  have m2 : (x.2.l.getD good 0).fdiv by_ ≤ x.2.l.getD good 0 := by rw [Int.fdiv_eq_ediv_of_nonneg _ (by omega)]; exact Int.ediv_le_self _ a1
  have m3 : 0 ≤ x.1.l.getD good 0 * by_ := Int.mul_nonneg (by omega) (by omega)
  have m4 : x.1.l.getD good 0 * by_ ≤ 1000000 * 9 := Int.mul_le_mul p2 hb9 (by omega) (by decide)
  refine ⟨ints_ok ?_ fun q hq => ?_, ints_ok ?_ fun q hq => ?_⟩
  · show (x.1.l.take good ++ [x.1.l.getD good 0 * by_] ++ x.1.l.drop (good + 1)).length ≤ 1000
    have := gx.len; simp; omega
  · have hq : q ∈ x.1.l.take good ++ [x.1.l.getD good 0 * by_] ++ x.1.l.drop (good + 1) := hq
    rcases List.mem_append.mp hq with z | z
    · rcases List.mem_append.mp z with z | z
      · have := gx.pr q (List.mem_of_mem_take z); omega
      · rw [List.mem_singleton.mp z]; omega
    · have := gx.pr q (List.mem_of_mem_drop z); omega
  · show (x.2.l.take good ++ [(x.2.l.getD good 0).fdiv by_] ++ x.2.l.drop (good + 1)).length ≤ 1000
    have := gx.am.len; simp; omega
  · have hq : q ∈ x.2.l.take good ++ [(x.2.l.getD good 0).fdiv by_] ++ x.2.l.drop (good + 1) := hq
    rcases List.mem_append.mp hq with z | z
    · rcases List.mem_append.mp z with z | z
      · have := gx.am.all q (List.mem_of_mem_take z); omega
      · rw [List.mem_singleton.mp z]; omega
    · have := gx.am.all q (List.mem_of_mem_drop z); omega
end
theorem mk_succ (g : Nat → Buy) (i : Nat) : mk g (i + 1) = mk g i ++ [g i] := by unfold mk; rw [List.range_succ, List.map_append]; rfl
theorem mk_getD (b : Book) (d : Buy) : mk (fun i => b.getD i d) b.length = b := by
  refine List.ext_getElem? fun i => ?_
  unfold mk
  rw [List.getElem?_map]
  by_cases h : i < b.length
  · rw [List.getElem?_range h, List.getElem?_eq_getElem h]
    simp [List.getD, h]
  · rw [List.getElem?_eq_none (by simp; omega), List.getElem?_eq_none (by omega)]; rfl
theorem law_true {K : PySem.W.Frag} (s : Scr K) (h : s.ns.length ≤ 63) : lawM s = some true := by
  obtain ⟨b, goods, h1, g1, g6, n1, n12, hb⟩ := lawBook_ok s
  obtain ⟨picks, p1, p2, p3⟩ := draws_ok (s.ns.getD 2 0) (many := 22) (base := 1000000) (by decide) (by decide) (by decide)
  have hG := good_of g6 n1 n12 hb
  obtain ⟨due, hdue⟩ := hG.told
  obtain ⟨p20, e20, q20, _⟩ := getP p3 (show 20 < picks.length by omega)
  obtain ⟨p21, e21, q21, _⟩ := getP p3 (show 21 < picks.length by omega)
  let d : Buy := (⟨[]⟩, ⟨[]⟩)
  let x : Nat → Buy := fun i => b.getD i d
  have hx : ∀ i, i < b.length → b[i]? = some (x i) ∧ GB goods (x i) := fun i hi => by
    have e : x i = b[i] := by simp [x, List.getD, hi]
    rw [e]
    exact ⟨List.getElem?_eq_getElem hi, hb _ (List.getElem_mem hi)⟩
  have hbk : mk x b.length = b := mk_getD b d
  have e0 := Int.emod_nonneg p20 (show (goods : Int) ≠ 0 by omega)
  have e0' := Int.emod_lt_of_pos p20 (show (0 : Int) < (goods : Int) by omega)
  generalize hgood : (p20 % (goods : Int)).toNat = good
  have hg : good < goods := by omega
  have hgm : goodM b picks = some good := by
    unfold goodM
    rw [e20, (hx 0 (by omega)).1]
    simp only [Option.bind_some]
    rw [if_pos (by rw [(hx 0 (by omega)).2.len]; omega), (hx 0 (by omega)).2.len, hgood]
  generalize hby : 1 + p21 % 9 = by_
  have hby1 : 0 < by_ := by omega
  have hby9 : by_ ≤ 9 := by omega
  let gw : Nat → Buy := fun i => tuWide (picks.getD i 0) (x i)
  let gp : Nat → Buy := fun i => tuPart (picks.getD i 0) good (x i)
  let go : Nat → Buy := fun i => tuOther by_ good (x i)
  have hzl : ((List.range b.length).zip b).length = b.length := by rw [List.length_zip, List.length_range]; omega
  have hturn : turnedM b picks = some [mk gw b.length, mk gp b.length, mk go b.length] := by
    unfold turnedM
    rw [hgm]
    simp only [Option.bind_some]
    rw [e21]
    simp only [Option.bind_some]
    rw [hby]
    obtain ⟨m, m1, m2⟩ := foldO_list (f := tuTurn picks by_ good) (xs := (List.range b.length).zip b) (s := [[], [], []]) (fun i m => m = [mk gw i, mk gp i, mk go i]) rfl fun i m p hp e => by
      subst e
      obtain ⟨a1, a2⟩ := p
      have hz := List.getElem?_zip_eq_some.mp hp
      have hib := (List.getElem?_eq_some_iff.mp hz.2).1
      have hz1 := hz.1
      rw [List.getElem?_range hib] at hz1
      have hz2 := hz.2
      rw [(hx i hib).1] at hz2
      have ha1 : i = a1 := Option.some.inj hz1
      have ha2 : x i = a2 := Option.some.inj hz2
      subst ha1 ha2
      have hgb := (hx i hib).2
      have hml : ∀ g : Nat → Buy, (mk g i).length = i := fun g => by unfold mk; simp
      unfold tuTurn
      simp only
      have hpk : picks[i]? = some (picks.getD i 0) := by
        have : i < picks.length := by omega
        rw [List.getElem?_eq_getElem this]; simp [List.getD, this]
      rw [hpk]
      simp only [Option.bind_some]
      rw [if_pos ⟨by rw [hgb.len]; exact hg, by rw [hgb.am.len]; exact hg, by rw [hgb.len]; omega, by rw [hgb.am.len]; omega, (amt hgb g6 hg).1⟩]
      rw [snocM_ok (by rw [hml]; omega)]
      simp only [Option.bind_some]
      rw [snocM_ok (by rw [hml]; omega)]
      simp only [Option.bind_some]
      rw [snocM_ok (by rw [hml]; omega)]
      refine ⟨_, rfl, ?_⟩
      rw [mk_succ, mk_succ, mk_succ]
    rw [m1, m2, hzl]
  have hok0 : okBook (mk x b.length) = true := okBook_mk (by omega) fun i hi => plain_ints (hx i hi).2 g6
  have hw : toldM (mk gw b.length) = some due := by
    rw [told_eq (g1 := gw) (g2 := x) (okBook_mk (by omega) fun i hi => wide_ints (hx i hi).2 g6 _) hok0 fun i j hi hj => wide_cost (hx i hi).2 (hx j hj).2 _ _, hbk]
    exact hdue
  have hp : toldM (mk gp b.length) = some due := by
    rw [told_eq (g1 := gp) (g2 := x) (okBook_mk (by omega) fun i hi => part_ints (hx i hi).2 g6 hg _) hok0 fun i j hi hj => part_cost (hx i hi).2 (hx j hj).2 hg _ _, hbk]
    exact hdue
  obtain ⟨o, o1, o2, o3⟩ := foldR_list (f := laTurn by_ good) (xs := b) (s := ()) (fun i _ => ∀ j, j < i → (x j).2.l.getD good 0 % by_ = 0) (fun r => r = true) (fun j hj => by omega) fun i _ y hy hP => by
    have hib := (List.getElem?_eq_some_iff.mp hy).1
    rw [(hx i hib).1] at hy
    cases hy
    have hgb := (hx i hib).2
    have ha : (x i).2.l[good]? = some ((x i).2.l.getD good 0) := by
      have : good < (x i).2.l.length := by rw [hgb.am.len]; exact hg
      rw [List.getElem?_eq_getElem this]; simp [List.getD, this]
    have hpp : (x i).1.l[good]? = some ((x i).1.l.getD good 0) := by
      have : good < (x i).1.l.length := by rw [hgb.len]; exact hg
      rw [List.getElem?_eq_getElem this]; simp [List.getD, this]
    unfold laTurn
    rw [ha]
    simp only [Option.bind_some]
    rw [hpp]
    simp only [Option.bind_some]
    refine ⟨_, rfl, fun r e => ?_, fun s' e j hj => ?_⟩
    · split at e
      · cases e; rfl
      · cases e
    · split at e
      next => cases e
      next hc =>
        by_cases q : j = i
        · subst q
          have := Int.emod_nonneg ((x j).2.l.getD good 0) (show by_ ≠ 0 by omega)
          omega
        · exact hP j (by omega)
  unfold lawM
  rw [h1]
  simp only [Option.bind_some]
  rw [p1]
  simp only [Option.bind_some]
  rw [hdue]
  simp only [Option.bind_some]
  rw [hturn]
  simp only [Option.bind_some]
  rw [hw]
  simp only [Option.bind_some]
  rw [if_neg (by rw [eqv_told]; decide), hp]
  simp only [Option.bind_some]
  rw [if_neg (by rw [eqv_told]; decide), e21]
  simp only [Option.bind_some]
  rw [hgm]
  simp only [Option.bind_some]
  rw [hby, o1]
  simp only [Option.bind_some]
  cases o with
  | ret r =>
    have := o2 r rfl
    subst this
    rfl
  | go s' =>
    have hall := o3 s' rfl
    have ho : toldM (mk go b.length) = some due := by
      rw [told_eq (g1 := go) (g2 := x) (okBook_mk (by omega) fun i hi => other_ints (hx i hi).2 g6 hg hby1 hby9) hok0 fun i j hi hj => other_cost (hx i hi).2 (hx j hj).2 hg (hall j hj), hbk]
      exact hdue
    simp only
    rw [ho]
    simp only [Option.bind_some]
    rw [eqv_told]
end G3
end
/-! G3End -/
set_option Elab.async false
set_option linter.all false
set_option maxRecDepth 100000
set_option maxHeartbeats 0
namespace G3
open PySem PySem.Spec PyProof.Rows L2
open Evl (Ex fresh_back)
theorem facts {P : Program} {w : World} {h : Heap} {mg : Str → Option Value} {f : Addr} (Y : ∃ K : PySem.W.Frag, K.In h ∧ He.SaysD fa fn K) (G : h.Ns mainGlobals mg) (hfa : mg ("law" : Str) = some (.ref f)) :
    ∃ (K : PySem.W.Frag) (fd : FuncData) (sp : Sp), K.In h ∧ (∀ (s : Shared) (u : Value), BindsTo s fd ⟨[u], []⟩ [("script", u)]) ∧
      (∀ (H : Hp) (a : Addr) (ns : List Int), ns.length ≤ 63 → Only H → SqL K H a (ns.map V.int) → sp [.ref a] H (fun v _ => v = .bl true) fun _ _ _ => False) ∧
      ∀ base : Heap, K.In base → base.Ns mainGlobals mg → FnOk P w K mg base CX0 10 f fd ["script"] sp := by
  obtain ⟨K, KX, c⟩ := Y
  have T : Top K mg := ⟨h, KX, G, c⟩
  obtain ⟨f', fd, F, hm⟩ := T.fn (K := K) 41 41 (x := "law") (st := sLaw)
  rw [hfa] at hm
  cases hm
  have b := FunD.bindsA (ps := ["script"]) F fun _ _ _ _ _ _ us hl => match us, hl with | [_], _ => rfl
  refine ⟨K, fd, Sp1 (lawM (K := K)), KX, fun s v => b s [v] rfl, fun H a ns hl _ hS => ?_, fun base _ _ => fn_law T F⟩
  exact ⟨H, .ref a, ⟨ns⟩, true, rfl, Ex.refl H, ⟨a, rfl, hS⟩, law_true _ hl, fun v G2 H2 _ r => r⟩
end G3
open PySem PySem.W PySem.Calls PyProof.Rows
theorem PySem.Challenge.cw_onewish_k31_whole_goods_put_to_and_parte_holds : PySem.Challenge.rw_onewish_k31_whole_goods_put_to_and_parte.Holds := by
  w_on; o_law
  refine HandSHeadRun.head_any (r := OpenLaw.row PySem.Challenge.rw_onewish_k31_whole_goods_put_to_and_parte) (q := view (OpenLaw.row PySem.Challenge.rw_onewish_k31_whole_goods_put_to_and_parte).prog [53]) (H := G3.hk) (ob := G3.ob) (M := 4000) (loose := G3.loose) (d := HandSHeadRun.topDef (OpenLaw.row PySem.Challenge.rw_onewish_k31_whole_goods_put_to_and_parte).prog 53) (kwd := []) G3.ob_eq
    (by kernel_rfl) (fun s => by kernel_rfl) G3.run (by kernel_rfl) (by kernel_rfl) (by kernel_rfl) (by rfl) (by first | assumption | decide +kernel) (by decide +kernel) ⟨rfl, rfl, rfl, rfl, rfl, by decide +kernel⟩ ?hw ?hc
  case hw => w_witness2
  case hc =>
    refine L2.walk_ofE (l := PySem.Challenge.rw_onewish_k31_whole_goods_put_to_and_parte) (n := 63) (k := 10) (x := "script") (CX := L2.CX0) rfl (by decide) (by kernel_rfl) ⟨rfl, by decide, by decide⟩ ?F (fun _ _ _ _ z => z)
    intro w mg fa h Y G hmg0
    have hmg : mg ("law" : PySem.Str) = some (.ref fa) := by
      have e : (HandSHeadRun.topDef (OpenLaw.row PySem.Challenge.rw_onewish_k31_whole_goods_put_to_and_parte).prog 53).name = ("law" : PySem.Str) := by kernel_rfl
      rw [← e]
      exact hmg0
    exact G3.facts (P := PySem.Challenge.rw_onewish_k31_whole_goods_put_to_and_parte.prog) (w := w) Y G hmg
