import PyProof.Rows.All
import Wide.All
import OpenK.AllK
import Wide.FinOn
import KE.KStateDown
import HandS.ForMost
import HandS.Strs
import HandS.Defaults
import HandS.IsInst
import HandS.Deep
import HandS.SetBool
import HandS.SetFor
import HandS.DictComp
import HandS.TupSets
import HandS.Zip
import KE.KDictKeyed
import KE.SortData
import HandS.Head0
import HandS.Head1
import HandS.Head2
import HandS.HeadEnd
import HandS.HeadHook1
import HandS.HeadHook2
import PySem.Challenge.RW_setnests_k80_whole_drawings_as_sketches
set_option Elab.async false
set_option linter.all false
set_option maxRecDepth 100000
set_option maxHeartbeats 4000000
/-! What stands for what: plain data and the abstract heap. M lists the addresses that may still change. -/
namespace Rp
open PySem L2

/-- all but the addresses of M is as it was -/
def Kp (M : List Addr) (H H' : Hp) : Prop := ∀ a o, a ∉ M → H a = some o → H' a = some o
theorem Kp.refl (M : List Addr) (H : Hp) : Kp M H H := fun _ _ _ h => h
theorem Kp.trans {M : List Addr} {H H1 H2 : Hp} (x : Kp M H H1) (y : Kp M H1 H2) : Kp M H H2 := fun a o n h => y a o n (x a o n h)
theorem Kp.of {M : List Addr} {H H' : Hp} (s : Same H H') : Kp M H H' := fun a o _ h => s a o h
theorem Kp.same {H H' : Hp} (k : Kp [] H H') : Same H H' := fun a o h => k a o (by simp) h
theorem Kp.new {M : List Addr} {H H' : Hp} {p : Addr} {o : HO} (k : Kp M H H') (h : H' p = none) : Kp M H (upd H' p o) := fun a u n e => by
  have z := k a u n e
  rw [upd_ne (ne_of_none z h)]
  exact z
theorem Kp.mut {M : List Addr} {H H' : Hp} {p : Addr} {o : HO} (k : Kp M H H') (h : p ∈ M) : Kp M H (upd H' p o) := fun a u n e => by
  have z := k a u n e
  rw [upd_ne (fun q => n (by rw [q]; exact h))]
  exact z
theorem Kp.sub {M M' : List Addr} {H H' : Hp} (k : Kp M H H') (h : ∀ a ∈ M, a ∈ M') : Kp M' H H' := fun a o n e => k a o (fun z => n (h a z)) e
theorem Kp.free {M : List Addr} {H H' : Hp} {p : Addr} (k : Kp M H H') (n : p ∉ M) (h : H' p = none) : H p = none := by
  cases e : H p with
  | none => rfl
  | some o => rw [k p o n e] at h; cases h
/-- a local object of the callee's does not count -/
theorem Kp.drop {M : List Addr} {H H' : Hp} {p : Addr} (k : Kp (p :: M) H H') (h : H p = none) : Kp M H H' := fun a o n e => by
  refine k a o (fun z => ?_) e
  rcases List.mem_cons.mp z with z | z
  · rw [z, h] at e; cases e
  · exact n z
theorem Same.new {H H' : Hp} {p : Addr} {o : HO} (s : Same H H') (h : H' p = none) : Same H (upd H' p o) := fun a u e => by
  have z := s a u e
  rw [upd_ne (ne_of_none z h)]
  exact z
theorem Same.mut {H H' : Hp} {p : Addr} {o : HO} (s : Same H H') (h : H p = none) : Same H (upd H' p o) := fun a u e => by
  rw [upd_ne (ne_of_none e h)]
  exact s a u e
theorem Same.kp {M : List Addr} {H H1 H2 : Hp} (s : Same H H1) (k : Kp M H1 H2) (h : ∀ a ∈ M, H a = none) : Same H H2 := fun a o e =>
  k a o (fun z => by rw [h a z] at e; cases e) (s a o e)

/-! ### two lists, item by item -/
inductive F2 {α β : Type} (r : α → β → Prop) : List α → List β → Prop
  | nil : F2 r [] []
  | cons {a b as bs} : r a b → F2 r as bs → F2 r (a :: as) (b :: bs)
section
variable {α β γ : Type} {r r' : α → β → Prop} {as as' : List α} {bs bs' : List β} {a : α} {b : β}
theorem F2.length (h : F2 r as bs) : as.length = bs.length := by
  induction h with
  | nil => rfl
  | cons _ _ ih => simp [ih]
theorem F2.imp (h : F2 r as bs) (f : ∀ x y, r x y → r' x y) : F2 r' as bs := by
  induction h with
  | nil => exact .nil
  | cons x _ ih => exact .cons (f _ _ x) ih
theorem F2.app (h : F2 r as bs) (k : F2 r as' bs') : F2 r (as ++ as') (bs ++ bs') := by
  induction h with
  | nil => exact k
  | cons x _ ih => exact .cons x ih
theorem F2.snoc (h : F2 r as bs) (k : r a b) : F2 r (as ++ [a]) (bs ++ [b]) := h.app (.cons k .nil)
theorem F2.get (h : F2 r as bs) {i : Nat} (e : as[i]? = some a) : ∃ b, bs[i]? = some b ∧ r a b := by
  induction h generalizing i with
  | nil => simp at e
  | @cons x y xs ys hx _ ih =>
    cases i with
    | zero => simp at e; subst e; exact ⟨y, by simp, hx⟩
    | succ i => simpa using ih (by simpa using e)
theorem F2.get' (h : F2 r as bs) {i : Nat} (e : bs[i]? = some b) : ∃ a, as[i]? = some a ∧ r a b := by
  induction h generalizing i with
  | nil => simp at e
  | @cons x y xs ys hx _ ih =>
    cases i with
    | zero => simp at e; subst e; exact ⟨x, by simp, hx⟩
    | succ i => simpa using ih (by simpa using e)
theorem F2.of_get (hl : as.length = bs.length) (h : ∀ (i : Nat) a b, as[i]? = some a → bs[i]? = some b → r a b) : F2 r as bs := by
  induction as generalizing bs with
  | nil => cases bs with
    | nil => exact .nil
    | cons _ _ => simp at hl
  | cons x xs ih => cases bs with
    | nil => simp at hl
    | cons y ys => exact .cons (h 0 x y (by simp) (by simp)) (ih (by simpa using hl) fun i a b h1 h2 => h (i + 1) a b (by simpa using h1) (by simpa using h2))
theorem F2.set (h : F2 r as bs) (i : Nat) (k : r a b) : F2 r (as.set i a) (bs.set i b) := by
  induction h generalizing i with
  | nil => exact .nil
  | @cons x y xs ys hx hy ih =>
    cases i with
    | zero => exact .cons k hy
    | succ i => exact .cons hx (ih i)
theorem F2.take (h : F2 r as bs) (n : Nat) : F2 r (as.take n) (bs.take n) := by
  induction h generalizing n with
  | nil => simp; exact .nil
  | cons x _ ih => cases n with
    | zero => exact .nil
    | succ n => exact .cons x (ih n)
theorem F2.drop (h : F2 r as bs) (n : Nat) : F2 r (as.drop n) (bs.drop n) := by
  induction h generalizing n with
  | nil => simp; exact .nil
  | cons x y ih => cases n with
    | zero => exact .cons x y
    | succ n => exact ih n
theorem F2.mapL {f : γ → α} {cs : List γ} (h : ∀ c ∈ cs, ∀ b, r' (f c) b → r (f c) b) (k : F2 r' (cs.map f) bs) : F2 r (cs.map f) bs := by
  induction cs generalizing bs with
  | nil => cases k; exact .nil
  | cons c cs ih => cases k with
    | cons x y => exact .cons (h c (by simp) _ x) (ih (fun d hd => h d (by simp [hd])) y)
theorem F2.eqMap {f : β → α} (h : F2 (fun a b => a = f b) as bs) : as = bs.map f := by
  induction h with
  | nil => rfl
  | cons x _ ih => simp [x, ih]
theorem F2.ofMap {f : β → α} : F2 (fun a b => a = f b) (bs.map f) bs := by
  induction bs with
  | nil => exact .nil
  | cons b bs ih => exact .cons rfl ih
end

/-! ### what stands for what -/
abbrev R (α : Type) := List Addr → Hp → V → α → Prop
class Rep {α : Type} (r : R α) : Prop where
  mono : ∀ {M H H' v x}, Kp M H H' → r M H v x → r M H' v x
  sub : ∀ {M M' H v x}, (∀ a ∈ M', a ∈ M) → r M H v x → r M' H v x
  new : ∀ {M H p v x}, H p = none → r M H v x → r (p :: M) H v x
def rI : R Int := fun _ _ v i => v = .int i
def rN : R Nat := fun _ _ v n => v = .int (n : Int)
def rB : R Bool := fun _ _ v b => v = .bl b
def rS : R Str := fun _ _ v b => v = .str b
instance : Rep rI := ⟨fun _ h => h, fun _ h => h, fun _ h => h⟩
instance : Rep rN := ⟨fun _ h => h, fun _ h => h, fun _ h => h⟩
instance : Rep rB := ⟨fun _ h => h, fun _ h => h, fun _ h => h⟩
instance : Rep rS := ⟨fun _ h => h, fun _ h => h, fun _ h => h⟩
/-- a list, a tuple of any length, a pair -/
def rL {α : Type} (r : R α) : R (List α) := fun M H v xs => ∃ a vs, v = .ref a ∧ a ∉ M ∧ H a = some (.lst vs) ∧ F2 (r M H) vs xs
def rT {α : Type} (r : R α) : R (List α) := fun M H v xs => ∃ a vs, v = .ref a ∧ a ∉ M ∧ H a = some (.tup vs) ∧ F2 (r M H) vs xs
def rP {α β : Type} (r : R α) (q : R β) : R (α × β) := fun M H v x => ∃ a v1 v2, v = .ref a ∧ a ∉ M ∧ H a = some (.tup [v1, v2]) ∧ r M H v1 x.1 ∧ q M H v2 x.2
instance {α : Type} {r : R α} [Rep r] : Rep (rL r) where
  mono := fun k ⟨a, vs, e, n, h, f⟩ => ⟨a, vs, e, n, k a _ n h, f.imp fun _ _ z => Rep.mono k z⟩
  sub := fun s ⟨a, vs, e, n, h, f⟩ => ⟨a, vs, e, fun z => n (s a z), h, f.imp fun _ _ z => Rep.sub s z⟩
  new := fun hp ⟨a, vs, e, n, h, f⟩ => ⟨a, vs, e, fun z => (List.mem_cons.mp z).elim (ne_of_none h hp) n, h, f.imp fun _ _ z => Rep.new hp z⟩
instance {α : Type} {r : R α} [Rep r] : Rep (rT r) where
  mono := fun k ⟨a, vs, e, n, h, f⟩ => ⟨a, vs, e, n, k a _ n h, f.imp fun _ _ z => Rep.mono k z⟩
  sub := fun s ⟨a, vs, e, n, h, f⟩ => ⟨a, vs, e, fun z => n (s a z), h, f.imp fun _ _ z => Rep.sub s z⟩
  new := fun hp ⟨a, vs, e, n, h, f⟩ => ⟨a, vs, e, fun z => (List.mem_cons.mp z).elim (ne_of_none h hp) n, h, f.imp fun _ _ z => Rep.new hp z⟩
instance {α β : Type} {r : R α} {q : R β} [Rep r] [Rep q] : Rep (rP r q) where
  mono := fun k ⟨a, v1, v2, e, n, h, x, y⟩ => ⟨a, v1, v2, e, n, k a _ n h, Rep.mono k x, Rep.mono k y⟩
  sub := fun s ⟨a, v1, v2, e, n, h, x, y⟩ => ⟨a, v1, v2, e, fun z => n (s a z), h, Rep.sub s x, Rep.sub s y⟩
  new := fun hp ⟨a, v1, v2, e, n, h, x, y⟩ => ⟨a, v1, v2, e, fun z => (List.mem_cons.mp z).elim (ne_of_none h hp) n, h, Rep.new hp x, Rep.new hp y⟩
section
variable {α : Type} {r : R α} [Rep r] {M M' : List Addr} {H H' : Hp} {v : V} {x : α} {p : Addr} {xs : List α} {vs : List V}
theorem Rep.same (s : Same H H') (h : r M H v x) : r M H' v x := Rep.mono (Kp.of s) h
theorem F2.mono (k : Kp M H H') (h : F2 (r M H) vs xs) : F2 (r M H') vs xs := h.imp fun _ _ z => Rep.mono k z
theorem F2.same (s : Same H H') (h : F2 (r M H) vs xs) : F2 (r M H') vs xs := h.imp fun _ _ z => Rep.same s z
theorem F2.newM (hp : H p = none) (h : F2 (r M H) vs xs) : F2 (r (p :: M) H) vs xs := h.imp fun _ _ z => Rep.new hp z
/-- the list that is done -/
theorem rL.own (h : H p = some (.lst vs)) (n : p ∉ M) (f : F2 (r (p :: M) H) vs xs) : rL r M H (.ref p) xs :=
  ⟨p, vs, rfl, n, h, f.imp fun _ _ z => Rep.sub (fun a q => List.mem_cons_of_mem _ q) z⟩
theorem rL.ownM (h : H p = some (.lst vs)) (n : p ∉ M') (hs : ∀ a ∈ M', a ∈ M) (f : F2 (r M H) vs xs) : rL r M' H (.ref p) xs :=
  ⟨p, vs, rfl, n, h, f.imp fun _ _ z => Rep.sub hs z⟩
omit [Rep r] in
theorem rL.sq {K : PySem.W.Frag} (h : rL r M H v xs) : ∃ a vs, v = .ref a ∧ SqL K H a vs ∧ F2 (r M H) vs xs :=
  let ⟨a, vs, e, _, g, f⟩ := h
  ⟨a, vs, e, SqL.of g, f⟩
end
theorem rN.map {M : List Addr} {H : Hp} {vs : List V} {xs : List Nat} (h : F2 (rN M H) vs xs) : vs = xs.map fun n : Nat => V.int (n : Int) := F2.eqMap h
theorem rI.map {M : List Addr} {H : Hp} {vs : List V} {xs : List Int} (h : F2 (rI M H) vs xs) : vs = xs.map V.int := F2.eqMap h
theorem rB.map {M : List Addr} {H : Hp} {vs : List V} {xs : List Bool} (h : F2 (rB M H) vs xs) : vs = xs.map V.bl := F2.eqMap h
theorem rN.toI {xs : List Nat} : (xs.map fun n : Nat => V.int (n : Int)) = (xs.map fun n : Nat => (n : Int)).map V.int := by simp [Function.comp_def]
theorem rN.F2 {M : List Addr} {H : Hp} {xs : List Nat} : F2 (rN M H) (xs.map fun n : Nat => V.int (n : Int)) xs := F2.ofMap
theorem rI.F2 {M : List Addr} {H : Hp} {xs : List Int} : F2 (rI M H) (xs.map V.int) xs := F2.ofMap
theorem rB.F2 {M : List Addr} {H : Hp} {xs : List Bool} : F2 (rB M H) (xs.map V.bl) xs := F2.ofMap

/-! ### what an expression comes to: its value stands for P; nothing that stood is changed -/
abbrev Pr := Hp → V → Prop
def Ev (te : TE) (σ : L2.St) (H : Hp) (P : Pr) : Prop := ∀ H1, Same H H1 → ∀ Q : VK, (∀ v H2, Same H1 H2 → P H2 v → Q v H2) → te σ H1 Q
def EvA (ta : TA) (σ : L2.St) (H : Hp) (P : Hp → List V → Prop) : Prop := ∀ H1, Same H H1 → ∀ Q : List V → Hp → Prop, (∀ v H2, Same H1 H2 → P H2 v → Q v H2) → ta σ H1 Q
def EvT (tt : TT) (σ : L2.St) (H : Hp) (b : Bool) : Prop := ∀ H1, Same H H1 → ∀ Q : Bool → Hp → Prop, (∀ H2, Same H1 H2 → Q b H2) → tt σ H1 Q
/-- r M · · x -/
abbrev as {α : Type} (r : R α) (M : List Addr) (x : α) : Pr := fun H v => r M H v x
section
variable {α β : Type} {r : R α} {q : R β} {K : PySem.W.Frag} {σ : L2.St} {H H' : Hp} {M : List Addr} {ta tb te : TE} {t u : TT} {P P' : Pr} {x : α} {y : β} {v w : V} {i : Nat}
theorem Ev.mono (s : Same H H') (h : Ev te σ H P) : Ev te σ H' P := fun H1 a Q q => h H1 (s.trans a) Q q
theorem EvT.mono {b : Bool} (s : Same H H') (h : EvT t σ H b) : EvT t σ H' b := fun H1 a Q q => h H1 (s.trans a) Q q
theorem Ev.imp (h : Ev te σ H P) (f : ∀ H1 v, Same H H1 → P H1 v → P' H1 v) : Ev te σ H P' := fun H1 s Q k => h H1 s Q fun v H2 s2 p => k v H2 s2 (f H2 v (s.trans s2) p)
theorem ev_var [Rep r] (e : σ[i]? = some (some v)) (h : r M H v x) : Ev (tVar i) σ H (as r M x) := fun H1 s Q k => ⟨v, e, k v H1 (Same.refl _) (Rep.same s h)⟩
theorem ev_varP (e : σ[i]? = some (some v)) (h : ∀ H1, Same H H1 → P H1 v) : Ev (tVar i) σ H P := fun H1 s Q k => ⟨v, e, k v H1 (Same.refl _) (h H1 s)⟩
theorem ev_int {k : Int} : Ev (tC (.int k)) σ H (as rI M k) := fun H1 _ Q q => q _ H1 (Same.refl _) rfl
theorem ev_nat {k : Nat} : Ev (tC (.int (k : Int))) σ H (as rN M k) := fun H1 _ Q q => q _ H1 (Same.refl _) rfl
theorem ev_bl {k : Bool} : Ev (tC (.bl k)) σ H (as rB M k) := fun H1 _ Q q => q _ H1 (Same.refl _) rfl
theorem ev_str {k : Str} : Ev (tC (.str k)) σ H (as rS M k) := fun H1 _ Q q => q _ H1 (Same.refl _) rfl
theorem ev_c : Ev (tC v) σ H (fun _ w => w = v) := fun H1 _ Q q => q _ H1 (Same.refl _) rfl
/-- two operands, one behind the other -/
theorem ev_op {r2 : R2} {P1 P2 : Pr} (ha : Ev ta σ H P1) (hm : ∀ H1 H2 v, Same H1 H2 → P1 H1 v → P1 H2 v) (hb : Ev tb σ H P2)
    (h : ∀ H1 x y, Same H H1 → P1 H1 x → P2 H1 y → ∀ Q : VK, (∀ v H2, Same H1 H2 → P H2 v → Q v H2) → r2 x y H1 Q) : Ev (tOp r2 ta tb) σ H P := fun H1 s Q k =>
  ha H1 s _ fun x H2 s2 p1 => hb H2 (s.trans s2) _ fun y H3 s3 p2 => h H3 x y ((s.trans s2).trans s3) (hm _ _ _ s3 p1) p2 Q fun v H4 s4 p => k v H4 ((s2.trans s3).trans s4) p
theorem ev_op2 [Rep r] [Rep q] {r2 : R2} (ha : Ev ta σ H (as r M x)) (hb : Ev tb σ H (as q M y))
    (h : ∀ H1 a b, Same H H1 → r M H1 a x → q M H1 b y → ∀ Q : VK, (∀ v H2, Same H1 H2 → P H2 v → Q v H2) → r2 a b H1 Q) : Ev (tOp r2 ta tb) σ H P :=
  ev_op ha (fun _ _ _ s z => Rep.same s z) hb h
theorem ev_I0 {g : Int → Int → V} {i j : Int} (ha : Ev ta σ H (as rI M i)) (hb : Ev tb σ H (as rI M j)) : Ev (tOp (rI0 g) ta tb) σ H (fun _ v => v = g i j) :=
  ev_op2 ha hb fun H1 a b _ e1 e2 Q k => ⟨i, j, e1, e2, k _ H1 (Same.refl _) rfl⟩
theorem ev_IC {C : Int → Int → Prop} {g : Int → Int → V} {i j : Int} (ha : Ev ta σ H (as rI M i)) (hb : Ev tb σ H (as rI M j)) (hc : C i j) : Ev (tOp (L2.rI C g) ta tb) σ H (fun _ v => v = g i j) :=
  ev_op2 ha hb fun H1 a b _ e1 e2 Q k => ⟨i, j, e1, e2, hc, k _ H1 (Same.refl _) rfl⟩
/-- an int that is a number from 0 on -/
theorem Ev.toI {n : Nat} (h : Ev te σ H (as rN M n)) : Ev te σ H (as rI M (n : Int)) := h
theorem Ev.toN {k : Int} {n : Nat} (h : Ev te σ H (as rI M k)) (e : k = (n : Int)) : Ev te σ H (as rN M n) := by subst e; exact h
theorem ev_addN {m n : Nat} (ha : Ev ta σ H (as rN M m)) (hb : Ev tb σ H (as rN M n)) : Ev (tOp (rI0 fun i j => .int (i + j)) ta tb) σ H (as rN M (m + n)) :=
  (ev_I0 (g := fun i j => .int (i + j)) ha.toI hb.toI).imp fun _ v _ e => by rw [e]; show V.int _ = V.int _; congr 1
theorem ev_subN {m n : Nat} (ha : Ev ta σ H (as rN M m)) (hb : Ev tb σ H (as rN M n)) (h : n ≤ m) : Ev (tOp (rI0 fun i j => .int (i - j)) ta tb) σ H (as rN M (m - n)) :=
  (ev_I0 (g := fun i j => .int (i - j)) ha.toI hb.toI).imp fun _ v _ e => by rw [e]; show V.int _ = V.int _; congr 1; omega
/-- comparisons of numbers -/
theorem ev_ltN {m n : Nat} (ha : Ev ta σ H (as rN M m)) (hb : Ev tb σ H (as rN M n)) : Ev (tOp (rI0 fun i j => .bl (decide (i < j))) ta tb) σ H (as rB M (decide (m < n))) :=
  (ev_I0 (g := fun i j => .bl (decide (i < j))) ha.toI hb.toI).imp fun _ v _ e => by rw [e]; show V.bl _ = V.bl _; congr 1; simp
theorem ev_leN {m n : Nat} (ha : Ev ta σ H (as rN M m)) (hb : Ev tb σ H (as rN M n)) : Ev (tOp (rI0 fun i j => .bl (decide (i ≤ j))) ta tb) σ H (as rB M (decide (m ≤ n))) :=
  (ev_I0 (g := fun i j => .bl (decide (i ≤ j))) ha.toI hb.toI).imp fun _ v _ e => by rw [e]; show V.bl _ = V.bl _; congr 1; simp
theorem ev_gtN {m n : Nat} (ha : Ev ta σ H (as rN M m)) (hb : Ev tb σ H (as rN M n)) : Ev (tOp (rI0 fun i j => .bl (decide (j < i))) ta tb) σ H (as rB M (decide (n < m))) :=
  (ev_I0 (g := fun i j => .bl (decide (j < i))) ha.toI hb.toI).imp fun _ v _ e => by rw [e]; show V.bl _ = V.bl _; congr 1; simp
theorem ev_geN {m n : Nat} (ha : Ev ta σ H (as rN M m)) (hb : Ev tb σ H (as rN M n)) : Ev (tOp (rI0 fun i j => .bl (decide (j ≤ i))) ta tb) σ H (as rB M (decide (n ≤ m))) :=
  (ev_I0 (g := fun i j => .bl (decide (j ≤ i))) ha.toI hb.toI).imp fun _ v _ e => by rw [e]; show V.bl _ = V.bl _; congr 1; simp
theorem ev_eqN {m n : Nat} (ha : Ev ta σ H (as rN M m)) (hb : Ev tb σ H (as rN M n)) : Ev (tOp rEq ta tb) σ H (as rB M (decide (m = n))) :=
  ev_op2 ha hb fun H1 a b _ e1 e2 Q k => by
    obtain rfl : a = _ := e1
    obtain rfl : b = _ := e2
    exact ⟨rfl, k _ H1 (Same.refl _) (by show V.bl _ = V.bl _; congr 1; rw [decide_eq_decide, V.int.injEq]; omega)⟩
theorem ev_neN {m n : Nat} (ha : Ev ta σ H (as rN M m)) (hb : Ev tb σ H (as rN M n)) : Ev (tOp rNe ta tb) σ H (as rB M (!decide (m = n))) :=
  ev_op2 ha hb fun H1 a b _ e1 e2 Q k => by
    obtain rfl : a = _ := e1
    obtain rfl : b = _ := e2
    exact ⟨rfl, k _ H1 (Same.refl _) (by show V.bl _ = V.bl _; congr 2; rw [decide_eq_decide, V.int.injEq]; omega)⟩
theorem ev_eqB {m n : Bool} (ha : Ev ta σ H (as rB M m)) (hb : Ev tb σ H (as rB M n)) : Ev (tOp rEq ta tb) σ H (as rB M (m == n)) :=
  ev_op2 ha hb fun H1 a b _ e1 e2 Q k => by
    obtain rfl : a = _ := e1
    obtain rfl : b = _ := e2
    exact ⟨rfl, k _ H1 (Same.refl _) (by show V.bl _ = V.bl _; cases m <;> cases n <;> rfl)⟩
theorem ev_neB {m n : Bool} (ha : Ev ta σ H (as rB M m)) (hb : Ev tb σ H (as rB M n)) : Ev (tOp rNe ta tb) σ H (as rB M (m != n)) :=
  ev_op2 ha hb fun H1 a b _ e1 e2 Q k => by
    obtain rfl : a = _ := e1
    obtain rfl : b = _ := e2
    exact ⟨rfl, k _ H1 (Same.refl _) (by show V.bl _ = V.bl _; cases m <;> cases n <;> rfl)⟩
/-- xs[i] -/
theorem ev_ixL {xs : List α} {n : Nat} [Rep r] (ha : Ev ta σ H (as (rL r) M xs)) (hb : Ev tb σ H (as rN M n)) (hx : xs[n]? = some x) : Ev (tOp (rIxL K) ta tb) σ H (as r M x) :=
  ev_op2 ha hb fun H1 a b _ e1 e2 Q k => by
    obtain ⟨l, vs, rfl, _, g, f⟩ := e1
    obtain rfl : b = _ := e2
    obtain ⟨v, hv, rv⟩ := f.get' hx
    exact ⟨l, vs, n, v, rfl, rfl, SqL.of g, atI_nat hv, k v H1 (Same.refl _) rv⟩
theorem ev_ixT {xs : List α} {n : Nat} [Rep r] (ha : Ev ta σ H (as (rT r) M xs)) (hb : Ev tb σ H (as rN M n)) (hx : xs[n]? = some x) : Ev (tOp (rIxT K) ta tb) σ H (as r M x) :=
  ev_op2 ha hb fun H1 a b _ e1 e2 Q k => by
    obtain ⟨l, vs, rfl, _, g, f⟩ := e1
    obtain rfl : b = _ := e2
    obtain ⟨v, hv, rv⟩ := f.get' hx
    exact ⟨l, vs, n, v, rfl, rfl, SqT.of g, atI_nat hv, k v H1 (Same.refl _) rv⟩
/-- an item of a local list that may still change -/
theorem ev_ixO {a : Addr} {vs : List V} {n : Nat} (ha : Ev ta σ H (fun _ v => v = .ref a)) (h : H a = some (.lst vs)) (hb : Ev tb σ H (as rN M n)) (hx : vs[n]? = some v) : Ev (tOp (rIxL K) ta tb) σ H (fun _ w => w = v) :=
  ev_op ha (fun _ _ _ _ z => z) hb fun H1 y z s e1 e2 Q k => by
    obtain rfl : y = _ := e1
    obtain rfl : z = _ := e2
    exact ⟨a, vs, n, v, rfl, rfl, SqL.of (s a _ h), atI_nat hx, k v H1 (Same.refl _) rfl⟩
/-! arguments -/
theorem ea_nil : EvA tNil σ H (fun _ vs => vs = []) := fun H1 _ Q k => k [] H1 (Same.refl _) rfl
theorem ea_cons {tr : TA} {P2 : Hp → List V → Prop} (ha : Ev ta σ H P) (hm : ∀ H1 H2 v, Same H1 H2 → P H1 v → P H2 v) (hr : EvA tr σ H P2) : EvA (tCons ta tr) σ H (fun H vs => ∃ v ws, vs = v :: ws ∧ P H v ∧ P2 H ws) := fun H1 s Q k =>
  ha H1 s _ fun v H2 s2 p => hr H2 (s.trans s2) _ fun ws H3 s3 p2 => k _ H3 (s2.trans s3) ⟨v, ws, rfl, hm _ _ _ s3 p, p2⟩
theorem ea_1 (ha : Ev ta σ H P) : EvA (tCons ta tNil) σ H (fun H vs => ∃ v, vs = [v] ∧ P H v) := fun H1 s Q k => ha H1 s _ fun v H2 s2 p => k _ H2 s2 ⟨v, rfl, p⟩
theorem ea_2 {P2 : Pr} (ha : Ev ta σ H P) (hm : ∀ H1 H2 v, Same H1 H2 → P H1 v → P H2 v) (hb : Ev tb σ H P2) : EvA (tCons ta (tCons tb tNil)) σ H (fun H vs => ∃ v w, vs = [v, w] ∧ P H v ∧ P2 H w) := fun H1 s Q k =>
  ha H1 s _ fun v H2 s2 p => hb H2 (s.trans s2) _ fun w H3 s3 p2 => k _ H3 (s2.trans s3) ⟨v, w, rfl, hm _ _ _ s3 p, p2⟩
theorem ea_2r [Rep r] [Rep q] (ha : Ev ta σ H (as r M x)) (hb : Ev tb σ H (as q M y)) : EvA (tCons ta (tCons tb tNil)) σ H (fun H vs => ∃ v w, vs = [v, w] ∧ r M H v x ∧ q M H w y) :=
  ea_2 ha (fun _ _ _ s z => Rep.same s z) hb
/-- calls -/
theorem ev_call {sp : Sp} {dvs : List V} {E : XK} {t : TA} {PA : Hp → List V → Prop} (ha : EvA t σ H PA)
    (h : ∀ H1 vs, Same H H1 → PA H1 vs → ∀ Q : VK, (∀ v H2, Same H1 H2 → P H2 v → Q v H2) → sp (vs ++ dvs) H1 Q E) : Ev (tCall sp dvs E t) σ H P := fun H1 s Q k =>
  ha H1 s _ fun vs H2 s2 p => h H2 vs (s.trans s2) p Q fun v H3 s3 pv => k v H3 (s2.trans s3) pv
theorem ev_cb {rc : List V → Hp → VK → Prop} {t : TA} {PA : Hp → List V → Prop} (ha : EvA t σ H PA)
    (h : ∀ H1 vs, Same H H1 → PA H1 vs → ∀ Q : VK, (∀ v H2, Same H1 H2 → P H2 v → Q v H2) → rc vs H1 Q) : Ev (tCB rc t) σ H P := fun H1 s Q k =>
  ha H1 s _ fun vs H2 s2 p => h H2 vs (s.trans s2) p Q fun v H3 s3 pv => k v H3 (s2.trans s3) pv
theorem ev_cb1 {rc : List V → Hp → VK → Prop} {P1 : Pr} (ha : Ev ta σ H P1)
    (h : ∀ H1 v, Same H H1 → P1 H1 v → ∀ Q : VK, (∀ w H2, Same H1 H2 → P H2 w → Q w H2) → rc [v] H1 Q) : Ev (tCB rc (tCons ta tNil)) σ H P :=
  ev_cb (ea_1 ha) fun H1 vs s ⟨v, e, p⟩ Q k => by subst e; exact h H1 v s p Q k
/-- displays -/
theorem ev_tup2 [Rep r] [Rep q] (hM : ∀ a ∈ M, ∃ o, H a = some o) (ha : Ev ta σ H (as r M x)) (hb : Ev tb σ H (as q M y)) : Ev (tTup (tCons ta (tCons tb tNil))) σ H (as (rP r q) M (x, y)) := fun H1 s Q k =>
  ea_2r ha hb H1 s _ fun vs H2 s2 ⟨v, w, e, p1, p2⟩ => by
    subst e
    refine ⟨by show 2 ≤ sizeLine; decide, fun p hp => ?_⟩
    refine k _ _ (Same.new s2 hp) ⟨p, v, w, rfl, fun z => ?_, upd_same, Rep.same (Same.new (Same.refl _) hp) p1, Rep.same (Same.new (Same.refl _) hp) p2⟩
    obtain ⟨o, e⟩ := hM p z
    rw [(s.trans s2) p o e] at hp
    cases hp
/-! tests -/
theorem et_val {b : Bool} (h : Ev te σ H (as rB M b)) : EvT (tTest te) σ H b := fun H1 s Q k => h H1 s _ fun v H2 s2 p => ⟨b, p, k H2 s2⟩
theorem et_B {b : Bool} (h : Ev te σ H (as rB M b)) : EvT (tB te) σ H b := fun H1 s Q k => h H1 s _ fun v H2 s2 p => ⟨b, p, k H2 s2⟩
theorem et_not {b : Bool} (h : EvT t σ H b) : EvT (tNot t) σ H (!b) := fun H1 s Q k => h H1 s _ fun H2 s2 => k H2 s2
theorem et_and {a b : Bool} (h1 : EvT t σ H a) (h2 : a = true → EvT u σ H b) : EvT (tAnd t u) σ H (a && b) := fun H1 s Q k => h1 H1 s _ fun H2 s2 => by
  cases a with
  | true => exact h2 rfl H2 (s.trans s2) Q fun H3 s3 => k H3 (s2.trans s3)
  | false => exact k H2 s2
theorem et_or {a b : Bool} (h1 : EvT t σ H a) (h2 : a = false → EvT u σ H b) : EvT (tOr t u) σ H (a || b) := fun H1 s Q k => h1 H1 s _ fun H2 s2 => by
  cases a with
  | true => exact k H2 s2
  | false => exact h2 rfl H2 (s.trans s2) Q fun H3 s3 => k H3 (s2.trans s3)
theorem EvT.is {a b : Bool} (h : EvT t σ H a) (e : a = b) : EvT t σ H b := e ▸ h
theorem ev_andV {a b : Bool} (h1 : Ev ta σ H (as rB M a)) (h2 : a = true → Ev tb σ H (as rB M b)) : Ev (tAndV ta tb) σ H (as rB M (a && b)) := fun H1 s Q k => h1 H1 s _ fun v H2 s2 p => ⟨a, p, by
  cases a with
  | true => exact h2 rfl H2 (s.trans s2) Q fun w H3 s3 pw => k w H3 (s2.trans s3) pw
  | false => exact k _ H2 s2 rfl⟩
theorem ev_orV {a b : Bool} (h1 : Ev ta σ H (as rB M a)) (h2 : a = false → Ev tb σ H (as rB M b)) : Ev (tOrV ta tb) σ H (as rB M (a || b)) := fun H1 s Q k => h1 H1 s _ fun v H2 s2 p => ⟨a, p, by
  cases a with
  | true => exact k _ H2 s2 rfl
  | false => exact h2 rfl H2 (s.trans s2) Q fun w H3 s3 pw => k w H3 (s2.trans s3) pw⟩
theorem ev_notV {a : Bool} (h1 : Ev ta σ H (as rB M a)) : Ev (tNotV ta) σ H (as rB M (!a)) := fun H1 s Q k => h1 H1 s _ fun v H2 s2 p => ⟨a, p, k _ H2 s2 rfl⟩
/-! statements -/
variable {D : Ends} {ts tu tw : TS} {j : Nat}
theorem q_asg (h : Ev te σ H P) (k : ∀ v H1, Same H H1 → P H1 v → ts D (σ.set j (some v)) H1) : tSeq (tAsg te (gName j)) ts D σ H := h H (Same.refl _) _ fun v H1 s p => k v H1 s p
theorem s_asg (h : Ev te σ H P) (k : ∀ v H1, Same H H1 → P H1 v → D.nx (σ.set j (some v)) H1) : tAsg te (gName j) D σ H := h H (Same.refl _) _ fun v H1 s p => k v H1 s p
theorem q_drop (h : Ev te σ H P) (k : ∀ v H1, Same H H1 → P H1 v → ts D σ H1) : tSeq (tDrop te) ts D σ H := h H (Same.refl _) _ fun v H1 s p => k v H1 s p
theorem s_ret (h : Ev te σ H P) (k : ∀ v H1, Same H H1 → P H1 v → D.rt v H1) : tRet te D σ H := h H (Same.refl _) _ fun v H1 s p => k v H1 s p
theorem q_if {b : Bool} (h : EvT t σ H b) (h1 : b = true → ∀ H1, Same H H1 → tu { D with nx := ts D } σ H1) (h2 : b = false → ∀ H1, Same H H1 → tw { D with nx := ts D } σ H1) : tSeq (tIfS t tu tw) ts D σ H := h H (Same.refl _) _ fun H1 s => by
  cases b with
  | true => exact h1 rfl H1 s
  | false => exact h2 rfl H1 s
theorem q_when {b : Bool} (h : EvT t σ H b) (h1 : b = true → ∀ H1, Same H H1 → tu { D with nx := ts D } σ H1) (h2 : b = false → ∀ H1, Same H H1 → ts D σ H1) : tSeq (tIfS t tu tNext) ts D σ H := q_if h h1 h2
theorem s_if {b : Bool} (h : EvT t σ H b) (h1 : b = true → ∀ H1, Same H H1 → tu D σ H1) (h2 : b = false → ∀ H1, Same H H1 → tw D σ H1) : tIfS t tu tw D σ H := h H (Same.refl _) _ fun H1 s => by
  cases b with
  | true => exact h1 rfl H1 s
  | false => exact h2 rfl H1 s
theorem s_when {b : Bool} (h : EvT t σ H b) (h1 : b = true → ∀ H1, Same H H1 → tu D σ H1) (h2 : b = false → ∀ H1, Same H H1 → D.nx σ H1) : tIfS t tu tNext D σ H := s_if h h1 h2
/-- x = [] : a list of one's own -/
theorem q_new (k : ∀ p, H p = none → ts D (σ.set j (some (.ref p))) (upd H p (.lst []))) : tSeq (tAsg (tLst tNil) (gName j)) ts D σ H := ⟨by show 0 ≤ sizeLine; decide, fun p hp => k p hp⟩
/-- x += e for numbers -/
theorem q_augN {m n : Nat} (e : σ[j]? = some (some (.int (m : Int)))) (h : Ev te σ H (as rN M n)) (k : ∀ H1, Same H H1 → ts D (σ.set j (some (.int ((m + n : Nat) : Int)))) H1) : tSeq (tAug j te (ipI fun i j => i + j)) ts D σ H :=
  ⟨_, e, h H (Same.refl _) _ fun v H1 s p => ⟨m, n, rfl, p, by simpa using k H1 s⟩⟩
theorem s_augN {m n : Nat} (e : σ[j]? = some (some (.int (m : Int)))) (h : Ev te σ H (as rN M n)) (k : ∀ H1, Same H H1 → D.nx (σ.set j (some (.int ((m + n : Nat) : Int)))) H1) : tAug j te (ipI fun i j => i + j) D σ H :=
  ⟨_, e, h H (Same.refl _) _ fun v H1 s p => ⟨m, n, rfl, p, by simpa using k H1 s⟩⟩
/-- xs.append(e), xs of one's own -/
theorem s_app {l : Addr} {vs : List V} (ha : Ev ta σ H (fun _ v => v = .ref l)) (hl : H l = some (.lst vs)) (h : Ev te σ H P) (hz : vs.length < 1000000) (k : ∀ v H1, Same H H1 → P H1 v → D.nx σ (upd H1 l (.lst (vs ++ [v])))) :
    tDrop (tBM K "list" rAppend ta (tCons te tNil)) D σ H := ha H (Same.refl _) _ fun x H1 s1 e => by
  obtain rfl : x = _ := e
  refine ⟨Or.inl ⟨rfl, vs, SqL.of (s1 l _ hl)⟩, h H1 s1 _ fun v H2 s2 p => ?_⟩
  exact ⟨l, vs, v, rfl, rfl, s2 l _ (s1 l _ hl), Nat.lt_of_lt_of_le hz (by decide), k v H2 (s1.trans s2) p⟩
theorem q_app {l : Addr} {vs : List V} (ha : Ev ta σ H (fun _ v => v = .ref l)) (hl : H l = some (.lst vs)) (h : Ev te σ H P) (hz : vs.length < 1000000) (k : ∀ v H1, Same H H1 → P H1 v → ts D σ (upd H1 l (.lst (vs ++ [v])))) :
    tSeq (tDrop (tBM K "list" rAppend ta (tCons te tNil))) ts D σ H := s_app (D := { D with nx := ts D }) ha hl h hz k
theorem ixN_nat {n k : Nat} (h : k < n) : ixN n (k : Int) = some k := by
  unfold ixN
  rw [if_pos (by omega), if_pos (by omega)]
  simp
/-- xs[i] = e, xs of one's own -/
theorem s_setL {l : Addr} {vs : List V} {n : Nat} (h : Ev te σ H P) (ha : Ev ta σ H (fun _ v => v = .ref l)) (hl : H l = some (.lst vs)) (hb : Ev tb σ H (as rN M n)) (hn : n < vs.length) (k : ∀ v H1 H2, Same H H1 → P H1 v → Same H1 H2 → D.nx σ (upd H2 l (.lst (vs.set n v)))) :
    tAsg te (gSub ta tb rSetL) D σ H := h H (Same.refl _) _ fun v H1 s1 p => ha H1 s1 _ fun o H2 s2 e => hb H2 (s1.trans s2) _ fun i H3 s3 e3 => by
  obtain rfl : o = _ := e
  obtain rfl : i = _ := e3
  exact ⟨l, vs, n, n, rfl, rfl, ((s1.trans s2).trans s3) l _ hl, ixN_nat hn, k v H1 H3 s1 p (s2.trans s3)⟩
theorem q_setL {l : Addr} {vs : List V} {n : Nat} (h : Ev te σ H P) (ha : Ev ta σ H (fun _ v => v = .ref l)) (hl : H l = some (.lst vs)) (hb : Ev tb σ H (as rN M n)) (hn : n < vs.length) (k : ∀ v H1 H2, Same H H1 → P H1 v → Same H1 H2 → ts D σ (upd H2 l (.lst (vs.set n v)))) :
    tSeq (tAsg te (gSub ta tb rSetL)) ts D σ H := s_setL (D := { D with nx := ts D }) h ha hl hb hn k
/-- len -/
def rLenS (K : PySem.W.Frag) : List V → Hp → VK → Prop := fun xs H Q => ∃ p ys, xs = [.ref p] ∧ (SqL K H p ys ∨ SqT K H p ys) ∧ Q (.int ys.length) H
theorem ev_len {xs : List α} (ha : Ev ta σ H (as (rL r) M xs)) : Ev (tCB (rLenS K) (tCons ta tNil)) σ H (as rN M xs.length) :=
  ev_cb1 ha fun H1 v _ ⟨a, vs, e, _, g, f⟩ Q k => ⟨a, vs, by rw [e], .inl (SqL.of g), k _ H1 (Same.refl _) (by show V.int _ = V.int _; rw [f.length])⟩
theorem ev_lenT {xs : List α} (ha : Ev ta σ H (as (rT r) M xs)) : Ev (tCB (rLenS K) (tCons ta tNil)) σ H (as rN M xs.length) :=
  ev_cb1 ha fun H1 v _ ⟨a, vs, e, _, g, f⟩ Q k => ⟨a, vs, by rw [e], .inr (SqT.of g), k _ H1 (Same.refl _) (by show V.int _ = V.int _; rw [f.length])⟩
theorem ev_lenO {a : Addr} {vs : List V} (ha : Ev ta σ H (fun _ v => v = .ref a)) (h : H a = some (.lst vs)) : Ev (tCB (rLenS K) (tCons ta tNil)) σ H (as rN M vs.length) :=
  ev_cb1 ha fun H1 v s e Q k => ⟨a, vs, by rw [e], .inl (SqL.of (s a _ h)), k _ H1 (Same.refl _) rfl⟩
end
theorem call_lenS {X : Cx} : CallR X (.builtin "len") (rLenS X.K) := call_len_seq
end Rp

/-! Loops, comprehensions and calls over what stands for what. -/
namespace Rp
open PySem L2

/-- the addresses of M are taken -/
def Old (M : List Addr) (H : Hp) : Prop := ∀ a ∈ M, ∃ o, H a = some o
theorem Old.nil {H : Hp} : Old [] H := fun _ h => by cases h
theorem Old.same {M : List Addr} {H H' : Hp} (o : Old M H) (s : Same H H') : Old M H' := fun a h => let ⟨u, e⟩ := o a h; ⟨u, s a u e⟩
theorem Old.fresh {M : List Addr} {H : Hp} {p : Addr} (o : Old M H) (h : H p = none) : p ∉ M := fun z => by
  obtain ⟨u, e⟩ := o p z
  rw [h] at e
  cases e
theorem Old.cons {M : List Addr} {H : Hp} {p : Addr} {u : HO} (o : Old M H) (h : H p = some u) : Old (p :: M) H := fun a z => by
  rcases List.mem_cons.mp z with z | z
  · subst z; exact ⟨u, h⟩
  · exact o a z
theorem Old.upd {M : List Addr} {H : Hp} {p : Addr} {u : HO} (o : Old M H) : Old M (upd H p u) := fun a z => by
  by_cases h : a = p
  · subst h; exact ⟨u, upd_same⟩
  · obtain ⟨w, e⟩ := o a z
    exact ⟨w, by rw [upd_ne h]; exact e⟩
theorem Old.kp {M L : List Addr} {H H' : Hp} (o : Old M H) (k : Kp L H H') (hL : Old L H') : Old M H' := fun a z => by
  by_cases h : a ∈ L
  · exact hL a h
  · obtain ⟨w, e⟩ := o a z
    exact ⟨w, k a w h e⟩

/-! ### a def that stands, with its promise -/
structure Fn (P : Program) (w : World) (K : PySem.W.Frag) (mg : Str → Option Value) (base : Heap) (x : Str) (ps : List Str) (k : Nat) (sp : Sp) (dvs : List V) : Prop where
  ex : ∃ f fd ds, FnOk P w K mg base CX0 k f fd ps sp ∧ mg x = some (.ref f) ∧ PySem.W.keepIn K (.ref f) = true ∧ Binds K fd ps ds ∧ Vals dvs ds
theorem pe_fn {X : Cx} {x : Str} {ps : List Str} {k j : Nat} {sp : Sp} {dvs : List V} {e : Expr} {es : List Expr} {t : TA} {p pos : Pos} (F : Fn X.prog X.w X.K X.mg X.base x ps k sp dvs) (hr : Room j X.A) (hg : Gl X x) (ha : PA X (e :: es) t)
    (hj : k ≤ j := by decide) (hdb : (x == ("__debug__" : Str)) = false := by decide) (he : starEach (e :: es) X.env = (false, eval e X.env) :: starEach es X.env := by rfl) (hpl : (backTo pos (starEach es X.env)).any (·.1) = false := by rfl) :
    PE X (.Call (.Name x p) (e :: es) [] pos) (tCall sp dvs E0 t) := by
  obtain ⟨f, fd, ds, h1, h2, h3, h4, h5⟩ := F.ex
  exact pe_call h1 (hr.mono hj) hg h2 h3 h4 h5 pass0 ha hdb he hpl
structure FnK (P : Program) (w : World) (K : PySem.W.Frag) (mg : Str → Option Value) (base : Heap) (x : Str) (ps ks : List Str) (n k : Nat) (sp : Sp) (gV : List V → List V → List V) : Prop where
  ex : ∃ f fd g, FnOk P w K mg base CX0 k f fd ps sp ∧ mg x = some (.ref f) ∧ PySem.W.keepIn K (.ref f) = true ∧ KBn K fd ps n ks g gV
theorem pe_fnK {X : Cx} {x : Str} {ps ks : List Str} {n k j : Nat} {sp : Sp} {gV : List V → List V → List V} {e : Expr} {es : List Expr} {kws : List Keyword} {t tk : TA} {p pos : Pos} (F : FnK X.prog X.w X.K X.mg X.base x ps ks n k sp gV) (hr : Room j X.A) (hg : Gl X x)
    (ha : PA X (e :: es) t) (hkw : PK X kws tk) (hj : k ≤ j := by decide) (hall : (backToKw pos (keywordEach kws X.env)).all (·.1.isSome) = true := by rfl) (hks : (backToKw pos (keywordEach kws X.env)).filterMap (·.1) = ks := by rfl)
    (hdb : (x == ("__debug__" : Str)) = false := by decide) (he : starEach (e :: es) X.env = (false, eval e X.env) :: starEach es X.env := by rfl)
    (hpl : ((backTo pos (starEach (e :: es) X.env)).any (·.1) || (backToKw pos (keywordEach kws X.env)).any (·.1.isNone)) = false := by rfl) :
    PE X (.Call (.Name x p) (e :: es) kws pos) (tCallN n ks.length sp gV E0 t tk) := by
  obtain ⟨f, fd, g, h1, h2, h3, h4⟩ := F.ex
  exact pe_callN h1 (hr.mono hj) hg h2 h3 h4 pass0 ha hkw hall hks hdb he hpl

section
variable {α β : Type} {r : R α} {q : R β} {K : PySem.W.Frag} {σ : L2.St} {H H' : Hp} {M : List Addr} {ta tb te tl : TE} {t u tt : TT} {P P' : Pr} {x : α} {y : β} {v w : V} {i j : Nat} {g : TG}

/-! ### comprehensions that change nothing -/
/-- what is known at (M, H) is known at (M', H') -/
structure Up (M : List Addr) (H : Hp) (M' : List Addr) (H' : Hp) : Prop where
  same : Same H H'
  sub : ∀ a ∈ M, a ∈ M'
  lift : ∀ {α : Type} {r : R α} [Rep r] {v : V} {x : α}, r M H v x → r M' H' v x
  old : Old M' H'
theorem Up.same' (o : Old M H) (s : Same H H') : Up M H M H' := ⟨s, fun _ h => h, fun h => Rep.same s h, o.same s⟩
theorem Up.add {p : Addr} {o : HO} (d : Old M H) (n : H p = none) (s : Same H H') (h : H' p = some o) : Up M H (p :: M) H' :=
  ⟨s, fun _ h => List.mem_cons_of_mem _ h, fun h => Rep.same s (Rep.new n h), (d.same s).cons h⟩
/-- what a comprehension's list holds after i turns: L -/
def CwR (q : R β) (M : List Addr) (H : Hp) (Dl : Addr) (i : Nat) (L : List β) (H' : Hp) : Prop :=
  H Dl = none ∧ Same H H' ∧ ∃ acc, H' Dl = some (.lst acc) ∧ acc.length ≤ i ∧ F2 (q (Dl :: M) H') acc L
theorem CwR.start {Dl : Addr} (h : H Dl = none) : CwR q M H Dl 0 [] (upd H Dl (.lst [])) :=
  ⟨h, Same.new (Same.refl _) h, [], upd_same, Nat.le_refl _, .nil⟩
theorem CwR.up {Dl : Addr} {L : List β} (d : Old M H) (c : CwR q M H Dl i L H') : Up M H (Dl :: M) H' := by
  obtain ⟨c1, c2, acc, c3, _⟩ := c
  exact Up.add d c1 c2 c3
theorem CwR.turn [Rep q] {Dl : Addr} {L L' : List β} {b : Bool} {y : β} {σ2 : L2.St} (c : CwR q M H Dl i L H') (hi : i < 1000000) (ht : EvT tt σ2 H' b) (he : b = true → Ev te σ2 H' (as q (Dl :: M) y)) (hL : L' = L ++ if b = true then [y] else []) :
    tt σ2 H' fun b H3 => if b = true then te σ2 H3 fun y H4 => ∃ acc, H4 Dl = some (.lst acc) ∧ acc.length < sizeLine ∧ CwR q M H Dl (i + 1) L' (upd H4 Dl (.lst (acc ++ [y]))) else CwR q M H Dl (i + 1) L' H3 := by
  obtain ⟨c1, c2, acc, c3, c4, c5⟩ := c
  refine ht H' (Same.refl _) _ fun H3 s3 => ?_
  cases b with
  | false =>
    rw [if_neg (by decide)]
    refine ⟨c1, c2.trans s3, acc, s3 _ _ c3, by omega, ?_⟩
    rw [hL]
    simpa using F2.same s3 c5
  | true =>
    rw [if_pos rfl]
    refine he rfl H3 s3 _ fun y H4 s4 py => ⟨acc, (s3.trans s4) _ _ c3, Nat.lt_of_le_of_lt (Nat.le_trans c4 (Nat.le_of_lt hi)) (by decide), c1, Same.mut ((c2.trans s3).trans s4) c1, acc ++ [y], upd_same, by simp; omega, ?_⟩
    rw [hL, if_pos rfl]
    have k : Kp (Dl :: M) H' (upd H4 Dl (.lst (acc ++ [y]))) := (Kp.of (s3.trans s4)).mut (by simp)
    have k2 : Kp (Dl :: M) H4 (upd H4 Dl (.lst (acc ++ [y]))) := (Kp.refl _ _).mut (by simp)
    exact (F2.mono k c5).snoc (Rep.mono k2 py)
/-- a list just made, nobody else's -/
abbrev asNew {β : Type} (q : R β) (M : List Addr) (H : Hp) (ys : List β) : Pr := fun H1 v => ∃ a vs, v = .ref a ∧ H a = none ∧ H1 a = some (.lst vs) ∧ F2 (q (a :: M) H1) vs ys
theorem Ev.own [Rep q] {ys : List β} (d : Old M H) (h : Ev te σ H (asNew q M H ys)) : Ev te σ H (as (rL q) M ys) := h.imp fun H1 v _ ⟨a, vs, e, n, g, f⟩ => by subst e; exact rL.own g (d.fresh n) f
theorem CwR.done {Dl : Addr} {L : List β} {H0 : Hp} (s : Same H0 H) (c : CwR q M H Dl i L H') : asNew q M H0 L H' (.ref Dl) := by
  obtain ⟨c1, c2, acc, c3, c4, c5⟩ := c
  exact ⟨Dl, acc, rfl, s.free c1, c3, c5⟩
theorem take_fm (xs : List α) (f : α → Bool) (gg : α → β) {i : Nat} {x : α} (h : xs[i]? = some x) : ((xs.take (i + 1)).filter f).map gg = ((xs.take i).filter f).map gg ++ if f x = true then [gg x] else [] := by
  rw [List.take_add_one, h, List.filter_append, List.map_append]
  cases hf : f x <;> simp [hf]
/-- [e for x in xs if t] -/
theorem ev_lcLn [Rep r] [Rep q] {vs : List Nat} {xs : List α} (d : Old M H) (f : α → Bool) (gg : α → β) (hl : Ev tl σ H (as (rL r) M xs)) (hz : xs.length ≤ 1000000) (hw : ∀ x, wipe ((wipe σ vs).set j (some x)) vs = wipe σ vs)
    (ht : ∀ M' H1 v x, Up M H M' H1 → x ∈ xs → r M' H1 v x → EvT tt ((wipe σ vs).set j (some v)) H1 (f x))
    (he : ∀ M' H1 v x, Up M H M' H1 → x ∈ xs → r M' H1 v x → f x = true → Ev te ((wipe σ vs).set j (some v)) H1 (as q M' (gg x))) :
    Ev (tLc (iList K tl) (gName j) tt te vs) σ H (asNew q M H ((xs.filter f).map gg)) := fun H0 s0 Q k =>
  hl H0 s0 _ fun l H1 s1 ⟨a, ws, e, n, g, z⟩ => ⟨a, e, ⟨ws, SqL.of g⟩, fun Dl hD => by
    have d1 : Old M H1 := d.same (s0.trans s1)
    refine lc_list (xs := ws) (fun i H' => CwR q M H1 Dl i (((xs.take i).filter f).map gg) H') (by simpa using CwR.start hD) (fun i H' _ c => SqL.of (c.2.1 a _ g)) (fun i v H' hi c => ?_) (fun H' c => ?_)
    · obtain ⟨x, hx, rx⟩ := z.get hi
      have up := c.up d1
      have up0 : Up M H (Dl :: M) H' := ⟨(s0.trans s1).trans up.same, up.sub, fun h => up.lift (Rep.same (s0.trans s1) h), up.old⟩
      have hil : i < xs.length := (List.getElem?_eq_some_iff.mp hx).1
      exact ⟨hw v, c.turn (by omega) (ht _ _ _ x up0 (List.mem_of_getElem? hx) (up.lift rx)) (he _ _ _ x up0 (List.mem_of_getElem? hx) (up.lift rx)) (take_fm xs f gg hx)⟩
    · rw [z.length, List.take_length] at c
      exact k _ H' (s1.trans c.2.1) (c.done (s0.trans s1))⟩
theorem ev_lcMn [Rep r] [Rep q] {vs : List Nat} {xs : List α} (d : Old M H) (gg : α → β) (hl : Ev tl σ H (as (rL r) M xs)) (hz : xs.length ≤ 1000000) (hw : ∀ x, wipe ((wipe σ vs).set j (some x)) vs = wipe σ vs)
    (he : ∀ M' H1 v x, Up M H M' H1 → x ∈ xs → r M' H1 v x → Ev te ((wipe σ vs).set j (some v)) H1 (as q M' (gg x))) :
    Ev (tLc (iList K tl) (gName j) tYes te vs) σ H (asNew q M H (xs.map gg)) := by
  have h := ev_lcLn (K := K) (q := q) (te := te) (tt := tYes) d (fun _ => true) gg hl hz hw (fun _ H1 _ _ _ _ _ H2 s Q k => k H2 (Same.refl _)) (fun M' H1 v x up hx rv _ => he M' H1 v x up hx rv)
  rwa [List.filter_eq_self.mpr (fun _ _ => rfl)] at h
/-- .. over range(n) -/
theorem ev_lcRn [Rep q] {vs : List Nat} {n : Nat} {tn : TE} (d : Old M H) (f : Nat → Bool) (gg : Nat → β) (hn : Ev tn σ H (as rN M n)) (hz : n ≤ 1000000) (hw : ∀ x, wipe ((wipe σ vs).set j (some x)) vs = wipe σ vs)
    (ht : ∀ M' H1 i, Up M H M' H1 → i < n → EvT tt ((wipe σ vs).set j (some (.int (i : Int)))) H1 (f i))
    (he : ∀ M' H1 i, Up M H M' H1 → i < n → f i = true → Ev te ((wipe σ vs).set j (some (.int (i : Int)))) H1 (as q M' (gg i))) :
    Ev (tLc (iRng1 (tCons tn tNil)) (gName j) tt te vs) σ H (asNew q M H (((List.range n).filter f).map gg)) := fun H0 s0 Q k =>
  hn H0 s0 _ fun l H1 s1 e => by
    obtain rfl : l = _ := e
    refine ⟨(n : Int), rfl, by omega, by omega, ?_⟩
    intro Dl hD
    have d1 : Old M H1 := d.same (s0.trans s1)
    refine lc_range (lo := 0) (n := ((n : Nat) : Int).toNat) (fun i H' => CwR q M H1 Dl i (((List.range i).filter f).map gg) H') (by simpa using CwR.start hD) (fun i H' hi c => ?_) (fun H' c => ?_)
    · have hi' : i < n := by simpa using hi
      have up := c.up d1
      have up0 : Up M H (Dl :: M) H' := ⟨(s0.trans s1).trans up.same, up.sub, fun h => up.lift (Rep.same (s0.trans s1) h), up.old⟩
      have e0 : (0 : Int) + (i : Int) = (i : Int) := Int.zero_add _
      rw [e0]
      refine ⟨hw _, c.turn (by omega) (ht _ _ i up0 hi') (he _ _ i up0 hi') ?_⟩
      rw [List.range_succ, List.filter_append, List.map_append]
      cases hf : f i <;> simp [hf]
    · rw [Int.toNat_natCast] at c
      exact k _ H' (s1.trans c.2.1) (c.done (s0.trans s1))
theorem ev_lcRMn [Rep q] {vs : List Nat} {n : Nat} {tn : TE} (d : Old M H) (gg : Nat → β) (hn : Ev tn σ H (as rN M n)) (hz : n ≤ 1000000) (hw : ∀ x, wipe ((wipe σ vs).set j (some x)) vs = wipe σ vs)
    (he : ∀ M' H1 i, Up M H M' H1 → i < n → Ev te ((wipe σ vs).set j (some (.int (i : Int)))) H1 (as q M' (gg i))) :
    Ev (tLc (iRng1 (tCons tn tNil)) (gName j) tYes te vs) σ H (asNew q M H ((List.range n).map gg)) := by
  have h := ev_lcRn (q := q) (te := te) (tt := tYes) d (fun _ => true) gg hn hz hw (fun _ H1 _ _ _ H2 s Q k => k H2 (Same.refl _)) (fun M' H1 x up hx _ => he M' H1 x up hx)
  rwa [List.filter_eq_self.mpr (fun _ _ => rfl)] at h

theorem ev_lcL [Rep r] [Rep q] {vs : List Nat} {xs : List α} (d : Old M H) (f : α → Bool) (gg : α → β) (hl : Ev tl σ H (as (rL r) M xs)) (hz : xs.length ≤ 1000000) (hw : ∀ x, wipe ((wipe σ vs).set j (some x)) vs = wipe σ vs)
    (ht : ∀ M' H1 v x, Up M H M' H1 → x ∈ xs → r M' H1 v x → EvT tt ((wipe σ vs).set j (some v)) H1 (f x))
    (he : ∀ M' H1 v x, Up M H M' H1 → x ∈ xs → r M' H1 v x → f x = true → Ev te ((wipe σ vs).set j (some v)) H1 (as q M' (gg x))) :
    Ev (tLc (iList K tl) (gName j) tt te vs) σ H (as (rL q) M ((xs.filter f).map gg)) := (ev_lcLn d f gg hl hz hw ht he).own d
theorem ev_lcM [Rep r] [Rep q] {vs : List Nat} {xs : List α} (d : Old M H) (gg : α → β) (hl : Ev tl σ H (as (rL r) M xs)) (hz : xs.length ≤ 1000000) (hw : ∀ x, wipe ((wipe σ vs).set j (some x)) vs = wipe σ vs)
    (he : ∀ M' H1 v x, Up M H M' H1 → x ∈ xs → r M' H1 v x → Ev te ((wipe σ vs).set j (some v)) H1 (as q M' (gg x))) :
    Ev (tLc (iList K tl) (gName j) tYes te vs) σ H (as (rL q) M (xs.map gg)) := (ev_lcMn d gg hl hz hw he).own d
theorem ev_lcR [Rep q] {vs : List Nat} {n : Nat} {tn : TE} (d : Old M H) (f : Nat → Bool) (gg : Nat → β) (hn : Ev tn σ H (as rN M n)) (hz : n ≤ 1000000) (hw : ∀ x, wipe ((wipe σ vs).set j (some x)) vs = wipe σ vs)
    (ht : ∀ M' H1 i, Up M H M' H1 → i < n → EvT tt ((wipe σ vs).set j (some (.int (i : Int)))) H1 (f i))
    (he : ∀ M' H1 i, Up M H M' H1 → i < n → f i = true → Ev te ((wipe σ vs).set j (some (.int (i : Int)))) H1 (as q M' (gg i))) :
    Ev (tLc (iRng1 (tCons tn tNil)) (gName j) tt te vs) σ H (as (rL q) M (((List.range n).filter f).map gg)) := (ev_lcRn d f gg hn hz hw ht he).own d
theorem ev_lcRM [Rep q] {vs : List Nat} {n : Nat} {tn : TE} (d : Old M H) (gg : Nat → β) (hn : Ev tn σ H (as rN M n)) (hz : n ≤ 1000000) (hw : ∀ x, wipe ((wipe σ vs).set j (some x)) vs = wipe σ vs)
    (he : ∀ M' H1 i, Up M H M' H1 → i < n → Ev te ((wipe σ vs).set j (some (.int (i : Int)))) H1 (as q M' (gg i))) :
    Ev (tLc (iRng1 (tCons tn tNil)) (gName j) tYes te vs) σ H (as (rL q) M ((List.range n).map gg)) := (ev_lcRMn d gg hn hz hw he).own d

/-! ### loops -/
variable {D : Ends} {ts tb' : TS}
/-- what a loop over a list is to show: L what the body may change -/
def LoopL (r : R α) (M L : List Addr) (xs : List α) (g : TG) (tb : TS) (D : Ends) (σ : L2.St) (H1 : Hp) : Prop :=
  ∃ Pv : Nat → L2.St → Hp → Prop, Pv 0 σ H1 ∧ (∀ i σ' H', Pv i σ' H' → Kp L H1 H') ∧
    (∀ i v x σ' H', xs[i]? = some x → r M H' v x → Pv i σ' H' → g v σ' H' fun σ2 H2 => tb { D with nx := Pv (i + 1), ct := Pv (i + 1), bk := D.nx } σ2 H2) ∧ ∀ σ' H', Pv xs.length σ' H' → D.nx σ' H'
theorem LoopL.go [Rep r] {xs : List α} {L : List Addr} {ws : List V} {a : Addr} (h : LoopL r M L xs g tb' D σ H) (hL : ∀ a ∈ L, a ∈ M) (n : a ∉ M) (gg : H a = some (.lst ws)) (z : F2 (r M H) ws xs) :
    ∃ W : Nat → Nat → L2.St → Hp → Prop, (∃ m, W 0 m σ H) ∧ ∀ i m σ H, W i m σ H →
      ((Itl K a).stop i H ∧ D.nx σ H) ∨ ((Itl K a).go i H ∧ ∃ N : L2.St → Hp → Prop, (∀ σ' H', N σ' H' → ∃ m', m' < m ∧ W (i + 1) m' σ' H') ∧ ∀ x H', (Itl K a).yld i H x H' → g x σ H' fun σ2 H2 => tb' { D with nx := N, ct := N, bk := D.nx } σ2 H2) := by
  obtain ⟨Pv, h0, hk, hs, hd⟩ := h
  refine for_list (xs := ws) Pv h0 (fun i σ' H' _ p => SqL.of (hk i σ' H' p a _ (fun q => n (hL a q)) gg)) (fun i v σ' H' hi p => ?_) (fun σ' H' p => ?_)
  · obtain ⟨x, hx, rx⟩ := z.get hi
    exact hs i v x σ' H' hx (Rep.mono ((hk i σ' H' p).sub hL) rx) p
  · rw [z.length] at p
    exact hd σ' H' p
theorem s_forL [Rep r] {xs : List α} {L : List Addr} (hl : Ev tl σ H (as (rL r) M xs)) (hL : ∀ a ∈ L, a ∈ M) (k : ∀ H1, Same H H1 → LoopL r M L xs g tb' D σ H1) : tFor (iList K tl) g tb' D σ H :=
  hl H (Same.refl _) _ fun l H1 s1 ⟨a, ws, e, n, gg, z⟩ => ⟨a, e, ⟨ws, SqL.of gg⟩, (k H1 s1).go hL n gg z⟩
theorem q_forL [Rep r] {xs : List α} {L : List Addr} (hl : Ev tl σ H (as (rL r) M xs)) (hL : ∀ a ∈ L, a ∈ M) (k : ∀ H1, Same H H1 → LoopL r M L xs g tb' { D with nx := ts D } σ H1) : tSeq (tFor (iList K tl) g tb') ts D σ H :=
  s_forL (D := { D with nx := ts D }) hl hL k
/-- over range(n), range(m, n) -/
def LoopR (m n : Nat) (g : TG) (tb : TS) (D : Ends) (σ : L2.St) (H1 : Hp) : Prop :=
  ∃ Pv : Nat → L2.St → Hp → Prop, Pv 0 σ H1 ∧
    (∀ i σ' H', m + i < n → Pv i σ' H' → g (.int ((m + i : Nat) : Int)) σ' H' fun σ2 H2 => tb { D with nx := Pv (i + 1), ct := Pv (i + 1), bk := D.nx } σ2 H2) ∧ ∀ σ' H', Pv (n - m) σ' H' → D.nx σ' H'
theorem s_forR1 {n : Nat} {tn : TE} (hn : Ev tn σ H (as rN M n)) (hz : n ≤ 1000000) (k : ∀ H1, Same H H1 → LoopR 0 n g tb' D σ H1) : tFor (iRng1 (tCons tn tNil)) g tb' D σ H :=
  hn H (Same.refl _) _ fun l H1 s1 e => by
    obtain rfl : l = _ := e
    obtain ⟨Pv, h0, hs, hd⟩ := k H1 s1
    refine ⟨(n : Int), rfl, by omega, by omega, for_range (lo := 0) (n := ((n : Nat) : Int).toNat) Pv h0 (fun i σ' H' hi p => ?_) (fun σ' H' p => ?_)⟩
    · have := hs i σ' H' (by simpa using hi) p
      rw [Nat.zero_add] at this
      rw [Int.zero_add]
      exact this
    · exact hd σ' H' (by simpa using p)
theorem q_forR1 {n : Nat} {tn : TE} (hn : Ev tn σ H (as rN M n)) (hz : n ≤ 1000000) (k : ∀ H1, Same H H1 → LoopR 0 n g tb' { D with nx := ts D } σ H1) : tSeq (tFor (iRng1 (tCons tn tNil)) g tb') ts D σ H :=
  s_forR1 (D := { D with nx := ts D }) hn hz k
theorem s_forR2 {m n : Nat} {tm tn : TE} (hm : Ev tm σ H (as rN M m)) (hn : Ev tn σ H (as rN M n)) (hy : m ≤ 1000000) (hz : n ≤ 1000000) (k : ∀ H1, Same H H1 → LoopR m n g tb' D σ H1) : tFor (iRng2 (tCons tm (tCons tn tNil))) g tb' D σ H :=
  hm H (Same.refl _) _ fun l1 H1 s1 e1 => hn H1 s1 _ fun l2 H2 s2 e2 => by
    obtain rfl : l1 = _ := e1
    obtain rfl : l2 = _ := e2
    obtain ⟨Pv, h0, hs, hd⟩ := k H2 (s1.trans s2)
    refine ⟨(m : Int), (n : Int), rfl, ⟨by omega, by omega, by omega, by omega⟩, for_range (lo := (m : Int)) (n := ((n : Int) - (m : Int)).toNat) Pv h0 (fun i σ' H' hi p => ?_) (fun σ' H' p => ?_)⟩
    · have e : ((m : Int) + (i : Int)) = ((m + i : Nat) : Int) := by omega
      rw [e]
      exact hs i σ' H' (by omega) p
    · exact hd σ' H' (by rw [show n - m = ((n : Int) - (m : Int)).toNat by omega]; exact p)
theorem q_forR2 {m n : Nat} {tm tn : TE} (hm : Ev tm σ H (as rN M m)) (hn : Ev tn σ H (as rN M n)) (hy : m ≤ 1000000) (hz : n ≤ 1000000) (k : ∀ H1, Same H H1 → LoopR m n g tb' { D with nx := ts D } σ H1) : tSeq (tFor (iRng2 (tCons tm (tCons tn tNil))) g tb') ts D σ H :=
  s_forR2 (D := { D with nx := ts D }) hm hn hy hz k
/-- while: W the word with its measure -/
def LoopW (t : TT) (tb : TS) (D : Ends) (σ : L2.St) (H : Hp) : Prop :=
  ∃ W : Nat → L2.St → Hp → Prop, (∃ m, W m σ H) ∧ ∀ m σ' H', W m σ' H' → ∃ b, EvT t σ' H' b ∧
    (b = true → ∀ H1, Same H' H1 → tb { D with nx := fun σ2 H2 => ∃ m', m' < m ∧ W m' σ2 H2, ct := fun σ2 H2 => ∃ m', m' < m ∧ W m' σ2 H2, bk := D.nx } σ' H1) ∧ (b = false → ∀ H1, Same H' H1 → D.nx σ' H1)
theorem s_while (h : LoopW t tb' D σ H) : tWhile t tb' D σ H := by
  obtain ⟨W, h0, h⟩ := h
  refine ⟨W, h0, fun m σ' H' w => ?_⟩
  obtain ⟨b, hb, h1, h2⟩ := h m σ' H' w
  refine hb H' (Same.refl _) _ fun H1 s => ?_
  cases b with
  | true => exact ⟨_, fun _ _ z => z, h1 rfl H1 s⟩
  | false => exact h2 rfl H1 s
theorem q_while (h : LoopW t tb' { D with nx := ts D } σ H) : tSeq (tWhile t tb') ts D σ H := s_while (D := { D with nx := ts D }) h

/-! ### more of lists -/
/-- xs[:n], xs[m:] .. of a list that stays -/
theorem ev_slice [Rep r] {xs : List α} {m n : Nat} {to tp : TO} {lo hi : Option Int} (d : Old M H) (hl : Ev tl σ H (as (rL r) M xs)) (h1 : ∀ H1, Same H H1 → ∀ Q : Option Int → Hp → Prop, (∀ H2, Same H1 H2 → Q lo H2) → to σ H1 Q)
    (h2 : ∀ H1, Same H H1 → ∀ Q : Option Int → Hp → Prop, (∀ H2, Same H1 H2 → Q hi H2) → tp σ H1 Q)
    (em : HT.sIx xs.length 0 lo = m) (en : HT.sIx xs.length xs.length hi = n) : Ev (tSl (rSlL K) tl to tp) σ H (as (rL r) M ((xs.drop m).take (n - m))) := fun H0 s0 Q k =>
  hl H0 s0 _ fun l H1 s1 ⟨a, ws, e, nn, gg, z⟩ => h1 H1 (s0.trans s1) _ fun H2 s2 => h2 H2 ((s0.trans s1).trans s2) _ fun H3 s3 => ⟨a, ws, e, SqL.of ((s2.trans s3) a _ gg), fun p hp => by
    have s : Same H1 (upd H3 p (.lst (cutV ws lo hi))) := Same.new (s2.trans s3) hp
    refine k _ _ (s1.trans s) ⟨p, _, rfl, (d.same ((s0.trans s1).trans (s2.trans s3))).fresh hp, upd_same, ?_⟩
    have ec : cutV ws lo hi = (ws.drop m).take (n - m) := by unfold cutV; rw [z.length, em, en]
    rw [ec] at s ⊢
    exact F2.same s ((z.drop m).take (n - m))⟩
theorem to_none : ∀ H1, Same H H1 → ∀ Q : Option Int → Hp → Prop, (∀ H2, Same H1 H2 → Q none H2) → tNoPart σ H1 Q := fun H1 _ Q k => k H1 (Same.refl _)
theorem to_some {n : Nat} {tn : TE} (hn : Ev tn σ H (as rN M n)) : ∀ H1, Same H H1 → ∀ Q : Option Int → Hp → Prop, (∀ H2, Same H1 H2 → Q (some (n : Int)) H2) → tPart tn σ H1 Q := fun H1 s Q k =>
  hn H1 s _ fun v H2 s2 e => ⟨(n : Int), e, k H2 s2⟩
/-- xs[:n] -/
theorem ev_upto [Rep r] {xs : List α} {n : Nat} {tn : TE} (d : Old M H) (hl : Ev tl σ H (as (rL r) M xs)) (hn : Ev tn σ H (as rN M n)) : Ev (tSl (rSlL K) tl tNoPart (tPart tn)) σ H (as (rL r) M (xs.take n)) := by
  have h := ev_slice (K := K) (m := 0) (n := min n xs.length) d hl to_none (to_some hn) rfl (HT.sIx_nat _ _ _)
  rw [Nat.sub_zero, List.drop_zero, ← List.take_eq_take_min] at h
  exact h
/-- any, all of a list of truths -/
theorem ev_any {bs : List Bool} (hl : Ev tl σ H (as (rL rB) M bs)) : Ev (tCB (rAny K) (tCons tl tNil)) σ H (as rB M (bs.any id)) :=
  ev_cb1 hl fun H1 v _ ⟨a, ws, e, _, g, z⟩ Q k => ⟨a, bs, by rw [e], by rw [← rB.map z]; exact SqL.of g, k _ H1 (Same.refl _) rfl⟩
theorem ev_all {bs : List Bool} (hl : Ev tl σ H (as (rL rB) M bs)) : Ev (tCB (rAll K) (tCons tl tNil)) σ H (as rB M (bs.all id)) :=
  ev_cb1 hl fun H1 v _ ⟨a, ws, e, _, g, z⟩ Q k => ⟨a, bs, by rw [e], by rw [← rB.map z]; exact SqL.of g, k _ H1 (Same.refl _) rfl⟩
end

/-! ### == of data -/
/-- data that stands for x, at most n deep -/
class Data {α : Type} (r : R α) (dt : outParam (α → PyData)) (n : outParam Nat) : Prop where
  dp : ∀ {K : PySem.W.Frag} {M : List Addr} {H : Hp} {v : V} {x : α}, r M H v x → Dp K H v (dt x)
  can : ∀ x, (dt x).canLay0 = true
  dep : ∀ x, (dt x).depth ≤ n
/-- .. whose == is the equality -/
class DataEq {α : Type} (r : R α) (dt : outParam (α → PyData)) : Prop where
  eqv : ∀ x y : α, PyData.eqv (dt x) (dt y) = true ↔ x = y
instance : Data rI PyData.int 0 := ⟨fun h => by cases h; exact .int _, fun _ => by simp [PyData.canLay0], fun _ => by simp [PyData.depth]⟩
instance : Data rN (fun n : Nat => PyData.int (n : Int)) 0 := ⟨fun h => by cases h; exact .int _, fun _ => by simp [PyData.canLay0], fun _ => by simp [PyData.depth]⟩
instance : Data rB PyData.bool 0 := ⟨fun h => by cases h; exact .bl _, fun _ => by simp [PyData.canLay0], fun _ => by simp [PyData.depth]⟩
instance : DataEq rI PyData.int := ⟨fun x y => by simp [PyData.eqv]⟩
instance : DataEq rN (fun n : Nat => PyData.int (n : Int)) := ⟨fun x y => by simp [PyData.eqv]; omega⟩
instance : DataEq rB PyData.bool := ⟨fun x y => by simp [PyData.eqv]⟩
section
variable {α β : Type} {r : R α} {q : R β} {dt : α → PyData} {du : β → PyData} {m n : Nat}
theorem dpAll [Data r dt n] {K : PySem.W.Frag} {M : List Addr} {H : Hp} {vs : List V} {xs : List α} (h : F2 (r M H) vs xs) : DpAll K H vs (xs.map dt) := by
  induction h with
  | nil => exact .nil
  | cons x _ ih => exact .cons (Data.dp x) ih
theorem canAll [Data r dt n] (xs : List α) : PyData.canLayAll0 (xs.map dt) = true := by
  induction xs with
  | nil => rfl
  | cons x xs ih =>
    rw [List.map_cons]
    unfold PyData.canLayAll0
    rw [Data.can (r := r) x, ih]
    rfl
theorem depAll [Data r dt n] (xs : List α) : PyData.depthAll (xs.map dt) ≤ n := by
  induction xs with
  | nil => exact Nat.zero_le _
  | cons x xs ih =>
    rw [List.map_cons]
    unfold PyData.depthAll
    exact Nat.max_le.mpr ⟨Data.dep (r := r) x, ih⟩
theorem eqvAll [DataEq r dt] : ∀ xs ys : List α, PyData.eqvAll (xs.map dt) (ys.map dt) = true ↔ xs = ys
  | [], [] => by simp [PyData.eqvAll]
  | [], _ :: _ => by simp [PyData.eqvAll]
  | _ :: _, [] => by simp [PyData.eqvAll]
  | x :: xs, y :: ys => by
    have ih := eqvAll xs ys
    have h := DataEq.eqv (r := r) x y
    simp only [List.map_cons, PyData.eqvAll, Bool.and_eq_true, h, ih, List.cons.injEq]
instance [Data r dt n] : Data (rL r) (fun xs => PyData.list (xs.map dt)) (n + 1) where
  dp := fun ⟨a, vs, e, _, g, f⟩ => by subst e; exact .lst (SqL.of g) (dpAll f)
  can := fun xs => by unfold PyData.canLay0; exact canAll (r := r) xs
  dep := fun xs => by unfold PyData.depth; exact Nat.succ_le_succ (depAll (r := r) xs)
instance [Data r dt n] : Data (rT r) (fun xs => PyData.tuple (xs.map dt)) (n + 1) where
  dp := fun ⟨a, vs, e, _, g, f⟩ => by subst e; exact .tup (SqT.of g) (dpAll f)
  can := fun xs => by unfold PyData.canLay0; exact canAll (r := r) xs
  dep := fun xs => by unfold PyData.depth; exact Nat.succ_le_succ (depAll (r := r) xs)
instance [DataEq r dt] : DataEq (rL r) (fun xs => PyData.list (xs.map dt)) := ⟨fun x y => by rw [show PyData.eqv (.list (x.map dt)) (.list (y.map dt)) = PyData.eqvAll (x.map dt) (y.map dt) by simp [PyData.eqv]]; exact eqvAll (r := r) x y⟩
instance [DataEq r dt] : DataEq (rT r) (fun xs => PyData.tuple (xs.map dt)) := ⟨fun x y => by rw [show PyData.eqv (.tuple (x.map dt)) (.tuple (y.map dt)) = PyData.eqvAll (x.map dt) (y.map dt) by simp [PyData.eqv]]; exact eqvAll (r := r) x y⟩
instance [Data r dt m] [Data q du n] : Data (rP r q) (fun x => PyData.tuple [dt x.1, du x.2]) (max m n + 1) where
  dp := fun ⟨a, v1, v2, e, _, g, f1, f2⟩ => by subst e; exact .tup (SqT.of g) (.cons (Data.dp f1) (.cons (Data.dp f2) .nil))
  can := fun x => by simp [PyData.canLay0, PyData.canLayAll0, Data.can (r := r), Data.can (r := q)]
  dep := fun x => by
    have h1 := Data.dep (r := r) x.1
    have h2 := Data.dep (r := q) x.2
    simp only [PyData.depth, PyData.depthAll]
    omega
instance [DataEq r dt] [DataEq q du] : DataEq (rP r q) (fun x => PyData.tuple [dt x.1, du x.2]) := ⟨fun x y => by
  have h1 := DataEq.eqv (r := r) x.1 y.1
  have h2 := DataEq.eqv (r := q) x.2 y.2
  simp [PyData.eqv, PyData.eqvAll, h1, h2, Prod.ext_iff]⟩
variable {K : PySem.W.Frag} {σ : L2.St} {H : Hp} {M : List Addr} {ta tb : TE} {x y : α}
theorem ev_eqD [Rep r] [Data r dt n] [DataEq r dt] [DecidableEq α] (hn : n ≤ 64 := by decide) (ha : Ev ta σ H (as r M x)) (hb : Ev tb σ H (as r M y)) : Ev (tOp (rEqD K) ta tb) σ H (as rB M (decide (x = y))) :=
  ev_op2 ha hb fun H1 a b _ e1 e2 Q k => by
    have sh : ∀ z : α, SeqAt.shaped (dt z) = true := fun z => by
      unfold SeqAt.shaped
      rw [Data.can (r := r) z, decide_eq_true (Nat.le_trans (Data.dep (r := r) z) hn)]
      rfl
    refine ⟨dt x, dt y, Data.dp e1, Data.dp e2, sh x, sh y, k _ H1 (Same.refl _) ?_⟩
    show V.bl _ = V.bl _
    congr 1
    rw [Bool.eq_iff_iff, DataEq.eqv (r := r), decide_eq_true_eq]
theorem ev_neD [Rep r] [Data r dt n] [DataEq r dt] [DecidableEq α] (hn : n ≤ 64 := by decide) (ha : Ev ta σ H (as r M x)) (hb : Ev tb σ H (as r M y)) : Ev (tOp (rNeD K) ta tb) σ H (as rB M (!decide (x = y))) :=
  ev_op2 ha hb fun H1 a b _ e1 e2 Q k => by
    have sh : ∀ z : α, SeqAt.shaped (dt z) = true := fun z => by
      unfold SeqAt.shaped
      rw [Data.can (r := r) z, decide_eq_true (Nat.le_trans (Data.dep (r := r) z) hn)]
      rfl
    refine ⟨dt x, dt y, Data.dp e1, Data.dp e2, sh x, sh y, k _ H1 (Same.refl _) ?_⟩
    show V.bl _ = V.bl _
    congr 2
    rw [Bool.eq_iff_iff, DataEq.eqv (r := r), decide_eq_true_eq]
/-- xs == [], xs != [] -/
theorem ev_nil [Rep r] (d : Old M H) : Ev (tLst tNil) σ H (as (rL r) M []) := fun H1 s Q k => ⟨by show 0 ≤ sizeLine; decide, fun p hp => k _ _ (Same.new (Same.refl _) hp) ⟨p, [], rfl, (d.same s).fresh hp, upd_same, .nil⟩⟩
end
end Rp

/-! The rules by the name of the written part, for use within comprehensions. -/
namespace Rp
open PySem PySem.Spec PyProof.Rows L2
section
variable (K : PySem.W.Frag) {X : Cx}
theorem ixl (h : X.K = K := by rfl) : IxR X (rIxL K) := h ▸ ix_list
theorem ixt (h : X.K = K := by rfl) : IxR X (rIxT K) := h ▸ ix_tup
theorem sll (h : X.K = K := by rfl) : SlR X (rSlL K) := h ▸ sl_list
theorem slt (h : X.K = K := by rfl) : SlR X (rSlT K) := h ▸ sl_tup
theorem oin (h : X.K = K := by rfl) : OpR X (compareOp .In) (rIn K false) := h ▸ op_in_seq
theorem onin (h : X.K = K := by rfl) : OpR X (compareOp .NotIn) (rIn K true) := h ▸ op_notIn_seq
theorem oeqD (hu : X.A.units + 64 < cLine) (h : X.K = K := by rfl) : OpR X (compareOp .Eq) (rEqD K) := h ▸ op_eqD hu
theorem oneD (hu : X.A.units + 64 < cLine) (h : X.K = K := by rfl) : OpR X (compareOp .NotEq) (rNeD K) := h ▸ op_neD hu
theorem clen (h : X.K = K := by rfl) : CallR X (.builtin "len") (rLenS K) := h ▸ call_lenS
theorem cany (hc : X.calm = true := by rfl) (h : X.K = K := by rfl) : CallR X (.builtin "any") (rAny K) := h ▸ cr_any hc
theorem call_ (hc : X.calm = true := by rfl) (h : X.K = K := by rfl) : CallR X (.builtin "all") (rAll K) := h ▸ cr_all hc
theorem cmax (hc : X.calm = true := by rfl) (h : X.K = K := by rfl) : CallR X (.builtin "max") (rMax K) := h ▸ cr_max hc
theorem csum (hc : X.calm = true := by rfl) (h : X.K = K := by rfl) : CallR X (.builtin "sum") (rSum K) := h ▸ cr_sum hc
theorem csorted (h : X.K = K := by rfl) : CallR X (.builtin "sorted") (rSorted K) := h ▸ cr_sorted
theorem mindex (h : X.K = K := by rfl) : MtR X "list.index" (rIndex K) := h ▸ mt_index
def rListS (K : PySem.W.Frag) : List V → Hp → VK → Prop := fun xs H Q => ∃ p ys, xs = [.ref p] ∧ (SqL K H p ys ∨ SqT K H p ys) ∧ ∀ l, H l = none → Q (.ref l) (upd H l (.lst ys))
theorem clist (h : X.K = K := by rfl) : CallR X (.type "list") (rListS K) := h ▸ call_list_of
def rTupS (K : PySem.W.Frag) : List V → Hp → VK → Prop := fun xs H Q => ∃ p ys, xs = [.ref p] ∧ ((SqL K H p ys ∧ ∀ l, H l = none → Q (.ref l) (upd H l (.tup ys))) ∨ (SqT K H p ys ∧ Q (.ref p) H))
theorem ctup (h : X.K = K := by rfl) : CallR X (.type "tuple") (rTupS K) := h ▸ call_tuple_of
theorem pil {tg l : Expr} {tl : TE} (hl : PE X l tl) (h : X.K = K := by rfl) : PI X tg l (iList K tl) := h ▸ pi_list hl
theorem pit {tg l : Expr} {tl : TE} (hl : PE X l tl) (h : X.K = K := by rfl) : PI X tg l (iTup K tl) := h ▸ pi_tup hl
theorem pgt {es : List Expr} {k : Nat} {t : TGs} {n : Nat} {pos : Pos} (h : PGs X es t) (hc : X.calm = true := by rfl)
    (hn : (assignEach es X.env).length = n := by rfl) (hst : (assignEach es X.env).findIdx? (·.1) = none := by rfl) (hK : X.K = K := by rfl) : PG X (.Tuple es k pos) (gTup K n t) := hK ▸ pg_tup hc h hn hst
theorem pienum {e : Expr} {ta : TA} {p pos tpos : Pos} {elts : List Expr} {kk : Nat} (hg : Gl X "enumerate") (hm : X.mg "enumerate" = none) (ha : PA X [e] ta) (hs : starEach [e] X.env = [(false, eval e X.env)] := by rfl) (hK : X.K = K := by rfl) :
    PI X (.Tuple elts kk tpos) (.Call (.Name "enumerate" p) [e] [] pos) (iEnum K ta) := hK ▸ pi_enum hg hm ha hs
theorem pbm {o e : Expr} {es : List Expr} {to : TE} {t : TA} {name : Str} {apos cpos : Pos} {T id : String} {r : V → List V → Hp → VK → Prop} (pa : PlainAttrs T) (slot : Slot T name id) (hty : typeOf (.builtin id) = pure (.type "method_descriptor")) (hm : MtR X id r) (ho : PE X o to) (ha : PA X (e :: es) t)
    (hbase : attributeBase o name X.env (eval o X.env) = eval o X.env := by rfl)
    (hfew : ((backTo cpos (starEach (e :: es) X.env)).all (fun x => !x.1) && (backToKw cpos (keywordEach [] X.env)).all (fun x => x.1.isSome)
      && decide ((e :: es).length + ([] : List Keyword).length + (if ([] : List Keyword).isEmpty then 0 else 1) < 30)) = true := by rfl)
    (hline : (apos.endLine == cpos.line) = true := by rfl) (hs : starEach (e :: es) X.env = (false, eval e X.env) :: starEach es X.env := by rfl) (hplain : (backTo cpos (starEach es X.env)).any (·.1) = false := by rfl) (hK : X.K = K := by rfl) :
    PE X (.Call (.Attribute o name apos) (e :: es) [] cpos) (tBM K T r to t) := hK ▸ pe_bm pa slot hty hm ho ha hbase hfew hline hs hplain
theorem pbm0 {o : Expr} {to : TE} {name : Str} {apos cpos : Pos} {T id : String} {r : V → List V → Hp → VK → Prop} (pa : PlainAttrs T) (slot : Slot T name id) (hty : typeOf (.builtin id) = pure (.type "method_descriptor")) (hm : MtR X id r) (ho : PE X o to)
    (hbase : attributeBase o name X.env (eval o X.env) = eval o X.env := by rfl) (hline : (apos.endLine == cpos.line) = true := by rfl) (hK : X.K = K := by rfl) : PE X (.Call (.Attribute o name apos) [] [] cpos) (tBM0 K T r to) := hK ▸ pe_bm0 pa slot hty hm ho hbase hline
end
/-- x = [a, ..] : a list of one's own -/
theorem q_newA {σ : L2.St} {H : Hp} {ta : TA} {ws : List V} {j : Nat} {ts : TS} {D : Ends} (ha : EvA ta σ H (fun _ vs => vs = ws)) (hz : ws.length ≤ 1000) (k : ∀ p H1, Same H H1 → H1 p = none → ts D (σ.set j (some (.ref p))) (upd H1 p (.lst ws))) : tSeq (tAsg (tLst ta) (gName j)) ts D σ H :=
  ha H (Same.refl _) _ fun vs H1 s1 e => by
    subst e
    exact ⟨Nat.le_trans hz (by decide), fun p hp => k p H1 s1 hp⟩
theorem ea_v1 {σ : L2.St} {H : Hp} {i : Nat} {v : V} (h : σ[i]? = some (some v)) : EvA (tCons (tVar i) tNil) σ H (fun _ vs => vs = [v]) := fun H1 _ Q k => ⟨v, h, k _ H1 (Same.refl _) rfl⟩
theorem ev_ref {σ : L2.St} {H : Hp} {i : Nat} {v : V} (h : σ[i]? = some (some v)) : Ev (tVar i) σ H (fun _ w => w = v) := fun H1 _ Q k => ⟨v, h, k _ H1 (Same.refl _) rfl⟩
/-- xs.pop() of a list of one's own -/
theorem ev_popW {σ : L2.St} {H : Hp} {ta : TE} {K : PySem.W.Frag} {l : Addr} {vs : List V} {v : V} {j : Nat} {ts : TS} {D : Ends} (ha : Ev ta σ H (fun _ v => v = .ref l)) (hl : H l = some (.lst (vs ++ [v]))) (k : ∀ H1, Same H H1 → ts D (σ.set j (some v)) (upd H1 l (.lst vs))) :
    tSeq (tAsg (tBM0 K "list" rPop ta) (gName j)) ts D σ H := ha H (Same.refl _) _ fun x H1 s1 e => by
  obtain rfl : x = _ := e
  refine ⟨Or.inl ⟨rfl, _, SqL.of (s1 l _ hl)⟩, l, vs ++ [v], v, rfl, rfl, s1 l _ hl, by simp, ?_⟩
  rw [List.dropLast_concat]
  exact k H1 s1
end Rp

/-! Two fors in a comprehension; a list of lists that is one's own. -/
namespace Rp
open PySem PySem.Spec PyProof.Rows L2
section
variable {α β : Type} {r : R α} {q : R β} {K : PySem.W.Frag} {σ : L2.St} {H H' : Hp} {M : List Addr} {ta tb te tl : TE} {t u tt tt1 : TT} {P P' : Pr} {x : α} {y : β} {v w : V} {i j j1 : Nat} {g : TG}
theorem Ev.to {x y : α} (h : Ev te σ H (as r M x)) (e : x = y) : Ev te σ H (as r M y) := e ▸ h
theorem Rep.newL [Rep r] {bs : List Addr} (h : ∀ b ∈ bs, H b = none) (k : r M H v x) : r (bs ++ M) H v x := by
  induction bs with
  | nil => exact k
  | cons b bs ih => exact Rep.new (h b (by simp)) (ih fun c hc => h c (by simp [hc]))
theorem Old.app {bs : List Addr} (d : Old M H) (h : ∀ b ∈ bs, ∃ o, H b = some o) : Old (bs ++ M) H := fun a ha => (List.mem_append.mp ha).elim (h a) (d a)
theorem g_pair [Rep r] [Rep q] {i2 : Nat} {xy : α × β} {Q : L2.St → Hp → Prop} (h : rP r q M H v xy) (k : ∀ v1 v2, r M H v1 xy.1 → q M H v2 xy.2 → Q ((σ.set i (some v1)).set i2 (some v2)) H) :
    gTup K 2 (gCons (gName i) (gCons (gName i2) gNil)) v σ H Q := by
  obtain ⟨a, v1, v2, e, _, g, h1, h2⟩ := h
  exact ⟨a, [v1, v2], e, SqT.of g, rfl, v1, [v2], rfl, v2, [], rfl, rfl, k v1 v2 h1 h2⟩
/-- an iterator that comes, nothing changed -/
def EvI (wi : TI) (σ : L2.St) (H : Hp) (J : It) : Prop := ∀ H1, Same H H1 → ∀ Q : It → Hp → Prop, (∀ H2, Same H1 H2 → Q J H2) → wi σ H1 Q
theorem ei_r1 {n : Nat} {tn : TE} (hn : Ev tn σ H (as rN M n)) (hz : n ≤ 1000000) : EvI (iRng1 (tCons tn tNil)) σ H (Itr 0 n) := fun H1 s Q k => hn H1 s _ fun l H2 s2 e => by
  obtain rfl : l = _ := e
  exact ⟨(n : Int), rfl, by omega, by omega, by simpa using k H2 s2⟩
theorem ei_r2 {m n : Nat} {tm tn : TE} (hm : Ev tm σ H (as rN M m)) (hn : Ev tn σ H (as rN M n)) (hy : m ≤ 1000000) (hz : n ≤ 1000000) : EvI (iRng2 (tCons tm (tCons tn tNil))) σ H (Itr (m : Int) (n - m)) := fun H1 s Q k =>
  hm H1 s _ fun l H2 s2 e => hn H2 (s.trans s2) _ fun l' H3 s3 e' => by
    obtain rfl : l = _ := e
    obtain rfl : l' = _ := e'
    refine ⟨(m : Int), (n : Int), rfl, ⟨by omega, by omega, by omega, by omega⟩, ?_⟩
    rw [show ((n : Int) - (m : Int)).toNat = n - m by omega]
    exact k H3 (s2.trans s3)
theorem tYes_if {A B : Hp → Prop} (h : A H) : tYes σ H (fun b H' => if b = true then A H' else B H') := h
theorem ev_lc2R [Rep q] {vs vs1 : List Nat} {n : Nat} {tn : TE} {wi1 : TI} {lo m : Nat → Nat} (d : Old M H) (f : Nat → Nat → Bool) (gg : Nat → Nat → β) (hn : Ev tn σ H (as rN M n)) (hz : n ≤ 500) (hm : ∀ g, m g ≤ 1000)
    (hw : ∀ x, wipe ((wipe σ vs).set j (some x)) vs = wipe σ vs)
    (hw1 : ∀ z x, wipe ((wipe ((wipe σ vs).set j (some z)) vs1).set j1 (some x)) vs1 = wipe ((wipe σ vs).set j (some z)) vs1)
    (hi : ∀ M' H1 g, Up M H M' H1 → g < n → EvI wi1 ((wipe σ vs).set j (some (.int ((g : Nat) : Int)))) H1 (Itr ((lo g : Nat) : Int) (m g)))
    (ht : ∀ M' H1 g i, Up M H M' H1 → g < n → i < m g → EvT tt1 ((wipe ((wipe σ vs).set j (some (.int ((g : Nat) : Int)))) vs1).set j1 (some (.int ((lo g + i : Nat) : Int)))) H1 (f g (lo g + i)))
    (he : ∀ M' H1 g i, Up M H M' H1 → g < n → i < m g → f g (lo g + i) = true → Ev te ((wipe ((wipe σ vs).set j (some (.int ((g : Nat) : Int)))) vs1).set j1 (some (.int ((lo g + i : Nat) : Int)))) H1 (as q M' (gg g (lo g + i)))) :
    Ev (tLc2 (iRng1 (tCons tn tNil)) (gName j) tYes wi1 (gName j1) tt1 te vs vs1) σ H (asNew q M H ((List.range n).flatMap fun g => (((List.range (m g)).map (lo g + ·)).filter (f g)).map (gg g))) := fun H0 s0 Q k =>
  hn H0 s0 _ fun l H1 s1 e => by
    obtain rfl : l = _ := e
    refine ⟨(n : Int), rfl, by omega, by omega, ?_⟩
    intro Dl hD
    have d1 : Old M H1 := d.same (s0.trans s1)
    rw [Int.toNat_natCast]
    refine ⟨fun i k H' => k = n - i ∧ i ≤ n ∧ CwR q M H1 Dl (i * 1000) ((List.range i).flatMap fun g => (((List.range (m g)).map (lo g + ·)).filter (f g)).map (gg g)) H', ⟨n, by simp, Nat.zero_le _, by simpa using CwR.start hD⟩, ?_⟩
    rintro i k' H' ⟨rfl, hin, c⟩
    by_cases hlt : i < n
    · refine .inr ⟨hlt, fun H'' => CwR q M H1 Dl ((i + 1) * 1000) ((List.range (i + 1)).flatMap fun g => (((List.range (m g)).map (lo g + ·)).filter (f g)).map (gg g)) H'', fun H'' c' => ⟨n - (i + 1), by omega, rfl, hlt, c'⟩, fun x H2 yl => ?_⟩
      obtain ⟨e1, e2⟩ := yl
      have e2' : x = V.int ((i : Nat) : Int) := by rw [e2, Int.zero_add]
      subst e1 e2'
      refine ⟨hw _, ?_⟩
      refine tYes_if ?_
      have up := c.up d1
      have up0 : Up M H (Dl :: M) H2 := ⟨(s0.trans s1).trans up.same, up.sub, fun h => up.lift (Rep.same (s0.trans s1) h), up.old⟩
      refine hi _ H2 i up0 hlt H2 (Same.refl _) _ fun H4 s4 => ?_
      refine ⟨fun a k2 H' => k2 = m i - a ∧ a ≤ m i ∧ CwR q M H1 Dl (i * 1000 + a) (((List.range i).flatMap fun g => (((List.range (m g)).map (lo g + ·)).filter (f g)).map (gg g)) ++ (((List.range a).map (lo i + ·)).filter (f i)).map (gg i)) H', ⟨m i, by simp, Nat.zero_le _, ?_⟩, ?_⟩
      · obtain ⟨c1, c2, acc, c3, c4, c5⟩ := c
        exact ⟨c1, c2.trans s4, acc, s4 _ _ c3, by omega, by simpa using F2.same s4 c5⟩
      · rintro a k2 H5 ⟨rfl, ha, c5⟩
        by_cases hal : a < m i
        · refine .inr ⟨hal, fun H'' => CwR q M H1 Dl (i * 1000 + (a + 1)) (((List.range i).flatMap fun g => (((List.range (m g)).map (lo g + ·)).filter (f g)).map (gg g)) ++ (((List.range (a + 1)).map (lo i + ·)).filter (f i)).map (gg i)) H'', fun H'' c' => ⟨m i - (a + 1), by omega, rfl, hal, c'⟩, fun x H6 yl => ?_⟩
          obtain ⟨e1, e2⟩ := yl
          have e2' : x = V.int ((lo i + a : Nat) : Int) := by rw [e2]; congr 1
          subst e1 e2'
          have up := c5.up d1
          have up0 : Up M H (Dl :: M) H6 := ⟨(s0.trans s1).trans up.same, up.sub, fun h => up.lift (Rep.same (s0.trans s1) h), up.old⟩
          have := hm i
          refine ⟨hw1 _ _, c5.turn (by omega) (ht _ _ i a up0 hlt hal) (he _ _ i a up0 hlt hal) ?_⟩
          rw [List.append_assoc]
          congr 1
          rw [List.range_succ, List.map_append, List.filter_append, List.map_append]
          cases hf : f i (lo i + a) <;> simp [hf]
        · have e : a = m i := by omega
          subst e
          refine .inl ⟨Nat.le_refl _, ?_⟩
          obtain ⟨c1, c2, acc, c3, c4, c6⟩ := c5
          have := hm i
          refine ⟨c1, c2, acc, c3, by omega, ?_⟩
          rw [List.range_succ, List.flatMap_append]
          simpa using c6
    · have e : i = n := by omega
      subst e
      exact .inl ⟨Nat.le_refl _, k _ H' (s1.trans c.2.1) (c.done (s0.trans s1))⟩

/-- [e for a, b in xs if t], xs a list of pairs -/
theorem ev_lcPn {γ : Type} {r1 : R α} {r2 : R γ} [Rep r1] [Rep r2] [Rep q] {vs : List Nat} {xs : List (α × γ)} {i2 : Nat} (d : Old M H) (f : α × γ → Bool) (gg : α × γ → β) (hl : Ev tl σ H (as (rL (rP r1 r2)) M xs)) (hz : xs.length ≤ 1000000)
    (hw : ∀ x y, wipe (((wipe σ vs).set j (some x)).set i2 (some y)) vs = wipe σ vs)
    (ht : ∀ M' H1 v w x, Up M H M' H1 → x ∈ xs → r1 M' H1 v x.1 → r2 M' H1 w x.2 → EvT tt (((wipe σ vs).set j (some v)).set i2 (some w)) H1 (f x))
    (he : ∀ M' H1 v w x, Up M H M' H1 → x ∈ xs → r1 M' H1 v x.1 → r2 M' H1 w x.2 → f x = true → Ev te (((wipe σ vs).set j (some v)).set i2 (some w)) H1 (as q M' (gg x))) :
    Ev (tLc (iList K tl) (gTup K 2 (gCons (gName j) (gCons (gName i2) gNil))) tt te vs) σ H (asNew q M H ((xs.filter f).map gg)) := fun H0 s0 Q k =>
  hl H0 s0 _ fun l H1 s1 ⟨a, ws, e, n, g, z⟩ => ⟨a, e, ⟨ws, SqL.of g⟩, fun Dl hD => by
    have d1 : Old M H1 := d.same (s0.trans s1)
    refine lc_list (xs := ws) (fun i H' => CwR q M H1 Dl i (((xs.take i).filter f).map gg) H') (by simpa using CwR.start hD) (fun i H' _ c => SqL.of (c.2.1 a _ g)) (fun i v H' hi c => ?_) (fun H' c => ?_)
    · obtain ⟨x, hx, rx⟩ := z.get hi
      have up := c.up d1
      have up0 : Up M H (Dl :: M) H' := ⟨(s0.trans s1).trans up.same, up.sub, fun h => up.lift (Rep.same (s0.trans s1) h), up.old⟩
      have hil : i < xs.length := (List.getElem?_eq_some_iff.mp hx).1
      refine g_pair (up.lift rx) fun v1 v2 p1 p2 => ?_
      exact ⟨hw _ _, c.turn (by omega) (ht _ _ _ _ x up0 (List.mem_of_getElem? hx) p1 p2) (he _ _ _ _ x up0 (List.mem_of_getElem? hx) p1 p2) (take_fm xs f gg hx)⟩
    · rw [z.length, List.take_length] at c
      exact k _ H' (s1.trans c.2.1) (c.done (s0.trans s1))⟩

/-! ### xs[i] op= e -/
def rGetL (K : PySem.W.Frag) : V → V → Hp → VK → Prop := fun o i H Q => ∃ (p : Addr) (xs : List V) (k : Nat) (v : V), o = .ref p ∧ i = .int (k : Int) ∧ SqL K H p xs ∧ xs[k]? = some v ∧ Q v H
theorem getl (K : PySem.W.Frag) {X : Cx} (h : X.K = K := by rfl) : PGet X (rGetL K) := by
  subst h
  intro pins s σ H o i ov iv Q I ro ri hq
  obtain ⟨p, xs, k, v, e1, e2, sq, hv, q⟩ := hq
  subst e1 e2
  cases ro
  obtain ⟨t, rfl⟩ := ri
  obtain ⟨its, r, pl, hz⟩ := I.list sq
  obtain ⟨u, hu, ru⟩ := r.get hv
  have hk : k < xs.length := (List.getElem?_eq_some_iff.mp hv).1
  have hn : (sizeLine : Nat) < 2 ^ 63 := by rw [sizeLine_eq]; decide
  have h0 : (0 : Int) ≤ (k : Int) := by omega
  have h1 : (k : Int) < 2 ^ 63 := by omega
  exact wpAny_getItem_list pl.isList h0 h1 (x := u) (by simpa using hu) ⟨v, H, I, ru, q⟩
/-- xs[i] -= e on a list of one's own -/
theorem s_augL {D : Ends} {a : Addr} {vs : List V} {n : Nat} {z e : Int} {f : Int → Int → Int} (ha : Ev ta σ H (fun _ v => v = .ref a)) (h : H a = some (.lst vs)) (hb : Ev tb σ H (as rN M n)) (hx : vs[n]? = some (.int z)) (he : Ev te σ H (as rI M e))
    (k : ∀ H1, Same H H1 → D.nx σ (upd H1 a (.lst (vs.set n (.int (f z e)))))) : tAugS ta tb te (rGetL K) (ipI f) rSetL D σ H :=
  ha H (Same.refl _) _ fun o H1 s1 e1 => hb H1 s1 _ fun i H2 s2 e2 => by
    obtain rfl : o = _ := e1
    obtain rfl : i = _ := e2
    refine ⟨a, vs, n, .int z, rfl, rfl, SqL.of ((s1.trans s2) a _ h), hx, ?_⟩
    refine he H2 (s1.trans s2) _ fun w H3 s3 e3 => ?_
    obtain rfl : w = _ := e3
    exact ⟨z, e, rfl, rfl, a, vs, n, n, rfl, rfl, ((s1.trans s2).trans s3) a _ h, ixN_nat (List.getElem?_eq_some_iff.mp hx).1, k H3 ((s1.trans s2).trans s3)⟩
theorem q_augL {D : Ends} {ts : TS} {a : Addr} {vs : List V} {n : Nat} {z e : Int} {f : Int → Int → Int} (ha : Ev ta σ H (fun _ v => v = .ref a)) (h : H a = some (.lst vs)) (hb : Ev tb σ H (as rN M n)) (hx : vs[n]? = some (.int z)) (he : Ev te σ H (as rI M e))
    (k : ∀ H1, Same H H1 → ts D σ (upd H1 a (.lst (vs.set n (.int (f z e)))))) : tSeq (tAugS ta tb te (rGetL K) (ipI f) rSetL) ts D σ H := s_augL (D := { D with nx := ts D }) ha h hb hx he k
/-! ### enumerate -/
theorem s_forE [Rep r] {D : Ends} {tb' : TS} {g : TG} {xs : List α} {L : List Addr} (hl : Ev tl σ H (as (rL r) M xs)) (hL : ∀ a ∈ L, a ∈ M)
    (k : ∀ H1, Same H H1 → ∃ Pv : Nat → L2.St → Hp → Prop, Pv 0 σ H1 ∧ (∀ i σ' H', Pv i σ' H' → Kp L H1 H') ∧
      (∀ i T v x σ' H', xs[i]? = some x → r M H' v x → Pv i σ' H' → H' T = none → g (.ref T) σ' (upd H' T (.tup [.int (i : Int), v])) fun σ2 H2 => tb' { D with nx := Pv (i + 1), ct := Pv (i + 1), bk := D.nx } σ2 H2) ∧ ∀ σ' H', Pv xs.length σ' H' → D.nx σ' H') :
    tFor (iEnum K (tCons tl tNil)) g tb' D σ H :=
  hl H (Same.refl _) _ fun l H1 s1 ⟨a, ws, e, n, gg, z⟩ => by
    subst e
    obtain ⟨Pv, h0, hk, hs, hd⟩ := k H1 s1
    refine ⟨a, ws, rfl, SqL.of gg, ?_⟩
    have sq : ∀ i σ' H', Pv i σ' H' → SqL K H' a ws := fun i σ' H' p => SqL.of (hk i σ' H' p a _ (fun q => n (hL a q)) gg)
    refine ⟨fun i m σ' H' => m = ws.length - i ∧ i ≤ ws.length ∧ Pv i σ' H', ⟨ws.length, by simp, Nat.zero_le _, h0⟩, ?_⟩
    rintro i m σ' H' ⟨rfl, hi, p⟩
    by_cases hlt : i < ws.length
    · obtain ⟨x, hx, rx⟩ := z.get (List.getElem?_eq_getElem hlt)
      refine .inr ⟨⟨ws, ws[i], sq _ _ _ p, List.getElem?_eq_getElem hlt⟩, Pv (i + 1), fun σ2 H2 p2 => ⟨ws.length - (i + 1), by omega, rfl, hlt, p2⟩, fun y H2 yl => ?_⟩
      obtain ⟨T, v, e1, nT, e2, hv⟩ := yl
      subst e1 e2
      have ev : ws[i]? = some v := hv ws (sq _ _ _ p)
      rw [List.getElem?_eq_getElem hlt] at ev
      cases ev
      exact hs i T _ x σ' H' hx (Rep.mono ((hk i σ' H' p).sub hL) rx) p nT
    · have e : i = ws.length := by omega
      subst e
      rw [z.length] at p
      exact .inl ⟨⟨ws, by rw [z.length] at *; exact sq _ _ _ p, Nat.le_refl _⟩, hd σ' H' p⟩
theorem q_forE [Rep r] {D : Ends} {ts tb' : TS} {g : TG} {xs : List α} {L : List Addr} (hl : Ev tl σ H (as (rL r) M xs)) (hL : ∀ a ∈ L, a ∈ M)
    (k : ∀ H1, Same H H1 → ∃ Pv : Nat → L2.St → Hp → Prop, Pv 0 σ H1 ∧ (∀ i σ' H', Pv i σ' H' → Kp L H1 H') ∧
      (∀ i T v x σ' H', xs[i]? = some x → r M H' v x → Pv i σ' H' → H' T = none → g (.ref T) σ' (upd H' T (.tup [.int (i : Int), v])) fun σ2 H2 => tb' { D with nx := Pv (i + 1), ct := Pv (i + 1), bk := ts D } σ2 H2) ∧ ∀ σ' H', Pv xs.length σ' H' → ts D σ' H') :
    tSeq (tFor (iEnum K (tCons tl tNil)) g tb') ts D σ H := s_forE (D := { D with nx := ts D }) hl hL k
theorem g_pairT {T : Addr} {v1 v2 : V} {i2 : Nat} {Q : L2.St → Hp → Prop} (h : Q ((σ.set i (some v1)).set i2 (some v2)) (upd H T (.tup [v1, v2]))) : gTup K 2 (gCons (gName i) (gCons (gName i2) gNil)) (.ref T) σ (upd H T (.tup [v1, v2])) Q :=
  ⟨T, [v1, v2], rfl, SqT.of upd_same, rfl, v1, [v2], rfl, v2, [], rfl, rfl, h⟩
/-- [e for i, x in enumerate(xs) if t] -/
theorem ev_lcEn [Rep r] [Rep q] {vs : List Nat} {xs : List α} {i2 : Nat} (d : Old M H) (f : Nat → α → Bool) (gg : Nat → α → β) (hl : Ev tl σ H (as (rL r) M xs)) (hz : xs.length ≤ 1000000)
    (hw : ∀ x y, wipe (((wipe σ vs).set j (some x)).set i2 (some y)) vs = wipe σ vs)
    (ht : ∀ M' H1 v (i : Nat) x, Up M H M' H1 → xs[i]? = some x → r M' H1 v x → EvT tt (((wipe σ vs).set j (some (.int (i : Int)))).set i2 (some v)) H1 (f i x))
    (he : ∀ M' H1 v (i : Nat) x, Up M H M' H1 → xs[i]? = some x → r M' H1 v x → f i x = true → Ev te (((wipe σ vs).set j (some (.int (i : Int)))).set i2 (some v)) H1 (as q M' (gg i x))) :
    Ev (tLc (iEnum K (tCons tl tNil)) (gTup K 2 (gCons (gName j) (gCons (gName i2) gNil))) tt te vs) σ H (asNew q M H (((xs.zipIdx).filter fun p => f p.2 p.1).map fun p => gg p.2 p.1)) := fun H0 s0 Q k =>
  hl H0 s0 _ fun l H1 s1 ⟨a, ws, e, n, g, z⟩ => by
    subst e
    have d1 : Old M H1 := d.same (s0.trans s1)
    refine ⟨a, ws, rfl, SqL.of g, fun Dl hD => ?_⟩
    have sq : ∀ i H' (L : List β), CwR q M H1 Dl i L H' → SqL K H' a ws := fun i H' L c => SqL.of (c.2.1 a _ g)
    refine ⟨fun i m H' => m = ws.length - i ∧ i ≤ ws.length ∧ CwR q M H1 Dl i ((((xs.zipIdx).take i).filter fun p => f p.2 p.1).map fun p => gg p.2 p.1) H', ⟨ws.length, by simp, Nat.zero_le _, by simpa using CwR.start hD⟩, ?_⟩
    rintro i m H' ⟨rfl, hi, c⟩
    by_cases hlt : i < ws.length
    · obtain ⟨x, hx, rx⟩ := z.get (List.getElem?_eq_getElem hlt)
      refine .inr ⟨⟨ws, ws[i], sq _ _ _ c, List.getElem?_eq_getElem hlt⟩, fun H2 => CwR q M H1 Dl (i + 1) ((((xs.zipIdx).take (i + 1)).filter fun p => f p.2 p.1).map fun p => gg p.2 p.1) H2, fun H2 p2 => ⟨ws.length - (i + 1), by omega, rfl, hlt, p2⟩, fun y H2 yl => ?_⟩
      obtain ⟨T, v, e1, nT, e2, hv⟩ := yl
      subst e1 e2
      have ev : ws[i]? = some v := hv ws (sq _ _ _ c)
      rw [List.getElem?_eq_getElem hlt] at ev
      cases ev
      refine g_pairT ?_
      have up := c.up d1
      have sT : Same H' (upd H' T (.tup [.int (i : Int), ws[i]])) := Same.new (Same.refl _) nT
      have upT : Up M H1 (Dl :: M) (upd H' T (.tup [.int (i : Int), ws[i]])) := ⟨up.same.trans sT, up.sub, fun h => Rep.same sT (up.lift h), up.old.same sT⟩
      have up0 : Up M H (Dl :: M) (upd H' T (.tup [.int (i : Int), ws[i]])) := ⟨(s0.trans s1).trans upT.same, upT.sub, fun h => upT.lift (Rep.same (s0.trans s1) h), upT.old⟩
      have cT : CwR q M H1 Dl i ((((xs.zipIdx).take i).filter fun p => f p.2 p.1).map fun p => gg p.2 p.1) (upd H' T (.tup [.int (i : Int), ws[i]])) := by
        obtain ⟨c1, c2, acc, c3, c4, c5⟩ := c
        exact ⟨c1, c2.trans sT, acc, sT _ _ c3, c4, F2.same sT c5⟩
      have hil : i < xs.length := (List.getElem?_eq_some_iff.mp hx).1
      exact ⟨hw _ _, cT.turn (by omega) (ht _ _ _ i x up0 hx (upT.lift rx)) (he _ _ _ i x up0 hx (upT.lift rx)) (take_fm (xs.zipIdx) (fun p => f p.2 p.1) (fun p => gg p.2 p.1) (x := (x, i)) (by rw [List.getElem?_zipIdx, hx]; simp))⟩
    · have e : i = ws.length := by omega
      subst e
      have e2 : ws.length = (xs.zipIdx).length := by rw [List.length_zipIdx]; exact z.length
      refine .inl ⟨⟨ws, sq _ _ _ c, Nat.le_refl _⟩, ?_⟩
      have c' := c
      rw [e2, List.take_length] at c'
      exact k _ H' (s1.trans c.2.1) (c'.done (s0.trans s1))

/-! ### a list of lists of one's own, its rows flat -/
structure Mat {γ : Type} (enc : γ → V) (H : Hp) (a : Addr) (bs : List Addr) (rows : List (List γ)) : Prop where
  top : H a = some (.lst (bs.map V.ref))
  nd : bs.Nodup
  out : a ∉ bs
  len : bs.length = rows.length
  row : ∀ (i : Nat) b ys, bs[i]? = some b → rows[i]? = some ys → H b = some (.lst (ys.map enc))
section
variable {γ : Type} {enc : γ → V} {a b p : Addr} {bs L : List Addr} {rows : List (List γ)} {ys : List γ} {o : HO}
theorem Mat.kp (m : Mat enc H a bs rows) (k : Kp L H H') (ha : a ∉ L) (hb : ∀ b ∈ bs, b ∉ L) : Mat enc H' a bs rows :=
  ⟨k a _ ha m.top, m.nd, m.out, m.len, fun i b ys h1 h2 => k b _ (hb b (List.mem_of_getElem? h1)) (m.row i b ys h1 h2)⟩
theorem Mat.same (m : Mat enc H a bs rows) (s : Same H H') : Mat enc H' a bs rows :=
  ⟨s a _ m.top, m.nd, m.out, m.len, fun i b ys h1 h2 => s b _ (m.row i b ys h1 h2)⟩
theorem Mat.upd (m : Mat enc H a bs rows) (ha : p ≠ a) (hb : p ∉ bs) : Mat enc (upd H p o) a bs rows :=
  ⟨by rw [upd_ne (Ne.symm ha)]; exact m.top, m.nd, m.out, m.len, fun i b ys h1 h2 => by
    have hne : b ≠ p := fun e => hb (by rw [← e]; exact List.mem_of_getElem? h1)
    rw [upd_ne hne]
    exact m.row i b ys h1 h2⟩
theorem Mat.old (m : Mat enc H a bs rows) : ∀ b ∈ bs, ∃ o, H b = some o := fun b hb => by
  obtain ⟨i, hi, e⟩ := List.getElem_of_mem hb
  have h2 : i < rows.length := by rw [← m.len]; exact hi
  exact ⟨_, m.row i b _ (by rw [List.getElem?_eq_getElem hi, e]) (List.getElem?_eq_getElem h2)⟩
theorem Mat.at (m : Mat enc H a bs rows) (h : rows[i]? = some ys) : ∃ b, bs[i]? = some b ∧ H b = some (.lst (ys.map enc)) := by
  have hi : i < bs.length := by rw [m.len]; exact (List.getElem?_eq_some_iff.mp h).1
  exact ⟨bs[i], List.getElem?_eq_getElem hi, m.row i _ ys (List.getElem?_eq_getElem hi) h⟩
/-- a row is changed -/
theorem Mat.set (m : Mat enc H a bs rows) (h : bs[i]? = some b) {zs : List γ} : Mat enc (L2.upd H b (.lst (zs.map enc))) a bs (rows.set i zs) := by
  have hb : b ∈ bs := List.mem_of_getElem? h
  have hil : i < bs.length := (List.getElem?_eq_some_iff.mp h).1
  have hab : a ≠ b := fun e => m.out (by rw [e]; exact hb)
  refine ⟨by rw [upd_ne hab]; exact m.top, m.nd, m.out, by rw [List.length_set]; exact m.len, fun k c ys h1 h2 => ?_⟩
  by_cases e : i = k
  · subst e
    rw [h] at h1
    cases h1
    rw [List.getElem?_set_self (by rw [← m.len]; exact hil)] at h2
    cases h2
    exact upd_same
  · rw [List.getElem?_set_ne e] at h2
    have hne : c ≠ b := fun q => by
      subst q
      have hk : k < bs.length := (List.getElem?_eq_some_iff.mp h1).1
      exact e ((List.getElem_inj m.nd).mp ((List.getElem?_eq_some_iff.mp h).2.trans (List.getElem?_eq_some_iff.mp h1).2.symm))
    rw [upd_ne hne]
    exact m.row k c ys h1 h2
/-- read as a list of lists -/
theorem Mat.rep {r : R γ} (m : Mat enc H a bs rows) (he : ∀ M' H' y, r M' H' (enc y) y) (hM : a ∉ M) (hb : ∀ b ∈ bs, b ∉ M) : rL (rL r) M H (.ref a) rows := by
  refine ⟨a, _, rfl, hM, m.top, F2.of_get (by rw [List.length_map]; exact m.len) fun i v ys h1 h2 => ?_⟩
  rw [List.getElem?_map] at h1
  cases e : bs[i]? with
  | none => rw [e] at h1; cases h1
  | some b =>
    rw [e] at h1
    cases h1
    refine ⟨b, _, rfl, hb b (List.mem_of_getElem? e), m.row i b ys e h2, ?_⟩
    clear h2
    induction ys with
    | nil => exact .nil
    | cons y ys ih => exact .cons (he _ _ y) ih
theorem encB (M' : List Addr) (H' : Hp) (y : Bool) : rB M' H' (V.bl y) y := rfl
theorem encN (M' : List Addr) (H' : Hp) (y : Nat) : rN M' H' (V.int (y : Int)) y := rfl
/-- a flat list just made -/
abbrev newF {γ : Type} (enc : γ → V) (H : Hp) (ys : List γ) : Pr := fun H1 v => ∃ b, v = .ref b ∧ H b = none ∧ H1 b = some (.lst (ys.map enc))
abbrev newMat {γ : Type} (enc : γ → V) (H : Hp) (rows : List (List γ)) : Pr := fun H1 v => ∃ a bs, v = .ref a ∧ H a = none ∧ (∀ b ∈ bs, H b = none) ∧ Mat enc H1 a bs rows
theorem newB {ys : List Bool} (h : Ev te σ H (asNew rB M H ys)) : Ev te σ H (newF V.bl H ys) := h.imp fun H1 v _ ⟨a, vs, e, n, g, f⟩ => ⟨a, e, n, by rw [g, rB.map f]⟩
theorem newN {ys : List Nat} (h : Ev te σ H (asNew rN M H ys)) : Ev te σ H (newF (fun n : Nat => V.int (n : Int)) H ys) := h.imp fun H1 v _ ⟨a, vs, e, n, g, f⟩ => ⟨a, e, n, by rw [g, rN.map f]⟩
theorem new0 : Ev (tLst tNil) σ H (newF enc H []) := fun H1 s Q k => ⟨by show 0 ≤ sizeLine; decide, fun p hp => k _ _ (Same.new (Same.refl _) hp) ⟨p, rfl, s.free hp, upd_same⟩⟩
/-- [[..] for x in xs], each row new -/
theorem ev_mat [Rep r] {vs : List Nat} {xs : List α} (d : Old M H) (gg : α → List γ) (hl : Ev tl σ H (as (rL r) M xs)) (hz : xs.length ≤ 1000000) (hw : ∀ x, wipe ((wipe σ vs).set j (some x)) vs = wipe σ vs)
    (he : ∀ M' H1 v x, Up M H M' H1 → x ∈ xs → r M' H1 v x → Ev te ((wipe σ vs).set j (some v)) H1 (newF enc H1 (gg x))) :
    Ev (tLc (iList K tl) (gName j) tYes te vs) σ H (newMat enc H (xs.map gg)) := fun H0 s0 Q k =>
  hl H0 s0 _ fun l H1 s1 ⟨a, ws, e, n, g, z⟩ => ⟨a, e, ⟨ws, SqL.of g⟩, fun Dl hD => by
    have d1 : Old M H1 := d.same (s0.trans s1)
    refine lc_list (xs := ws) (fun i H' => H1 Dl = none ∧ Same H1 H' ∧ ∃ bs : List Addr, bs.length ≤ i ∧ (∀ b ∈ bs, H1 b = none) ∧ Mat enc H' Dl bs ((xs.take i).map gg)) ?_ (fun i H' _ c => SqL.of (c.2.1 a _ g)) (fun i v H' hi c => ?_) (fun H' c => ?_)
    · exact ⟨hD, Same.new (Same.refl _) hD, [], Nat.zero_le _, by simp, by simpa using upd_same, List.nodup_nil, by simp, by simp, fun i b ys h1 _ => by simp at h1⟩
    · obtain ⟨x, hx, rx⟩ := z.get hi
      obtain ⟨c1, c2, bs, c3, c4, m⟩ := c
      have hil : i < xs.length := (List.getElem?_eq_some_iff.mp hx).1
      have up : Up M H1 (Dl :: M) H' := Up.add d1 c1 c2 m.top
      have up0 : Up M H (Dl :: M) H' := ⟨(s0.trans s1).trans up.same, up.sub, fun h => up.lift (Rep.same (s0.trans s1) h), up.old⟩
      refine ⟨hw v, ?_⟩
      refine tYes_if ?_
      refine he _ H' v x up0 (List.mem_of_getElem? hx) (up.lift rx) H' (Same.refl _) _ fun y H4 s4 ⟨b, eb, nb, gb⟩ => ?_
      subst eb
      have nbD : b ≠ Dl := fun q => by subst q; rw [m.top] at nb; cases nb
      have nbs : b ∉ bs := fun q => by
        obtain ⟨i', hi', e'⟩ := List.getElem_of_mem q
        have h2 : i' < ((xs.take i).map gg).length := by rw [← m.len]; exact hi'
        have := m.row i' b _ (by rw [List.getElem?_eq_getElem hi', e']) (List.getElem?_eq_getElem h2)
        rw [this] at nb
        cases nb
      refine ⟨bs.map V.ref, s4 _ _ m.top, by rw [List.length_map]; exact Nat.lt_of_le_of_lt (Nat.le_trans c3 (Nat.le_trans (Nat.le_of_lt hil) hz)) (by decide), c1, Same.mut (c2.trans s4) c1, bs ++ [b], by simp; omega, ?_, ?_⟩
      · intro b' hb'
        rcases List.mem_append.mp hb' with hb' | hb'
        · exact c4 b' hb'
        · have : b' = b := by simpa using hb'
          subst this
          exact c2.free nb
      · refine ⟨by rw [upd_same]; simp, ?_, ?_, ?_, ?_⟩
        · rw [List.nodup_append]
          refine ⟨m.nd, by simp, fun x hx y hy => ?_⟩
          have : y = b := by simpa using hy
          subst this
          intro q
          exact nbs (q ▸ hx)
        · rw [List.mem_append]
          rintro (q | q)
          · exact m.out q
          · have : Dl = b := by simpa using q
            exact nbD this.symm
        · rw [List.take_add_one, hx]
          simp [m.len]
        · intro i' b' ys h1 h2
          rw [List.take_add_one, hx, Option.toList_some, List.map_append] at h2
          by_cases hlt : i' < bs.length
          · rw [List.getElem?_append_left hlt] at h1
            rw [List.getElem?_append_left (by rw [← m.len]; exact hlt)] at h2
            have hb' : b' ∈ bs := List.mem_of_getElem? h1
            have hne : b' ≠ Dl := fun q => m.out (by rw [← q]; exact hb')
            rw [upd_ne hne]
            exact s4 _ _ (m.row i' b' ys h1 h2)
          · have h3 : i' = bs.length := by
              have := (List.getElem?_eq_some_iff.mp h1).1
              rw [List.length_append] at this
              simp at this
              omega
            subst h3
            rw [List.getElem?_append_right (Nat.le_refl _)] at h1
            rw [List.getElem?_append_right (by rw [m.len]; exact Nat.le_refl _)] at h2
            simp at h1
            rw [m.len] at h2
            simp at h2
            subst h1 h2
            rw [upd_ne nbD]
            exact gb
    · obtain ⟨c1, c2, bs, c3, c4, m⟩ := c
      rw [z.length, List.take_length] at m
      exact k _ H' (s1.trans c2) ⟨Dl, bs, rfl, (s0.trans s1).free c1, fun b hb => (s0.trans s1).free (c4 b hb), m⟩⟩
end
end
end Rp

/-! Keyword calls; list(xs). -/
namespace Rp
open PySem PySem.Spec PyProof.Rows L2
section
variable {α β : Type} {r : R α} {q : R β} {K : PySem.W.Frag} {σ : L2.St} {H H' : Hp} {M : List Addr} {ta tb te tl : TE} {t u tt tt1 : TT} {P P' : Pr} {x : α} {y : β} {v w : V} {i j j1 : Nat} {g : TG}
theorem ev_callN1 {n : Nat} {sp : Sp} {gV : List V → List V → List V} {E : XK} {t : TA} {PA : Hp → List V → Prop} {P1 : Pr} (ha : EvA t σ H PA) (hm : ∀ H1 H2 vs, Same H1 H2 → PA H1 vs → PA H2 vs) (hk : Ev tb σ H P1)
    (h : ∀ H1 vs z, Same H H1 → PA H1 vs → P1 H1 z → vs.length = n ∧ ∀ Q : VK, (∀ v H2, Same H1 H2 → P H2 v → Q v H2) → sp (gV vs [z]) H1 Q E) : Ev (tCallN n 1 sp gV E t (tCons tb tNil)) σ H P := fun H1 s Q k =>
  ha H1 s _ fun vs H2 s2 p => hk H2 (s.trans s2) _ fun z H3 s3 p3 =>
    have h3 := h H3 vs z ((s.trans s2).trans s3) (hm _ _ _ s3 p) p3
    ⟨h3.1, rfl, h3.2 Q fun v H4 s4 pv => k v H4 ((s2.trans s3).trans s4) pv⟩
/-- list(xs) -/
theorem ev_listS [Rep r] {xs : List α} (d : Old M H) (ha : Ev ta σ H (as (rL r) M xs)) : Ev (tCB (rListS K) (tCons ta tNil)) σ H (as (rL r) M xs) :=
  ev_cb1 ha fun H1 v s ⟨a, vs, e, n, g, f⟩ Q k => ⟨a, vs, by rw [e], .inl (SqL.of g), fun l hl => by
    have s1 : Same H1 (upd H1 l (.lst vs)) := Same.new (Same.refl _) hl
    exact k _ _ s1 ⟨l, vs, rfl, (d.same s).fresh hl, upd_same, F2.same s1 f⟩⟩
theorem ev_k [Rep r] (h : r M H v x) : Ev (tC v) σ H (as r M x) := fun H1 s Q k => k v H1 (Same.refl _) (Rep.same s h)
/-- the rule at two values at hand -/
theorem neD_run {y : α} {dt : α → PyData} {n : Nat} [Rep r] [Data r dt n] [DataEq r dt] [DecidableEq α] (hn : n ≤ 64 := by decide) (ha : r M H v x) (hb : r M H w y) {Q : VK} (k : ∀ H2, Same H H2 → Q (.bl (!decide (x = y))) H2) : rNeD K v w H Q :=
  ev_neD (K := K) (σ := []) hn (ev_k ha) (ev_k hb) H (Same.refl _) Q fun v H2 s e => by
    obtain rfl : v = _ := e
    exact k H2 s
theorem eqD_run {y : α} {dt : α → PyData} {n : Nat} [Rep r] [Data r dt n] [DataEq r dt] [DecidableEq α] (hn : n ≤ 64 := by decide) (ha : r M H v x) (hb : r M H w y) {Q : VK} (k : ∀ H2, Same H H2 → Q (.bl (decide (x = y))) H2) : rEqD K v w H Q :=
  ev_eqD (K := K) (σ := []) hn (ev_k ha) (ev_k hb) H (Same.refl _) Q fun v H2 s e => by
    obtain rfl : v = _ := e
    exact k H2 s
end
end Rp

/-! Comprehensions that make a set or a dict, whatever these hold: the turns of the block once, for both. -/
namespace Rp
open PySem PySem.Spec PyProof.Rows L2
section
variable {X : Cx}
/-- the rest of a turn: the item named, the tests asked, then the step or nothing -/
abbrev TurnOwes (M : Model) (A : Around) (itv : Value) (tg : Expr) (ifs : List Expr) (ce : Env) (NB : Value → Shared → Prop) (stop : Shared → Prop) (step : (Shared → Prop) → Shared → Prop) (back : Shared → Prop) (s : Shared) : Prop :=
  wpAny M A (pyNext itv) (fun r sa => match r with
    | none => stop sa
    | some v => wpAny M A (letOwnedTupleGo tg itv v) (fun _ sb => wpAny M A (assign tg ce v) (fun _ sc =>
        wpAny M A (forIn ifs true fun c q => if q = true then do let yes ← isTrue c ce (eval c ce); pure (ForInStep.yield yes) else pure (ForInStep.yield q)) (fun yes sd => if yes = true then step back sd else back sd) NB sc) NB sb) NB sa) NB s
/-- the block's environment -/
abbrev envB (X : Cx) (s : Shared) (scope : Scope) : Env := compEnvC scope (cellsFrom (s.heap.objs.size + 1) scope.names (cloFrom X.env.cells scope.names [])) s.heap.objs.size X.env
abbrev cxB (X : Cx) (s : Shared) (H : Hp) (scope : Scope) (fp : List Addr) : Cx := X.blk s H scope (envB X s scope) fp
abbrev atB (s : Shared) (scope : Scope) : Shared := { s with heap := pushCells (s.heap.push { cls := .type "dict", data := .dict #[] }) scope.names }
/-- the turns of the block, from where its new thing stands -/
theorem block_turns {pins : List (Addr × Obj)} {σ : L2.St} {H : Hp} {s : Shared} {tg : Expr} {ifs : List Expr} {scope : Scope} {own : List (Str × Nat)} {it : Addr} {fp : List Addr} {tn : Nat → Heap → Prop} {J : It} {g : TG} {tt : TT}
    {stp : L2.St → Hp → (Hp → Prop) → Prop} {step : (Shared → Prop) → Shared → Prop} {NB : Value → Shared → Prop} {stop : Shared → Prop} {W : Nat → Nat → Hp → Prop} {Qd : Hp → Prop} {m0 : Nat}
    (hc : X.calm = true) (hN : X.N.Nodup) (I : Inv X pins σ H s) (ok : BlkOk X.N X.env.scope scope own) (T : Turn X.prog X.w X.K tg J fp it tn) (st : tn 0 s.heap) (f : ∀ b ∈ fp, FpOk X pins H b ∧ b < s.heap.objs.size)
    (pg : PG (cxB X s H scope fp) tg g) (pt : PTs (cxB X s H scope fp) ifs tt)
    (hstep : ∀ pins' s' σ' H' N K, Inv (cxB X s H scope fp) pins' σ' H' s' → stp σ' H' N → (∀ s2 H2, Inv (cxB X s H scope fp) pins' σ' H2 s2 → N H2 → K s2) → step K s')
    (w0 : W 0 m0 H)
    (turn : ∀ i m H', W i m H' → (J.stop i H' ∧ Qd H') ∨ (J.go i H' ∧ ∃ N : Hp → Prop, (∀ H2, N H2 → ∃ m', m' < m ∧ W (i + 1) m' H2) ∧
      ∀ x H2, J.yld i H' x H2 → g x (wipe σ (own.map (·.2))) H2 fun σ3 H3 => wipe σ3 (own.map (·.2)) = wipe σ (own.map (·.2)) ∧ tt σ3 H3 fun b H4 => if b = true then stp σ3 H4 N else N H4))
    (hstop : ∀ s' H' m, Inv X pins σ H' s' → Qd H' → s'.heap.Ns s.heap.objs.size m → FpOk X pins H' s.heap.objs.size → stop s') :
    ∃ P : Nat → Shared → Prop, P m0 (atB s scope) ∧ ∀ n s1, P n s1 → TurnOwes (model X.prog X.w) X.A (.ref it) tg ifs (envB X s scope) NB stop step (fun s2 => ∃ m, m < n ∧ P m s2) s1 := by
  have IB := block_start I ok hN f
  have keepT : tn 0 (atB s scope).heap := T.keep _ _ _ st fun b _ o e => pushCells_keeps _ _ _ _ (Heap.get?_push_of_some _ e)
  have apart : ∀ {σ' : L2.St} {H' : Hp} {s' : Shared}, Inv (cxB X s H scope fp) [] σ' H' s' → (∀ b ∈ fp, H' b = none) → ∀ b ∈ fp, FpOk (cxB X s H scope fp) [] H' b := fun J' hn b hb =>
    ⟨hn b hb, (J'.ok.exf b hb).1, J'.ok.exfs b hb, .inl hb, fun x c e => (J'.ok.exf b hb).2 x c e, fun p hp => absurd hp List.not_mem_nil⟩
  refine ⟨fun n s' => ∃ i H', Inv (cxB X s H scope fp) [] (wipe σ (own.map (·.2))) H' s' ∧ tn i s'.heap ∧ (∀ b ∈ fp, H' b = none) ∧ W i n H', ⟨0, H, IB, keepT, fun b hb => (f b hb).1.1, w0⟩, ?_⟩
  rintro n s1 ⟨i, H1, I1, st1, n1, w1⟩
  rcases turn i n H1 w1 with ⟨over, qd⟩ | ⟨go, N, hN', body⟩
  · refine thnF (T.done (cxB X s H scope fp) rfl rfl rfl hc i [] s1 _ H1 (fun _ _ => False) I1 (apart I1 n1) st1 over) fun r s2 ⟨hr, I2⟩ => ?_
    subst hr
    -- out of the block again
    have out : Inv X pins σ H1 s2 := I.call' (ch := fp) I2.os I2.base I2.hok I2.bare fun b hb =>
      have z := (f b hb).1.2
      ⟨z.2.2.1, z.1, z.2.2.2.1, z.2.2.2.2⟩
    obtain ⟨m, hm, _⟩ := I2.loc
    exact hstop s2 H1 m out qd hm (I.fpOk (Nat.le_refl _) I2.free)
  · refine thnF (T.item (cxB X s H scope fp) rfl rfl rfl hc i [] s1 _ H1 (fun _ _ => False) I1 (apart I1 n1) st1 go) fun r s2 ⟨u, hr, hu⟩ => ?_
    subst hr
    refine thnF hu fun _ s3 ⟨x, H3, I3, ru, yl, st3, n3⟩ => ?_
    have held := I3.pinned (apart I3 n3) (T.obj _ _ st3)
    refine thnF (pg.run _ s3 _ H3 x u _ held ru (body x H3 yl)) fun _ s4 ⟨σ4, H4, I4, hw, q4⟩ => ?_
    refine thnF (pt.run _ s4 σ4 H4 _ I4 q4) fun yes s5 ⟨H5, I5, q5⟩ => ?_
    have again : ∀ (s6 : Shared) (H6 : Hp), Inv (cxB X s H scope fp) ([] ++ pinsAt fp s3.heap) σ4 H6 s6 → N H6 → ∃ m, m < n ∧ ∃ i H', Inv (cxB X s H scope fp) [] (wipe σ (own.map (·.2))) H' s6 ∧ tn i s6.heap ∧ (∀ b ∈ fp, H' b = none) ∧ W i m H' := fun s6 H6 I6 q6 => by
      obtain ⟨m, hm, w6⟩ := hN' H6 q6
      have stay : ∀ b ∈ fp, ∀ o, s3.heap.get? b = some o → s6.heap.get? b = some o ∧ H6 b = none := fun b hb o e =>
        have z := I6.pin (b, o) (List.mem_append_right _ (List.mem_append_right _ (mem_pinsAt hb e)))
        ⟨z.1, z.2.1⟩
      refine ⟨m, hm, i + 1, H6, (I6.unpinned (pins := [])).weak (by rw [← hw, wipe_length]) (fun j v e => ?_), T.keep _ _ _ st3 fun b hb o e => (stay b hb o e).1, fun b hb => ?_, w6⟩
      · rw [← hw] at e
        exact (wipe_some e).1
      · obtain ⟨o, e, _⟩ := T.obj _ _ st3 b hb
        exact (stay b hb o e).2
    cases yes with
    | false => exact again s5 H5 I5 q5
    | true => exact hstep _ s5 σ4 H5 N _ I5 q5 again
/-- all the names a block frees are the def's -/
theorem blk_free {pins : List (Addr × Obj)} {σ : L2.St} {H : Hp} {s : Shared} {scope : Scope} {own : List (Str × Nat)} (I : Inv X pins σ H s) (ok : BlkOk X.N X.env.scope scope own) : ∀ y ∈ scope.names, y.2 = .free → ∃ c, X.env.cells.lookup y.1 = some c := fun y hy e =>
  I.ok.has _ (ok.free y hy e)
/-- a value goes into the set that is being made -/
def AddR (X : Cx) (add : V → Addr → Hp → (Hp → Prop) → Prop) : Prop := ∀ (pins : List (Addr × Obj)) (s : Shared) (σ : L2.St) (H : Hp) (E : Value → Shared → Prop) (D : Addr) (y : V) (u : Value) (N : Hp → Prop) (Q : Value → Shared → Prop),
  Inv X pins σ H s → RelV y u → add y D H N → (∀ s' H' v, Inv X pins σ H' s' → N H' → Q v s') → wpAny (model X.prog X.w) X.A (call (.builtin "set.add") [.ref D, u]) Q E s
/-- a new set is a thing of the kind O0 -/
def BornS (X : Cx) (O0 : Addr → HO) : Prop := ∀ (H : Hp) (h : Heap), ObjOk X.prog X.w H (h.push { cls := .type "set", dict := none, data := .set #[] 0 (.fresh 0 0 (!X.w.params.followText "set-order")) }) h.objs.size (O0 h.objs.size)
/-- {e for t in xs if ..}: the new set at D is of the kind O0, add is how it takes a value -/
def tScG (O0 : Addr → HO) (add : V → Addr → Hp → (Hp → Prop) → Prop) (wi : TI) (g : TG) (tt : TT) (te : TE) (vs : List Nat) : TE := fun σ H Q => wi σ H fun J H1 => ∀ D, H1 D = none → ∃ W : Nat → Nat → Hp → Prop, (∃ m, W 0 m (upd H1 D (O0 D))) ∧
  ∀ i m H', W i m H' → (J.stop i H' ∧ Q (.ref D) H') ∨ (J.go i H' ∧ ∃ N : Hp → Prop, (∀ H2, N H2 → ∃ m', m' < m ∧ W (i + 1) m' H2) ∧
    ∀ x H2, J.yld i H' x H2 → g x (wipe σ vs) H2 fun σ3 H3 => wipe σ3 vs = wipe σ vs ∧ tt σ3 H3 fun b H4 => if b = true then te σ3 H4 fun y H5 => add y D H5 N else N H4)
theorem pe_scG {O0 : Addr → HO} {add : V → Addr → Hp → (Hp → Prop) → Prop} {elt tg iter : Expr} {ifs : List Expr} {scope : Scope} {own : List (Str × Nat)} {pos : Pos} {wi : TI} {g : TG} {tt : TT} {te : TE} (hb : BornS X O0) (hadd : ∀ s H fp, AddR (cxB X s H scope fp) add)
    (hc : X.calm = true) (hN : X.N.Nodup) (hi : PI X tg iter wi) (ok : BlkOk X.N X.env.scope scope own) (hg : ∀ s H fp, PG (cxB X s H scope fp) tg g) (ht : ∀ s H fp, PTs (cxB X s H scope fp) ifs tt) (he : ∀ s H fp, PE (cxB X s H scope fp) elt te)
    (hs : ∀ x, foldedSetIterable iter X.env x = pure x := by intro _; rfl) : PE X (.SetComp elt [⟨tg, iter, ifs, 0⟩] scope pos) (tScG O0 add wi g tt te (own.map (·.2))) := by
  refine ⟨fun pins s σ H Q I h => ?_⟩
  rw [PpSet.eval_SetComp]
  refine wpAny_comprehension_free (use := none) rfl hs (closure_ok (blk_free I ok)) ok.kind (fun y hy e => by rw [ok.uniq y hy, e]) (thn (hi.run pins s σ H _ I h) fun xv sa hx => thn hx fun itv sb hb2 => ?_)
  obtain ⟨it, fp, tn, J, H2, rfl, I2, T, st2, f2, q⟩ := hb2
  refine PpSet.newSet_ok (newEnv_comp ?_)
  have fresh : H2 sb.heap.objs.size = none := I2.hok.fresh (Nat.le_refl _)
  obtain ⟨W, ⟨m0, w0⟩, turn⟩ := q sb.heap.objs.size fresh
  have I3 := I2.laid (t' := sb.toks) (fun b o e => Heap.get?_push_of_some _ e) (Nat.le_refl _) (hb _ sb.heap)
  have lt2 : ∀ b ∈ fp, b < sb.heap.objs.size := fun b hbm => by
    obtain ⟨o, e, _⟩ := T.obj _ _ st2 b hbm
    exact Heap.lt_size e
  obtain ⟨P, p0, turns⟩ := block_turns (stp := fun σ' H' N => te σ' H' fun y H5 => add y sb.heap.objs.size H5 N) (ifs := ifs) (NB := notedBy (model X.prog X.w) X.A (envB X _ scope) fun e s' => compPost (model X.prog X.w) X.A X.xe none (EP X pins σ Q) (.ref sb.heap.objs.size) _ (.error e) s')
    (stop := fun s' => compPost (model X.prog X.w) X.A X.xe none (EP X pins σ Q) (.ref sb.heap.objs.size) _ (.ok .next) s')
    (step := fun back s' => wpAny (model X.prog X.w) X.A (eval elt (envB X _ scope)) (fun v s4 => wpAny (model X.prog X.w) X.A (call (.builtin "set.add") [.ref sb.heap.objs.size, v]) (fun _ s5 => back s5) _ s4) _ s')
    hc hN I3 ok T (T.keep _ _ _ st2 fun b _ o e => Heap.get?_push_of_some _ e) (fun b hbm => ⟨⟨by rw [upd_ne (Nat.ne_of_lt (lt2 b hbm))]; exact (f2 b hbm).1, (f2 b hbm).2⟩, by rw [Heap.size_push]; exact Nat.lt_succ_of_lt (lt2 b hbm)⟩)
    (hg _ _ fp) (ht _ _ fp) (fun pins' s' σ' H' N K I' q' k => thnF ((he _ _ fp).run pins' s' σ' H' _ I' q') fun v s4 ⟨y, H4, I4, ry, a4⟩ => hadd _ _ fp pins' s4 σ' H4 _ _ y v N _ I4 ry a4 fun s5 H5 _ I5 n5 => k s5 H5 I5 n5)
    w0 turn (fun s' H' m I' qd hn hf => ⟨m, hn, fun h'' sb' => ⟨.ref _, H', I'.turned (t' := s'.toks) (fun b o hb' e => (sb'.2 b hb').trans e) hf.1 hf.2.1 hf.2.2.2.1 hf.2.2.2.2.1 hf.2.2.2.2.2, rfl, qd⟩⟩)
  have loop := PpSet.compLoopS_any (acc := .ref sb.heap.objs.size) (pos := pos) (iter := iter) (scope := scope) P turns m0 p0
  exact PpSet.codeAny_compStart_set loop (T.self X.A 0 _ _ _ (T.keep _ _ _ st2 fun b _ o e => pushCells_keeps _ _ _ _ (Heap.get?_push_of_some _ (Heap.get?_push_of_some _ e))) loop)
/-- a key and its value go into the dict that is being made -/
def PutR (X : Cx) (put : V → V → Addr → Hp → (Hp → Prop) → Prop) : Prop := ∀ (pins : List (Addr × Obj)) (s : Shared) (σ : L2.St) (H : Hp) (E : Value → Shared → Prop) (D : Addr) (y z : V) (u r : Value) (N : Hp → Prop) (Q : Unit → Shared → Prop),
  Inv X pins σ H s → RelV y u → RelV z r → put y z D H N → (∀ s' H', Inv X pins σ H' s' → N H' → Q () s') → wpAny (model X.prog X.w) X.A (dictSet D u r) Q E s
/-- a new dict is a thing of the kind O0 -/
def BornD (X : Cx) (O0 : Addr → HO) : Prop := ∀ (H : Hp) (h : Heap), sysModules < h.objs.size → ObjOk X.prog X.w H (h.push { cls := .type "dict", data := .dict #[] }) h.objs.size (O0 h.objs.size)
/-- {k: e for t in xs if ..} -/
def tDcG (O0 : Addr → HO) (put : V → V → Addr → Hp → (Hp → Prop) → Prop) (wi : TI) (g : TG) (tt : TT) (tk te : TE) (vs : List Nat) : TE := fun σ H Q => wi σ H fun J H1 => ∀ D, H1 D = none → ∃ W : Nat → Nat → Hp → Prop, (∃ m, W 0 m (upd H1 D (O0 D))) ∧
  ∀ i m H', W i m H' → (J.stop i H' ∧ Q (.ref D) H') ∨ (J.go i H' ∧ ∃ N : Hp → Prop, (∀ H2, N H2 → ∃ m', m' < m ∧ W (i + 1) m' H2) ∧
    ∀ x H2, J.yld i H' x H2 → g x (wipe σ vs) H2 fun σ3 H3 => wipe σ3 vs = wipe σ vs ∧ tt σ3 H3 fun b H4 => if b = true then tk σ3 H4 fun y H5 => te σ3 H5 fun z H6 => put y z D H6 N else N H4)
theorem pe_dcG {O0 : Addr → HO} {put : V → V → Addr → Hp → (Hp → Prop) → Prop} {kx vx tg iter : Expr} {ifs : List Expr} {scope : Scope} {own : List (Str × Nat)} {pos : Pos} {wi : TI} {g : TG} {tt : TT} {tk te : TE} (hb : BornD X O0) (hput : ∀ s H fp, PutR (cxB X s H scope fp) put)
    (hc : X.calm = true) (hN : X.N.Nodup) (hi : PI X tg iter wi) (ok : BlkOk X.N X.env.scope scope own) (hg : ∀ s H fp, PG (cxB X s H scope fp) tg g) (ht : ∀ s H fp, PTs (cxB X s H scope fp) ifs tt) (hk : ∀ s H fp, PE (cxB X s H scope fp) kx tk) (he : ∀ s H fp, PE (cxB X s H scope fp) vx te)
    (hs : ∀ x, foldedSetIterable iter X.env x = pure x := by intro _; rfl) : PE X (.DictComp kx vx [⟨tg, iter, ifs, 0⟩] scope pos) (tDcG O0 put wi g tt tk te (own.map (·.2))) := by
  refine ⟨fun pins s σ H Q I h => ?_⟩
  rw [arm_eval_DictComp]
  refine wpAny_comprehension_free (use := none) rfl hs (closure_ok (blk_free I ok)) ok.kind (fun y hy e => by rw [ok.uniq y hy, e]) (thn (hi.run pins s σ H _ I h) fun xv sa hx => thn hx fun itv sb hb2 => ?_)
  obtain ⟨it, fp, tn, J, H2, rfl, I2, T, st2, f2, q⟩ := hb2
  refine wpAny_newObj_type (newEnv_comp ?_)
  have fresh : H2 sb.heap.objs.size = none := I2.hok.fresh (Nat.le_refl _)
  obtain ⟨W, ⟨m0, w0⟩, turn⟩ := q sb.heap.objs.size fresh
  have I3 := I2.laid (t' := sb.toks) (fun b o e => Heap.get?_push_of_some _ e) (Nat.le_refl _) (hb _ sb.heap I2.big)
  have lt2 : ∀ b ∈ fp, b < sb.heap.objs.size := fun b hbm => by
    obtain ⟨o, e, _⟩ := T.obj _ _ st2 b hbm
    exact Heap.lt_size e
  obtain ⟨P, p0, turns⟩ := block_turns (stp := fun σ' H' N => tk σ' H' fun y H5 => te σ' H5 fun z H6 => put y z sb.heap.objs.size H6 N) (ifs := ifs) (NB := notedBy (model X.prog X.w) X.A (envB X _ scope) fun e s' => compPost (model X.prog X.w) X.A X.xe none (EP X pins σ Q) (.ref sb.heap.objs.size) _ (.error e) s')
    (stop := fun s' => compPost (model X.prog X.w) X.A X.xe none (EP X pins σ Q) (.ref sb.heap.objs.size) _ (.ok .next) s')
    (step := fun back s' => wpAny (model X.prog X.w) X.A (eval kx (envB X _ scope)) (fun kv s4 => wpAny (model X.prog X.w) X.A (eval vx (envB X _ scope)) (fun v s5 => wpAny (model X.prog X.w) X.A (dictSet sb.heap.objs.size kv v) (fun _ s6 => back s6) _ s5) _ s4) _ s')
    hc hN I3 ok T (T.keep _ _ _ st2 fun b _ o e => Heap.get?_push_of_some _ e) (fun b hbm => ⟨⟨by rw [upd_ne (Nat.ne_of_lt (lt2 b hbm))]; exact (f2 b hbm).1, (f2 b hbm).2⟩, by rw [Heap.size_push]; exact Nat.lt_succ_of_lt (lt2 b hbm)⟩)
    (hg _ _ fp) (ht _ _ fp) (fun pins' s' σ' H' N K I' q' k => thnF ((hk _ _ fp).run pins' s' σ' H' _ I' q') fun kv s4 ⟨y, H4, I4, ry, a4⟩ => thnF ((he _ _ fp).run pins' s4 σ' H4 _ I4 a4) fun v s5 ⟨z, H5, I5, rz, a5⟩ =>
      hput _ _ fp pins' s5 σ' H5 _ _ y z kv v N _ I5 ry rz a5 fun s6 H6 I6 n6 => k s6 H6 I6 n6)
    w0 turn (fun s' H' m I' qd hn hf => ⟨m, hn, fun h'' sb' => ⟨.ref _, H', I'.turned (t' := s'.toks) (fun b o hb' e => (sb'.2 b hb').trans e) hf.1 hf.2.1 hf.2.2.2.1 hf.2.2.2.2.1 hf.2.2.2.2.2, rfl, qd⟩⟩)
  have loop := compLoop_anyD (pos := pos) (iter := iter) (scope := scope) P turns m0 p0
  exact codeAny_compStart_dict loop (T.self X.A 0 _ _ _ (T.keep _ _ _ st2 fun b _ o e => pushCells_keeps _ _ _ _ (Heap.get?_push_of_some _ (Heap.get?_push_of_some _ e))) loop)
end
end Rp

/-! Sets of whole numbers: made by a comprehension, by set(xs); len, sorted. -/
namespace Rp
open PySem PySem.Spec PyProof.Rows L2
section
variable {X : Cx}
/-- how a set of numbers takes one -/
def addI (w : World) : V → Addr → Hp → (Hp → Prop) → Prop := fun y D H N => ∃ (k : Int) (S : Int → Bool) (n : Nat), y = .int k ∧ H D = some (SetO w D S n) ∧ n + 1 < scanBound ∧ N (upd H D (SetO w D (fun j => S j || decide (j = k)) (if S k = true then n else n + 1)))
theorem addI_ok {w : World} (hw : X.w = w) : AddR X (addI w) := by
  subst hw
  rintro pins s σ H E D y u N Q I ru ⟨k, S, n, rfl, hD, hz, hn⟩ hq
  obtain ⟨tk, rfl⟩ := ru
  refine setR_add (setO_get I hD) hz fun h' same now => hq _ _ _ (I.write (e := D) (t' := s.toks + 1) (by rw [hD]; trivial) (.inl rfl) (fun b o hb e => (same.2 b hb).trans e) ?_ (setO_new now)) hn
  obtain ⟨o, _, _, _, ho, _⟩ := now
  exact ⟨o, ho⟩
theorem bornI {w : World} (hw : X.w = w) : BornS X fun D => SetO w D (fun _ => false) 0 := by
  subst hw
  exact fun H h => setO_new (setR_fresh X.w)
end

/-! ### set(xs) of a list: what fills it is left open -/
section
variable {P : Program} {w : World} {A : Around} {E : Value → Shared → Prop} {s : Shared}
abbrev newS (w : World) : Obj := { cls := .type "set", dict := none, data := .set #[] 0 (.fresh 0 0 (!w.params.followText "set-order")) }
/-- the heap as the filling of the new set begins: behind s stand the set and the list's iterator -/
abbrev fillAt (w : World) (s : Shared) (l : Addr) : Shared := { s with heap := (s.heap.push (newS w)).push { cls := .type "list_iterator", data := .fields #[.ref l, .int 0 0] } }
set_option maxHeartbeats 3200000 in
theorem set_of_list {l : Addr} {items : Array Value} {Q : Value → Shared → Prop} (hh : A.handled = none) (hl : s.heap.IsList l items)
    (fill : ∀ A' : Around, A'.in1.handled = none → A'.in1.units = A.units + 3 → codeAny (model P w) A' (.builtin "set.update.loop" ⟨[.ref s.heap.objs.size, .ref (s.heap.objs.size + 1)], []⟩) (fun r s' => r = .ok (.ret .none) ∧ Q (.ref s.heap.objs.size) s') (fillAt w s l)) :
    wpAny (model P w) A (call (.type "set") [.ref l]) Q E s := by
  obtain ⟨c, tl, hmro⟩ := F.called_set.mro
  have f1 := F.called_set.made
  have f2 := F.called_set.sub
  have f3 := F.called_set.notType
  have f4 := F.called_set.canCreate
  have f5 := F.typeCall_set_1 (.ref l)
  refine wpAny_call (codeAny_of_tree (?_ : wpAny _ _ (callAny (.type "set") _) _ _ _))
  refine wpAny_pure ⟨Code.quiet_builtin _ (by decide +kernel), codeAny_builtin F.entry_type_call ?_⟩
  rw [Around.under_plain (weight_type_call_type "set" [.ref l] []) rfl]
  repeat (any_goals (first | assumption | wp_step))
  refine codeAny_mono (code_set_led1 (.ref l) (E := E) (Q₁ := fun v s' => v = .ref s.heap.objs.size ∧ s' = { s with heap := s.heap.push (newS w) }) ⟨rfl, rfl⟩) ?_
  rintro (e | fl) s1 h1
  · exact h1
  · cases fl with
    | ret v =>
      obtain ⟨rfl, rfl⟩ := h1
      have stands : (s.heap.push (newS w)).get? s.heap.objs.size = some (newS w) := Heap.get?_push_size _ rfl
      have isSet : Shared.TypeIs { s with heap := s.heap.push (newS w) } (.ref s.heap.objs.size) "set" := ⟨_, stands, rfl⟩
      have i1 := F.called_set.init.lookup
      have i2 := F.called_set.init.bind (.ref s.heap.objs.size)
      repeat (any_goals (first | assumption | wp_step))
      refine codeAny_mono (codeAny_call_builtin (R := wants (fun v s' => v = .none ∧ Q (.ref s.heap.objs.size) s') E) F.called_set.init.plain F.entry_set_init (check_set_init_1 isSet ?_)) ?_
      · obtain ⟨⟨ocls, odict, odata, oslots⟩, hol, hcl, nl, hdl⟩ := hl
        simp only at hcl hdl
        subst hcl hdl
        have there : (s.heap.push (newS w)).get? l = some { cls := .type "list", dict := odict, data := .seq items nl, slots := oslots } := Heap.get?_push_of_some _ hol
        have n1 := F.sub_list_set
        have n2 := F.sub_list_frozenset
        have n3 : (Value.type "list" == Value.type "dict") = false := by decide
        unfold Builtin.«set.__init__» noKeywords Builtin.Frozenset.updateFrom
        generalize hPI : pyIter = PI
        wp_walk
        subst hPI
        refine wpAny_pyIter_list ⟨_, there, rfl, nl, rfl⟩ (wpAny_bind (wpAny_runValue ?_))
        have size1 : (s.heap.push (newS w)).objs.size = s.heap.objs.size + 1 := Heap.size_push ..
        rw [size1]
        refine codeAny_mono (fill _ (by simp [hh]) (by simp)) ?_
        rintro r s2 ⟨rfl, q⟩
        exact wpAny_pure (wpAny_pure ⟨rfl, q⟩)
      · rintro (e | fl) s2 h2
        · exact h2
        · cases fl with
          | ret v =>
            obtain ⟨rfl, q⟩ := h2
            repeat (any_goals (first | assumption | wp_step))
          | _ => exact h2.elim
    | _ => exact h1.elim
end
end Rp

/-! Sets of whole numbers: set(xs), len, sorted. -/
namespace Rp
open PySem PySem.Spec PyProof.Rows L2
section
variable {P : Program} {w : World} {A : Around} {E : Value → Shared → Prop} {s : Shared}
theorem none_from {h : Heap} {b : Addr} (hb : h.objs.size ≤ b) : h.get? b = none := by
  cases q : h.get? b with
  | none => rfl
  | some o => exact absurd (Nat.lt_of_lt_of_le (Heap.lt_size q) hb) (Nat.lt_irrefl _)
/-- what stood at s stands where the filling begins -/
theorem fill_old {l b : Addr} {o : Obj} (e : s.heap.get? b = some o) : (fillAt w s l).heap.get? b = some o := Heap.get?_push_of_some _ (Heap.get?_push_of_some _ e)
theorem fill_set {l : Addr} : (fillAt w s l).heap.get? s.heap.objs.size = some (newS w) := Heap.get?_push_of_some _ (Heap.get?_push_size _ rfl)
theorem fill_it {l : Addr} {items : Array Value} (hl : s.heap.IsList l items) : (fillAt w s l).heap.IsListIter (s.heap.objs.size + 1) l 0 ∧ (fillAt w s l).heap.IsList l items := by
  refine ⟨⟨{ cls := .type "list_iterator", data := .fields #[.ref l, .int 0 0] }, ?_, rfl, rfl⟩, ?_⟩
  · have e : (s.heap.push (newS w)).objs.size = s.heap.objs.size + 1 := Heap.size_push ..
    rw [← e]
    exact Heap.get?_push_size _ rfl
  · obtain ⟨o, ho, r⟩ := hl
    exact ⟨o, fill_old ho, r⟩
theorem set_of_ints {l : Addr} {items : Array Value} (ns : List Int) {Q : Value → Shared → Prop} (hh : A.handled = none) (hl : s.heap.IsList l items) (hi : IntsAre items.toList ns) (hb : ns.length + 1 < scanBound)
    (h : ∀ (h' : Heap) (tk c : Nat), SetR w h' s.heap.objs.size (fun j => decide (j ∈ ns)) c → c ≤ ns.length → (∀ b o, s.heap.get? b = some o → h'.get? b = some o) → Q (.ref s.heap.objs.size) { s with heap := h', toks := tk }) :
    wpAny (model P w) A (call (.type "set") [.ref l]) Q E s := by
  refine set_of_list hh hl fun A' hA _ => ?_
  have hlt : l < s.heap.objs.size := by obtain ⟨o, ho, _⟩ := hl; exact Heap.lt_size ho
  have hsz : items.size = ns.length := by have q := IntsAre.length hi; rwa [Array.length_toList] at q
  have apart : s.heap.objs.size ∉ [s.heap.objs.size + 1, l] := by
    simp only [List.mem_cons, List.not_mem_nil, or_false, not_or]
    exact ⟨Nat.ne_of_lt (Nat.lt_succ_self _), Nat.ne_of_gt hlt⟩
  refine set_update_ints ((Walks.list hA (s.heap.objs.size + 1) l (Nat.ne_of_lt (Nat.lt_succ_of_lt hlt)) items).toS) s.heap.objs.size apart ns hsz hb (fun i v hv => ?_) (items.size - 0) 0 _ (by omega) (Nat.zero_le _) (fill_it hl) ⟨0, Nat.le_refl _, setR_new_at fill_set⟩ fun s' c hm hc hS => ⟨rfl, ?_⟩
  · have hi2 : i < ns.length := by rw [← hsz]; exact (Array.getElem?_eq_some_iff.mp hv).1
    obtain ⟨t, e⟩ := PyProof.Rows.IntsAre.int_at hi i v (by rw [Array.getElem?_toList]; exact hv)
    refine ⟨ns[i], t, List.getElem?_eq_getElem hi2, ?_⟩
    rw [e, List.getD_eq_getElem?_getD, List.getElem?_eq_getElem hi2] <;> rfl
  · obtain ⟨h', g, d, tk, os⟩ := s'
    have e1 : g = s.gens := hm.gens
    have e2 : d = s.drawn := hm.drawn
    have e3 : os = s.os := hm.os
    subst e1 e2 e3
    refine h h' tk c hS (by rw [← hsz]; exact hc) fun b o e => hm.heap b o ?_ (fill_old e)
    have hb0 : b < s.heap.objs.size := Heap.lt_size e
    simp only [List.mem_cons, List.not_mem_nil, or_false, not_or]
    exact ⟨Nat.ne_of_lt hb0, Nat.ne_of_lt (Nat.lt_succ_of_lt hb0)⟩
end
section
variable {X : Cx}
/-- set(xs), xs a list of numbers -/
def rSetL (K : PySem.W.Frag) (w : World) : List V → Hp → VK → Prop := fun xs H Q => ∃ (l : Addr) (ns : List Int), xs = [.ref l] ∧ SqL K H l (ns.map V.int) ∧ ns.length ≤ 1000 ∧ ∀ p c, H p = none → c ≤ ns.length → Q (.ref p) (upd H p (SetO w p (fun j => decide (j ∈ ns)) c))
theorem cr_setL (K : PySem.W.Frag) (w : World) (hc : X.calm = true := by rfl) (hK : X.K = K := by rfl) (hw : X.w = w := by rfl) : CallR X (.type "set") (rSetL K w) := by
  subst hK hw
  rintro pins s σ H xs us Q I r ⟨l, ns, rfl, hl, hz, q⟩
  rw [Vals.ref1 r]
  obtain ⟨its, rv, pl, _⟩ := I.list hl
  refine set_of_ints ns (I.ok.hd hc) pl.isList (by simpa using RZ.intsAre_vals rv) (Nat.lt_of_le_of_lt (Nat.succ_le_succ hz) (by decide)) fun h' tk c R hc k => ?_
  exact ⟨.ref _, _, I.laid (t' := tk) k (Nat.le_refl _) (setO_new R), rfl, q _ c (I.hok.fresh (Nat.le_refl _)) hc⟩
/-- len of a set of numbers -/
def rLenSet (w : World) : List V → Hp → VK → Prop := fun xs H Q => ∃ (a : Addr) (S : Int → Bool) (n : Nat), xs = [.ref a] ∧ H a = some (SetO w a S n) ∧ ∀ ks : List Int, ks.Nodup → (∀ k, k ∈ ks ↔ S k = true) → Q (.int ks.length) H
theorem cr_lenSet (w : World) (hw : X.w = w := by rfl) : CallR X (.builtin "len") (rLenSet w) := by
  subst hw
  rintro pins s σ H xs us Q I r ⟨a, S, n, rfl, ha, q⟩
  rw [Vals.ref1 r]
  obtain ⟨o, es, ep, t, ho, hex, hd, g, nd, hm, hb, hf, hn, _⟩ := setO_get I ha
  have q' := q (es.toList.map keyOf) nd fun k => (hm k).symm
  rw [List.length_map, Array.length_toList] at q'
  exact call_len_set ho hex hd hf (by unfold scanBound at hb; omega) ⟨.int es.size, H, I.tok _, ⟨_, rfl⟩, q'⟩
theorem csortset (w : World) (hc : X.calm = true := by rfl) (hw : X.w = w := by rfl) : CallR X (.builtin "sorted") (rSortedSet w) := hw ▸ cr_sortedSet hc
end
/-! ### in plain words -/
/-- the numbers of L, each once, ascending -/
def asc (L : List Nat) : List Nat := (List.range (L.foldr max 0 + 1)).filter fun x => decide (x ∈ L)
theorem le_fold {L : List Nat} {x : Nat} (h : x ∈ L) : x ≤ L.foldr max 0 := by
  induction L with
  | nil => cases h
  | cons y ys ih =>
    rw [List.foldr_cons]
    rcases List.mem_cons.mp h with e | h
    · rw [e]; exact Nat.le_max_left _ _
    · exact Nat.le_trans (ih h) (Nat.le_max_right _ _)
theorem mem_asc {L : List Nat} {x : Nat} : x ∈ asc L ↔ x ∈ L := by
  unfold asc
  rw [List.mem_filter, List.mem_range, decide_eq_true_eq]
  exact ⟨fun h => h.2, fun h => ⟨Nat.lt_succ_of_le (le_fold h), h⟩⟩
theorem asc_pw (L : List Nat) : (asc L).Pairwise (· < ·) := List.Pairwise.filter _ List.pairwise_lt_range
theorem asc_unique : ∀ {l1 l2 : List Nat}, l1.Pairwise (· < ·) → l2.Pairwise (· < ·) → (∀ x, x ∈ l1 ↔ x ∈ l2) → l1 = l2
  | [], [], _, _, _ => rfl
  | [], y :: ys, _, _, h => absurd ((h y).mpr (by simp)) (by simp)
  | x :: xs, [], _, _, h => absurd ((h x).mp (by simp)) (by simp)
  | x :: xs, y :: ys, h1, h2, h => by
    obtain ⟨a1, a2⟩ := List.pairwise_cons.mp h1
    obtain ⟨b1, b2⟩ := List.pairwise_cons.mp h2
    have e : x = y := by
      rcases List.mem_cons.mp ((h x).mp (by simp)) with e | hx
      · exact e
      · rcases List.mem_cons.mp ((h y).mpr (by simp)) with e | hy
        · exact e.symm
        · have := a1 y hy
          have := b1 x hx
          omega
    subst e
    rw [asc_unique a2 b2 fun z => ?_]
    constructor
    · intro hz
      rcases List.mem_cons.mp ((h z).mp (by simp [hz])) with e | q
      · subst e; exact absurd (a1 z hz) (Nat.lt_irrefl _)
      · exact q
    · intro hz
      rcases List.mem_cons.mp ((h z).mpr (by simp [hz])) with e | q
      · subst e; exact absurd (b1 z hz) (Nat.lt_irrefl _)
      · exact q
theorem asc_self {L : List Nat} (h : L.Pairwise (· < ·)) : asc L = L := asc_unique (asc_pw L) h fun _ => mem_asc
theorem asc_length (L : List Nat) : (asc L).length ≤ L.length := by
  have nd : (asc L).Nodup := (asc_pw L).imp fun h => Nat.ne_of_lt h
  exact L2.nat_nodup_len _ _ nd fun x hx => mem_asc.mp hx
end Rp

/-! Sets of numbers, evaluated. -/
namespace Rp
open PySem PySem.Spec PyProof.Rows L2
theorem pw_unique {α : Type} {lt : α → α → Prop} (irr : ∀ x, ¬ lt x x) (tr : ∀ x y, lt x y → ¬ lt y x) : ∀ {l1 l2 : List α}, l1.Pairwise lt → l2.Pairwise lt → (∀ x, x ∈ l1 ↔ x ∈ l2) → l1 = l2
  | [], [], _, _, _ => rfl
  | [], y :: ys, _, _, h => absurd ((h y).mpr (by simp)) (by simp)
  | x :: xs, [], _, _, h => absurd ((h x).mp (by simp)) (by simp)
  | x :: xs, y :: ys, h1, h2, h => by
    obtain ⟨a1, a2⟩ := List.pairwise_cons.mp h1
    obtain ⟨b1, b2⟩ := List.pairwise_cons.mp h2
    have e : x = y := by
      rcases List.mem_cons.mp ((h x).mp (by simp)) with e | hx
      · exact e
      · rcases List.mem_cons.mp ((h y).mpr (by simp)) with e | hy
        · exact e.symm
        · exact absurd (b1 x hx) (tr _ _ (a1 y hy))
    subst e
    rw [pw_unique irr tr a2 b2 fun z => ?_]
    constructor
    · intro hz
      rcases List.mem_cons.mp ((h z).mp (by simp [hz])) with e | q
      · subst e; exact absurd (a1 z hz) (irr z)
      · exact q
    · intro hz
      rcases List.mem_cons.mp ((h z).mpr (by simp [hz])) with e | q
      · subst e; exact absurd (b1 z hz) (irr z)
      · exact q
/-- L as whole numbers -/
abbrev zs (L : List Nat) : List Int := L.map fun n : Nat => (n : Int)
theorem zs_V (L : List Nat) : (zs L).map V.int = L.map fun n : Nat => V.int (n : Int) := by simp [zs, Function.comp_def]
theorem asc_zs {L : List Nat} {ns : List Int} (h : ns.Pairwise (· < ·)) (hm : ∀ k, k ∈ ns ↔ k ∈ zs L) : ns = zs (asc L) := by
  refine pw_unique (lt := (· < ·)) (fun x => Int.lt_irrefl x) (fun x y h => Int.not_lt.mpr (Int.le_of_lt h)) h (List.pairwise_map.mpr ((asc_pw L).imp fun h => by omega)) fun k => ?_
  rw [hm]
  simp only [zs, List.mem_map, mem_asc]
section
variable {α β : Type} {r : R α} {q : R β} {K : PySem.W.Frag} {w : World} {σ : L2.St} {H H' : Hp} {M : List Addr} {ta tb te tl : TE} {t u tt tt1 : TT} {P P' : Pr} {x : α} {y : β} {v : V} {i j j1 : Nat} {g : TG}
/-- a new set with the numbers of L -/
abbrev setP (w : World) (H : Hp) (L : List Nat) : Pr := fun H1 v => ∃ (D : Addr) (n : Nat), v = .ref D ∧ H D = none ∧ H1 D = some (SetO w D (fun k => decide (k ∈ zs L)) n) ∧ n ≤ L.length
/-- {e for x in xs} -/
theorem ev_scI [Rep r] {vs : List Nat} {xs : List α} (d : Old M H) (gg : α → Nat) (hl : Ev tl σ H (as (rL r) M xs)) (hz : xs.length ≤ 1000) (hw : ∀ x, wipe ((wipe σ vs).set j (some x)) vs = wipe σ vs)
    (he : ∀ M' H1 v x, Up M H M' H1 → x ∈ xs → r M' H1 v x → Ev te ((wipe σ vs).set j (some v)) H1 (as rN M' (gg x))) :
    Ev (tScG (fun D => SetO w D (fun _ => false) 0) (addI w) (iList K tl) (gName j) tYes te vs) σ H (setP w H (xs.map gg)) := fun H0 s0 Q k =>
  hl H0 s0 _ fun l H1 s1 ⟨a, ws, e, n, g, z⟩ => by
    subst e
    have s01 := s0.trans s1
    have d1 : Old M H1 := d.same s01
    refine ⟨a, rfl, ⟨ws, SqL.of g⟩, fun Dl hD => ?_⟩
    refine ⟨fun i m H' => m = ws.length - i ∧ i ≤ ws.length ∧ Same H1 H' ∧ ∃ c, c ≤ i ∧ H' Dl = some (SetO w Dl (fun k => decide (k ∈ zs ((xs.take i).map gg))) c), ⟨ws.length, by simp, Nat.zero_le _, Same.new (Same.refl _) hD, 0, Nat.le_refl _, by simpa using upd_same⟩, ?_⟩
    rintro i m H' ⟨rfl, hi, sH, c, hc, gD⟩
    have sq : SqL K H' a ws := SqL.of (sH a _ g)
    by_cases hlt : i < ws.length
    · obtain ⟨x, hx, rx⟩ := z.get (List.getElem?_eq_getElem hlt)
      have hil : i < xs.length := (List.getElem?_eq_some_iff.mp hx).1
      refine .inr ⟨⟨ws, ws[i], sq, List.getElem?_eq_getElem hlt⟩, fun H2 => Same H1 H2 ∧ ∃ c, c ≤ i + 1 ∧ H2 Dl = some (SetO w Dl (fun k => decide (k ∈ zs ((xs.take (i + 1)).map gg))) c), fun H2 p2 => ⟨ws.length - (i + 1), by omega, rfl, hlt, p2⟩, fun v H2 yl => ?_⟩
      obtain ⟨e1, yv⟩ := yl
      subst e1
      have ev := yv ws sq
      rw [List.getElem?_eq_getElem hlt] at ev
      cases ev
      refine ⟨hw _, ?_⟩
      refine tYes_if ?_
      have up : Up M H1 (Dl :: M) H2 := Up.add d1 hD sH gD
      have up0 : Up M H (Dl :: M) H2 := ⟨s01.trans up.same, up.sub, fun h => up.lift (Rep.same s01 h), up.old⟩
      refine he _ H2 _ x up0 (List.mem_of_getElem? hx) (up.lift rx) H2 (Same.refl _) _ fun y H3 s3 e => ?_
      obtain rfl : y = .int ((gg x : Nat) : Int) := e
      refine ⟨_, _, c, rfl, s3 _ _ gD, Nat.lt_of_le_of_lt (show c + 1 ≤ 1001 by omega) (by decide), Same.mut (sH.trans s3) hD, _, ?_, by
        rw [upd_same]
        congr 2
        funext k
        rw [List.take_add_one, hx]
        simp [zs]⟩
      split <;> omega
    · have e : i = ws.length := by omega
      subst e
      have c' := gD
      rw [z.length, List.take_length] at c'
      exact .inl ⟨⟨ws, sq, Nat.le_refl _⟩, k _ H' (s1.trans sH) ⟨Dl, c, rfl, s01.free hD, c', by rw [List.length_map, ← z.length]; exact hc⟩⟩
theorem ev_sortset {L : List Nat} (ha : Ev ta σ H (setP w H L)) (hz : L.length < 64) : Ev (tCB (rSortedSet w) (tCons ta tNil)) σ H (asNew rN M H (asc L)) :=
  ev_cb1 ha fun H1 v s ⟨D, n, e, hD, g, hn⟩ Q k => ⟨D, _, n, by rw [e], g, by omega, fun ns p hp hm hl hpn => by
    have e2 : ns = zs (asc L) := asc_zs hp fun k => by rw [hm]; simp
    subst e2
    rw [zs_V]
    exact k _ _ (Same.new (Same.refl _) hpn) ⟨p, _, rfl, s.free hpn, upd_same, rN.F2⟩⟩
theorem ev_tupS [Rep r] {xs : List α} (d : Old M H) (ha : Ev ta σ H (as (rL r) M xs)) : Ev (tCB (rTupS K) (tCons ta tNil)) σ H (as (rT r) M xs) :=
  ev_cb1 ha fun H1 v s ⟨a, vs, e, n, g, f⟩ Q k => ⟨a, vs, by rw [e], .inl ⟨SqL.of g, fun l hl => by
    have s1 : Same H1 (upd H1 l (.tup vs)) := Same.new (Same.refl _) hl
    exact k _ _ s1 ⟨l, vs, rfl, (d.same s).fresh hl, upd_same, F2.same s1 f⟩⟩⟩
/-- list(t) of a tuple -/
theorem ev_listT [Rep r] {xs : List α} (d : Old M H) (ha : Ev ta σ H (as (rT r) M xs)) : Ev (tCB (rListS K) (tCons ta tNil)) σ H (as (rL r) M xs) :=
  ev_cb1 ha fun H1 v s ⟨a, vs, e, n, g, f⟩ Q k => ⟨a, vs, by rw [e], .inr (SqT.of g), fun l hl => by
    have s1 : Same H1 (upd H1 l (.lst vs)) := Same.new (Same.refl _) hl
    exact k _ _ s1 ⟨l, vs, rfl, (d.same s).fresh hl, upd_same, F2.same s1 f⟩⟩
/-- set(xs) of numbers -/
theorem ev_setL {L : List Nat} (ha : Ev ta σ H (as (rL rN) M L)) (hz : L.length ≤ 1000) : Ev (tCB (rSetL K w) (tCons ta tNil)) σ H (setP w H L) :=
  ev_cb1 ha fun H1 v s ⟨a, vs, e, n, g, f⟩ Q k => ⟨a, zs L, by rw [e], by rw [zs_V, ← rN.map f]; exact SqL.of g, by simpa using hz, fun p c hp hc => k _ _ (Same.new (Same.refl _) hp) ⟨p, c, rfl, s.free hp, upd_same, by simpa using hc⟩⟩
/-- len of a set -/
theorem ev_lenset {L : List Nat} (ha : Ev ta σ H (setP w H L)) : Ev (tCB (rLenSet w) (tCons ta tNil)) σ H (as rN M (asc L).length) :=
  ev_cb1 ha fun H1 v s ⟨D, n, e, hD, g, hn⟩ Q k => ⟨D, _, n, by rw [e], g, fun ks nd hm => k _ H1 (Same.refl _) (by
    show V.int _ = V.int _
    congr 2
    have h1 : ks.Perm (zs (asc L)) := (List.perm_ext_iff_of_nodup nd (List.pairwise_map.mpr ((asc_pw L).imp fun h e => by omega))).mpr fun k => by
      rw [hm, decide_eq_true_eq]
      simp only [zs, List.mem_map, mem_asc]
    rw [h1.length_eq, List.length_map])⟩
end
end Rp

/-! Sets whose members are tuples of any kind of key (HeapKind): searched, added to, laid anew, filled from a list, sorted. -/
namespace Rp
open PySem PySem.Spec PyProof.Rows L2
section
variable {P : Program} {w : World} {Kk : Type} [DecidableEq Kk]
/-- what a set asks of its members beside what a dict does -/
structure Fits (knd : HeapKind P w Kk) : Prop where
  hashed : ∀ {A : Around} {E : Value → Shared → Prop} {s : Shared} {k : Kk} {b : Addr} {Q : Bool → Shared → Prop}, knd.is s.heap k b → Q true s → wpAny (model P w) A (hashByValue 8 (.ref b)) Q E s
  bare : ∀ {A : Around} {E : Value → Shared → Prop} {s : Shared} {k : Kk} {b : Addr} {Q : Bool → Shared → Prop}, knd.is s.heap k b → Q false s → wpAny (model P w) A (ofAClassStatement 8 (.ref b)) Q E s
  stays : ∀ {h h' : Heap} {k : Kk} {b : Addr}, (∀ c o vs n, h.get? c = some o → o.data = .seq vs n → h'.get? c = some o) → knd.is h k b → knd.is h' k b
variable {knd : HeapKind P w Kk} {A : Around} {E : Value → Shared → Prop} {s : Shared}
/-- looking at other members is seen by none of them -/
theorem Fits.unseen (F0 : Fits knd) {k : Kk} {b : Addr} {Q : Bool → Shared → Prop} (hb : knd.is s.heap k b) {ys : List Value} (hy : ∀ y ∈ ys, ∃ k' c, y = Value.ref c ∧ knd.is s.heap k' c) (h : Q false s) : wpAny (model P w) A (searchCouldBeSeen (.ref b) ys) Q E s := by
  unfold searchCouldBeSeen
  refine wpAny_bind (wpAny_forIn_list _ (fun rest acc s' => acc.1 = none ∧ s' = s ∧ ∀ y ∈ rest, ∃ k' c, y = Value.ref c ∧ knd.is s.heap k' c) _ ?_ ?_ _ _ ⟨rfl, rfl, hy⟩)
  · rintro y rest acc s' ⟨e0, rfl, all⟩
    obtain ⟨k', c, rfl, hc⟩ := all y List.mem_cons_self
    have tail : ∀ u ∈ rest, ∃ k' c, u = Value.ref c ∧ knd.is s'.heap k' c := fun u hu => all u (List.mem_cons_of_mem _ hu)
    dsimp only
    cases hv : (b == c || (carriedByValue (.ref b) && carriedByValue (.ref c))) with
    | true => exact wp_if_pos rfl (wpAny_pure ⟨rfl, rfl, tail⟩)
    | false =>
      refine wp_if_neg Bool.false_ne_true (wpAny_bind (knd.quiet hb ?_))
      simp only [Bool.not_true, Bool.false_eq_true, if_false]
      refine wpAny_bind (knd.quiet hc ?_)
      simp only [Bool.not_true, Bool.false_eq_true, if_false]
      refine wpAny_bind (F0.bare hb ?_)
      simp only [Bool.false_eq_true, if_false]
      refine wpAny_bind (F0.bare hc ?_)
      simp only [Bool.false_eq_true, if_false]
      exact wpAny_pure ⟨rfl, rfl, tail⟩
  · rintro ⟨a1, a2⟩ s' ⟨e0, rfl, _⟩
    simp only at e0
    subst e0
    exact wpAny_pure h

/-- a row of the set -/
abbrev entN (knd : HeapKind P w Kk) (p : Addr × Kk) : Int × Value := (knd.hash p.2, Value.ref p.1)
/-- the set at a has the members L, in the order of its table -/
structure SetN (knd : HeapKind P w Kk) (h : Heap) (a : Addr) (L : List (Addr × Kk)) (es : Array (Int × Value)) (ep : Nat) (t : SetTable) : Prop where
  obj : ∃ o, h.get? a = some o ∧ o.ExactSet ∧ o.data = .set es ep t
  rows : es.toList = L.map (entN knd)
  tab : TabOk t (L.map fun p => knd.hash p.2)
  once : (L.map (·.2)).Nodup
  plain : t.plain = true
  led : w.params.followText "set-order" = true ∨ t.led = true
  room : L.length * 5 < t.mask * 3
  few : L.length < 64
variable {a : Addr} {L : List (Addr × Kk)} {es : Array (Int × Value)} {ep : Nat} {t : SetTable}
theorem SetN.size {h : Heap} (R : SetN knd h a L es ep t) : es.size = L.length := by
  rw [← Array.length_toList, R.rows, List.length_map]
theorem SetN.fits {h : Heap} (R : SetN knd h a L es ep t) : t.fits es.size = true := by
  have h1 : t.place.size = L.length := by rw [R.tab.sz, List.length_map]
  have h2 := R.room
  rw [R.size]
  unfold SetTable.fits SetTable.fill
  rw [R.tab.dm, h1, Bool.and_eq_true, beq_iff_eq, decide_eq_true_eq]
  exact ⟨rfl, by show L.length + 0 ≤ t.mask; omega⟩
theorem SetN.row {h : Heap} (R : SetN knd h a L es ep t) {i : Nat} {p : Addr × Kk} (e : L[i]? = some p) : es[i]? = some (entN knd p) := by
  rw [← Array.getElem?_toList, R.rows, List.getElem?_map, e]
  rfl
theorem SetN.steady {h : Heap} (R : SetN knd h a L es ep t) : ¬ t.gaveWay = true := by
  unfold SetTable.gaveWay
  rw [mask_odd R.tab.mok]
  decide
theorem nth_plain (m : Nat) : ∀ (n : Nat) (p : SetTable.Probe), p.dummy = none → (nth m p n).dummy = none
  | 0, p, h => h
  | n + 1, p, h => nth_plain m n (adv m p) (by unfold adv; split <;> exact h)
/-- the start of the way of h -/
abbrev startN (t : SetTable) (h : Int) : SetTable.Probe := runAt t.mask (SetTable.bits h % (t.mask + 1)) (SetTable.bits h)
/-- the search for k, standing at the c-th step of its way; K is the first empty one -/
theorem seekN (F0 : Fits knd) (R : SetN knd s.heap a L es ep t) (keys : ∀ p ∈ L, knd.is s.heap p.2 p.1) {x : Addr} {k : Kk} (hx : knd.is s.heap k x) (hr : knd.room A) {K : Nat} (near : K < 10 * SetTable.turns t.mask) (open_ : way t.mask (knd.hash k) K ∉ t.place.toList)
    (shut : ∀ c, c < K → way t.mask (knd.hash k) c ∈ t.place.toList) {Q : SetFound → Shared → Prop} (yes : k ∈ L.map (·.2) → Q (.there none) s) (no : k ∉ L.map (·.2) → Q (.free (way t.mask (knd.hash k) K) false) s) :
    ∀ (d c f : Nat) (stand : Option SetTable.Probe), c + d = K → d < f → stand.getD (t.probeStart (knd.hash k)) = nth t.mask (startN t (knd.hash k)) c →
      (∀ (i : Nat) p, L[i]? = some p → p.2 = k → ∃ c', c ≤ c' ∧ c' < K ∧ t.place.toList[i]? = some (way t.mask (knd.hash k) c')) → wpAny (model P w) A (setSearchFrom a (.ref x) (knd.hash k) true f stand) Q E s := by
  intro d
  induction d using Nat.strongRecOn with
  | _ d ih =>
  intro c f stand hcd hf hstand ahead
  obtain ⟨f, rfl⟩ : ∃ g, f = g + 1 := ⟨f - 1, by omega⟩
  obtain ⟨o, ho, hex, hd⟩ := R.obj
  generalize hh : knd.hash k = h at near open_ shut no ih hstand ahead ⊢
  have step : ∀ q, nth t.mask (nth t.mask (startN t h) c) q = nth t.mask (startN t h) (c + q) := fun q => (nth_add t.mask c _ q).symm
  have stepJ : ∀ q, (nth t.mask (nth t.mask (startN t h) c) q).j = way t.mask h (c + q) := fun q => congrArg SetTable.Probe.j (step q)
  have hashes : ∀ (i : Nat) p, L[i]? = some p → (es[i]?.map (·.1)).getD 0 = knd.hash p.2 := fun i p e => by rw [R.row e]; rfl
  rw [setSearchFrom_succ]
  refine wpAny_bind (wpAny_setState_of ho hd R.fits ?_)
  dsimp only
  refine wp_if_neg R.steady ?_
  try refine wpAny_bind (wpAny_pure ?_)
  have spec := go_spec t R.tab.ris R.tab.dm (fun i => (es[i]?.map (·.1)).getD 0) h (10 * SetTable.turns t.mask) d _ (nth_plain t.mask c (startN t h) rfl) (by omega) (fun q hq => by rw [stepJ]; exact shut _ (by omega)) (by rw [stepJ, hcd]; exact open_)
  rcases spec with ⟨q, i, hq, hi, hhi, before, met⟩ | ⟨before, met⟩
  · have met' : t.probe (fun i => (es[i]?.map (·.1)).getD 0) h (stand.getD (t.probeStart h)) = some (.candidate (way t.mask h (c + q)) i (nth t.mask (startN t h) (c + (q + 1)))) := by
      rw [hstand, ← stepJ, ← step]
      exact met
    rw [met']
    dsimp only
    rw [stepJ] at hi
    have hil : i < L.length := by
      have h1 : i < t.place.size := by rw [← Array.length_toList]; exact (List.getElem?_eq_some_iff.mp hi).1
      rwa [R.tab.sz, List.length_map] at h1
    obtain ⟨p, hp⟩ : ∃ p, L[i]? = some p := ⟨_, List.getElem?_eq_getElem hil⟩
    have hpm : p ∈ L := List.mem_of_getElem? hp
    have live : t.slot (way t.mask h (c + q)) = .live i := slot_live R.tab.ris hi
    have rest : wpAny (model P w) A (searchRest a (.ref x) h true f es t (way t.mask h (c + q)) i (nth t.mask (startN t h) (c + (q + 1)))) Q E s := by
      unfold searchRest
      rw [R.row hp]
      dsimp only
      refine wpAny_bind (wpAny_holding (knd.eqBool hr (keys p hpm) hx (wpAny_bind (wpAny_setState_of ho hd R.fits ?_))))
      dsimp only
      by_cases same : p.2 = k
      · exact wp_if_pos (by simp [same]) (wpAny_pure (yes (List.mem_map.mpr ⟨p, hpm, same⟩)))
      · refine wp_if_neg (by simp [same]) ?_
        try refine wpAny_bind (wpAny_pure ?_)
        rw [sameMem]
        dsimp only
        simp only [if_true, live, R.row hp]
        refine wpAny_bind (wpAny_isSame_ref_self (wpAny_bind (wpAny_pure ?_)))
        simp only [if_true]
        refine wp_if_neg (by simp [same]) (ih (d - (q + 1)) (by omega) (c + (q + 1)) f _ (by omega) (by omega) rfl fun j p' hp' hk' => ?_)
        obtain ⟨c', b1, b2, b3⟩ := ahead j p' hp' hk'
        refine ⟨c', ?_, b2, b3⟩
        rcases Nat.lt_trichotomy c' (c + q) with z | z | z
        · exact absurd ((hashes j p' hp').trans ((congrArg knd.hash hk').trans hh)) (before (c' - c) j (by omega) (by rw [stepJ, show c + (c' - c) = c' by omega]; exact b3))
        · rw [z] at b3
          have l2 := slot_live R.tab.ris b3
          rw [live] at l2
          injection l2 with l2
          subst l2
          rw [hp] at hp'
          exact absurd ((congrArg Prod.snd (Option.some.inj hp')).trans hk') same
        · omega
    cases hl : t.led with
    | true =>
      refine wp_if_neg (by simp) ?_
      try refine wpAny_bind (wpAny_pure ?_)
      exact rest
    | false =>
      refine wp_if_pos (by simp) (wpAny_bind (F0.unseen hx (fun y hy => ?_) (wp_if_neg Bool.false_ne_true ?_)))
      · obtain ⟨e, he, rfl⟩ := List.mem_map.mp hy
        have he1 : e ∈ es.toList := by simpa using (show e ∈ es ∧ e.1 = h by simpa using he).1
        rw [R.rows] at he1
        obtain ⟨p2, hp2, rfl⟩ := List.mem_map.mp he1
        exact ⟨p2.2, p2.1, rfl, keys p2 hp2⟩
      · try refine wpAny_bind (wpAny_pure ?_)
        exact rest
  · have met' : t.probe (fun i => (es[i]?.map (·.1)).getD 0) h (stand.getD (t.probeStart h)) = some (.empty (way t.mask h K) none) := by
      have e2 : way t.mask h K = (nth t.mask (nth t.mask (startN t h) c) d).j := by rw [stepJ, hcd]
      rw [hstand, e2]
      exact met
    rw [met']
    dsimp only
    refine wpAny_pure (no fun hm => ?_)
    obtain ⟨p, hp, hk⟩ := List.mem_map.mp hm
    obtain ⟨i, hi, e0⟩ := List.getElem_of_mem hp
    have hpi : L[i]? = some p := by rw [List.getElem?_eq_getElem hi, e0]
    obtain ⟨c', b1, b2, b3⟩ := ahead i p hpi hk
    exact before (c' - c) i (by omega) (by rw [stepJ, show c + (c' - c) = c' by omega]; exact b3) ((hashes i p hpi).trans ((congrArg knd.hash hk).trans hh))
end
end Rp

/-! Adding to a set of keys; filling one from a list. -/
namespace Rp
open PySem PySem.Spec PyProof.Rows L2
section
variable {P : Program} {w : World} {Kk : Type} [DecidableEq Kk] {knd : HeapKind P w Kk} {A : Around} {E : Value → Shared → Prop} {s : Shared} {a : Addr} {L : List (Addr × Kk)} {es : Array (Int × Value)} {ep : Nat} {t : SetTable}
theorem findN (F0 : Fits knd) (R : SetN knd s.heap a L es ep t) (keys : ∀ p ∈ L, knd.is s.heap p.2 p.1) {x : Addr} {k : Kk} (hx : knd.is s.heap k x) (hr : knd.room A) {Q : SetFound → Shared → Prop} (yes : k ∈ L.map (·.2) → Q (.there none) s)
    (no : ∀ K, k ∉ L.map (·.2) → way t.mask (knd.hash k) K ∉ t.place.toList → (∀ c, c < K → way t.mask (knd.hash k) c ∈ t.place.toList) → Q (.free (way t.mask (knd.hash k) K) false) s) :
    wpAny (model P w) A (setSearch a (.ref x) (knd.hash k) true) Q E s := by
  have room := R.room
  obtain ⟨K, near, open_, shut⟩ := R.tab.first (by rw [List.length_map]; omega) (knd.hash k)
  have big : 10 * SetTable.turns t.mask ≤ 1420 := by
    unfold SetTable.turns
    rcases R.tab.mok with e | e | e <;> omega
  unfold setSearch
  refine seekN F0 R keys hx hr near open_ shut yes (fun hn => no K hn open_ shut) K 0 100000 none (Nat.zero_add _) (by omega) rfl fun i p hp hk => ?_
  have hi : (L.map fun p => knd.hash p.2)[i]? = some (knd.hash k) := by rw [List.getElem?_map, hp, ← hk]; rfl
  have hil : i < t.place.toList.length := by
    have z := (List.getElem?_eq_some_iff.mp hp).1
    rw [Array.length_toList, R.tab.sz, List.length_map]
    exact z
  obtain ⟨c, hc, e⟩ := R.tab.before open_ hi (List.getElem?_eq_getElem hil)
  exact ⟨c, Nat.zero_le _, hc, by rw [e]; exact List.getElem?_eq_getElem hil⟩
/-- the rows in another order -/
theorem reorderN (hr : es.toList = L.map (entN knd)) {order : Array Nat} (hp : order.toList.Perm (List.range L.length)) :
    ∃ L2 : List (Addr × Kk), (order.filterMap (es[·]?)).toList = L2.map (entN knd) ∧ L2.Perm L ∧ (L2.map fun p => knd.hash p.2) = order.toList.map fun i => (es.map (·.1)).getD i 0 := by
  have hes : ∀ i, es[i]? = (L[i]?).map (entN knd) := fun i => by rw [← Array.getElem?_toList, hr, List.getElem?_map]
  refine ⟨order.toList.filterMap fun i => L[i]?, ?_, ?_, ?_⟩
  · have e : (order.filterMap (es[·]?)).toList = order.toList.filterMap (fun i => es[i]?) := by simp
    rw [e, List.map_filterMap]
    exact congrArg (fun f => order.toList.filterMap f) (funext hes)
  · have e : (List.range L.length).filterMap (fun i => L[i]?) = L := by
      have key : ∀ n, n ≤ L.length → (List.range n).filterMap (fun i => L[i]?) = L.take n := by
        intro n
        induction n with
        | zero => intro _; rfl
        | succ n ih =>
          intro hn
          rw [List.range_succ, List.filterMap_append, ih (by omega), List.take_add_one]
          simp [List.getElem?_eq_getElem (show n < L.length by omega)]
      have z := key L.length (Nat.le_refl _)
      rwa [List.take_length] at z
    have q := hp.filterMap (fun i => L[i]?)
    rwa [e] at q
  · have all : ∀ l : List Nat, (∀ i ∈ l, i < L.length) → ((l.filterMap fun i => L[i]?).map fun p => knd.hash p.2) = l.map fun i => (es.map (·.1)).getD i 0 := by
      intro l
      induction l with
      | nil => intro _; rfl
      | cons i l ih =>
        intro hl
        have hi := hl i (by simp)
        have e1 : (es.map (·.1)).getD i 0 = knd.hash (L[i]).2 := by
          have z : (es.map (·.1))[i]? = some (knd.hash (L[i]).2) := by rw [Array.getElem?_map, hes, List.getElem?_eq_getElem hi]; rfl
          simp [Array.getD_eq_getD_getElem?, z]
        rw [List.filterMap_cons_some (List.getElem?_eq_getElem hi), List.map_cons, List.map_cons, ih fun j hj => hl j (by simp [hj]), e1]
    exact all order.toList fun i hi => List.mem_range.mp (hp.mem_iff.mp hi)
/-- the table laid anew, larger -/
theorem widenN {o : Obj} (ho : s.heap.get? a = some o) (hex : o.ExactSet) (hd : o.data = .set es ep t) (rows : es.toList = L.map (entN knd)) (hsz : t.place.size = L.length) (hdm : t.dummies = #[]) (hfl : L.length ≤ t.mask) (once : (L.map (·.2)).Nodup) (pl : t.plain = true)
    (ld : w.params.followText "set-order" = true ∨ t.led = true) (few : L.length < 64) {wanted m2 : Nat} (hw : SetTable.sizeAbove wanted - 1 = m2) (hm : MaskOk m2) (hw2 : SetTable.sizeAbove wanted ≤ 128) (hn : L.length * 5 < m2 * 3) {Q : Unit → Shared → Prop}
    (hQ : ∀ h' L' es' ep' t', Heap.SameBut a s.heap h' → SetN knd h' a L' es' ep' t' → L'.Perm L → Q () { s with heap := h' }) : wpAny (model P w) A (setRelay a wanted) Q E s := by
  have size : es.size = L.length := by rw [← Array.length_toList, rows, List.length_map]
  have fits : t.fits es.size = true := by
    rw [size]
    unfold SetTable.fits SetTable.fill
    rw [hdm, hsz, Bool.and_eq_true, beq_iff_eq, decide_eq_true_eq]
    exact ⟨rfl, by show L.length + 0 ≤ t.mask; omega⟩
  obtain ⟨t2, order, e, hp, T, em, el, epl, ed⟩ := relaid_ok t (hs := es.map (·.1)) (wanted := wanted) hw hm (by rw [Array.size_map, size]; omega)
  rw [Array.size_map, size] at hp
  obtain ⟨L2, r1, r2, r3⟩ := reorderN rows hp
  rw [← r3] at T
  have same : (order.filterMap (es[·]?)).size = es.size := by rw [← Array.length_toList, r1, List.length_map, r2.length_eq, size]
  rw [setRelay_eq]
  refine wpAny_bind (wpAny_setState_of ho hd fits ?_)
  dsimp only
  refine wp_if_neg (by rw [sizeLine_eq]; omega) ?_
  try refine wpAny_bind (wpAny_pure ?_)
  rw [e]
  dsimp only
  refine wpAny_bind (wp_if_neg (by rw [same]; simp) ?_)
  try refine wpAny_bind (wpAny_pure ?_)
  refine wpAny_pure ?_
  dsimp only
  refine wpAny_storeSet_of ho hd (hQ _ L2 (order.filterMap (es[·]?)) (ep + 1) t2 (Heap.SameBut.update ..) ⟨⟨_, store_at ho hd, ⟨hex.1, hex.2.1, hex.2.2⟩, rfl⟩, r1, T, (r2.map (·.2)).nodup_iff.mpr once, by rw [epl]; exact pl, by rw [el]; exact ld, ?_, by rw [r2.length_eq]; exact few⟩ r2) (by rw [same, size, sizeLine_eq]; omega)
  rw [r2.length_eq, em]
  exact hn
/-- ADDING one -/
theorem addN (F0 : Fits knd) (R : SetN knd s.heap a L es ep t) (keys : ∀ p ∈ L, knd.is s.heap p.2 p.1) {x : Addr} {k : Kk} (hx : knd.is s.heap k x) (hr : knd.room A) (few : L.length + 1 < 64) {Q : Bool → Shared → Prop}
    (hQ : ∀ b h' L' es' ep' t', Heap.SameBut a s.heap h' → SetN knd h' a L' es' ep' t' → (k ∈ L.map (·.2) → L' = L) → (k ∉ L.map (·.2) → L'.Perm ((x, k) :: L)) → Q b { s with heap := h' }) :
    wpAny (model P w) A (setAddHashed a (.ref x) (knd.hash k)) Q E s := by
  obtain ⟨o, ho, hex, hd⟩ := R.obj
  have size := R.size
  have room := R.room
  unfold setAddHashed
  refine wpAny_holding ?_
  rw [show (100000 : Nat) = 99999 + 1 from rfl, setAddHashedIn_succ]
  refine wpAny_bind (wpAny_setState_of ho hd R.fits ?_)
  dsimp only
  refine wp_if_neg (by simp [byScan, Value.scannable]) ?_
  try refine wpAny_bind (wpAny_pure ?_)
  refine wpAny_bind (findN F0 R keys hx hr (fun there => ?_) fun K fresh open_ shut => ?_)
  · dsimp only
    exact wpAny_pure (hQ false s.heap L es ep t (Heap.SameBut.refl a s.heap) R (fun _ => rfl) fun z => absurd there z)
  dsimp only
  refine wpAny_bind (wpAny_setState_of ho hd R.fits ?_)
  dsimp only
  obtain ⟨q1, q2, q3, q4, q5, q6, q7, q8, q9⟩ := R.tab.put open_ shut
  have pl1 : (t.put (way t.mask (knd.hash k) K)).1.plain = true := by rw [q6]; exact R.plain
  generalize t.put (way t.mask (knd.hash k) K) = pt at q1 q3 q4 q5 q6 q7 q8 q9 pl1 ⊢
  obtain ⟨t1, pl⟩ := pt
  dsimp only at q1 q3 q4 q5 q6 q7 q8 q9 pl1 ⊢
  subst q1
  first
    | (refine wpAny_bind ?_; refine wp_if_pos pl1 ?_; refine F0.hashed hx ?_)
    | refine wp_if_pos pl1 (wpAny_bind (F0.hashed hx ?_))
  simp only [if_true]
  generalize SetTable.below t.place (way t.mask (knd.hash k) K) = n at q2 q3 ⊢
  have rows1 : (SetTable.insertAt es n (knd.hash k, Value.ref x)).toList = (L.take n ++ (x, k) :: L.drop n).map (entN knd) := by
    rw [SetTable.toList_insertAt, R.rows, List.map_append, List.map_cons, List.map_take, List.map_drop]
  have pm := put_perm L n (x, k)
  have len1 : (L.take n ++ (x, k) :: L.drop n).length = L.length + 1 := pm.length_eq
  have tab1 : TabOk t1 ((L.take n ++ (x, k) :: L.drop n).map fun p => knd.hash p.2) := by
    rw [List.map_append, List.map_cons, List.map_take, List.map_drop]
    exact q3
  have once1 : ((L.take n ++ (x, k) :: L.drop n).map (·.2)).Nodup := (pm.map (·.2)).nodup_iff.mpr (by rw [List.map_cons]; exact List.nodup_cons.mpr ⟨fresh, R.once⟩)
  have size1 : (SetTable.insertAt es n (knd.hash k, Value.ref x)).size = L.length + 1 := by rw [← Array.length_toList, rows1, List.length_map, len1]
  generalize SetTable.insertAt es n (knd.hash k, Value.ref x) = es1 at rows1 size1 ⊢
  generalize L.take n ++ (x, k) :: L.drop n = L1 at pm len1 tab1 once1 rows1
  refine wpAny_bind (wpAny_storeSet_of ho hd ?_ (by rw [size1, sizeLine_eq]; omega))
  have sb : Heap.SameBut a s.heap (s.heap.update a (Obj.putSet es1 t1)) := Heap.SameBut.update ..
  have ho1 := store_at (es' := es1) (t' := t1) ho hd
  generalize s.heap.update a (Obj.putSet es1 t1) = h1 at sb ho1 ⊢
  have led1 : w.params.followText "set-order" = true ∨ t1.led = true := by rw [q5]; exact R.led
  rw [List.length_map] at q9
  by_cases full : t1.tooFull = true
  · first
      | (refine wpAny_bind ?_; refine wp_if_pos (by simp [full]) ?_)
      | (refine wp_if_pos (by simp [full]) ?_; refine wpAny_bind ?_)
    have at_ : (L.length + 1) * 5 ≥ t1.mask * 3 := by
      unfold SetTable.tooFull at full
      rwa [decide_eq_true_eq, q9] at full
    rw [size]
    have two : (t.mask = 7 ∧ L.length = 4) ∨ (t.mask = 31 ∧ L.length = 18) := by
      rw [q4] at at_
      rcases R.tab.mok with e | e | e
      · exact .inl ⟨e, by omega⟩
      · exact .inr ⟨e, by omega⟩
      · omega
    have go : ∀ m2, SetTable.sizeAbove (SetTable.grown (L.length + 1)) - 1 = m2 → MaskOk m2 → SetTable.sizeAbove (SetTable.grown (L.length + 1)) ≤ 128 → (L.length + 1) * 5 < m2 * 3 →
        wpAny (model P w) A (setRelay a (SetTable.grown (L.length + 1))) (fun _ s' => wpAny (model P w) A (pure true) Q E s') E { s with heap := h1 } := fun m2 g1 g2 g3 g4 =>
      widenN (s := { s with heap := h1 }) ho1 ⟨hex.1, hex.2.1, hex.2.2⟩ rfl rows1 (by rw [tab1.sz, List.length_map]) tab1.dm (by rw [len1, q4]; rcases two with ⟨e, e2⟩ | ⟨e, e2⟩ <;> omega) once1 pl1 led1 (by rw [len1]; exact few) g1 g2 g3 (by rw [len1]; exact g4)
        fun h2 L2 es2 ep2 t2 sb2 R2 pm2 => wpAny_pure (hQ true h2 L2 es2 ep2 t2 (sb.trans sb2) R2 (fun z => absurd z fresh) fun _ => pm2.trans pm)
    rcases two with ⟨_, e2⟩ | ⟨_, e2⟩
    · exact go 31 (by rw [e2, size_20]) (.inr (.inl rfl)) (by rw [e2, size_20]; decide) (by omega)
    · exact go 127 (by rw [e2, size_76]) (.inr (.inr rfl)) (by rw [e2, size_76]; decide) (by omega)
  · first
      | refine wp_if_neg (by simp [full]) ?_
      | (refine wpAny_bind ?_; refine wp_if_neg (by simp [full]) ?_; refine wpAny_pure ?_)
    refine wpAny_pure (hQ true h1 L1 es1 (ep + 1) t1 sb ⟨⟨_, ho1, ⟨hex.1, hex.2.1, hex.2.2⟩, rfl⟩, rows1, tab1, once1, pl1, led1, ?_, by rw [len1]; exact few⟩ (fun z => absurd z fresh) fun _ => pm)
    unfold SetTable.tooFull at full
    rw [decide_eq_true_eq, q9] at full
    rw [len1]
    omega
end
end Rp

/-! set(xs), xs a list of keys. -/
namespace Rp
open PySem PySem.Spec PyProof.Rows L2
section
variable {P : Program} {w : World} {Kk : Type} [DecidableEq Kk] {knd : HeapKind P w Kk} {A : Around} {E : Value → Shared → Prop} {s : Shared}
/-- the set has got the first i of ks -/
structure GotN (ks : List (Addr × Kk)) (i : Nat) (L : List (Addr × Kk)) : Prop where
  from_ : ∀ p ∈ L, p ∈ ks.take i
  all : ∀ p ∈ ks.take i, p.2 ∈ L.map (·.2)
  len : L.length ≤ i
theorem GotN.step {ks L L' : List (Addr × Kk)} {i : Nat} {x : Addr × Kk} (g : GotN ks i L) (h : ks[i]? = some x) (c1 : x.2 ∈ L.map (·.2) → L' = L) (c2 : x.2 ∉ L.map (·.2) → L'.Perm (x :: L)) : GotN ks (i + 1) L' := by
  have e : ks.take (i + 1) = ks.take i ++ [x] := by rw [List.take_add_one, h]; rfl
  by_cases hm : x.2 ∈ L.map (·.2)
  · rw [c1 hm]
    refine ⟨fun p hp => ?_, fun p hp => ?_, Nat.le_succ_of_le g.len⟩
    · rw [e]; exact List.mem_append_left _ (g.from_ p hp)
    · rw [e] at hp
      rcases List.mem_append.mp hp with z | z
      · exact g.all p z
      · rw [List.mem_singleton.mp z]; exact hm
  · have pm := c2 hm
    refine ⟨fun p hp => ?_, fun p hp => ?_, by rw [pm.length_eq, List.length_cons]; exact Nat.succ_le_succ g.len⟩
    · rw [e]
      rcases List.mem_cons.mp (pm.mem_iff.mp hp) with z | z
      · rw [z]; exact List.mem_append_right _ (List.mem_singleton.mpr rfl)
      · exact List.mem_append_left _ (g.from_ p z)
    · rw [(pm.map (·.2)).mem_iff, List.map_cons]
      rw [e] at hp
      rcases List.mem_append.mp hp with z | z
      · exact List.mem_cons_of_mem _ (g.all p z)
      · rw [List.mem_singleton.mp z]; exact List.mem_cons_self
theorem SetN.at {h h' : Heap} {a : Addr} {L : List (Addr × Kk)} {es : Array (Int × Value)} {ep : Nat} {t : SetTable} (R : SetN knd h a L es ep t) (k : ∀ o, h.get? a = some o → h'.get? a = some o) : SetN knd h' a L es ep t := by
  obtain ⟨⟨o, ho, r⟩, r2, r3, r4, r5, r6, r7, r8⟩ := R
  exact ⟨⟨o, k o ho, r⟩, r2, r3, r4, r5, r6, r7, r8⟩
theorem SetN.born {h : Heap} {a : Addr} (ho : h.get? a = some (newS w)) : SetN knd h a [] #[] 0 (.fresh 0 0 (!w.params.followText "set-order")) where
  obj := ⟨_, ho, ⟨rfl, rfl, rfl⟩, rfl⟩
  rows := rfl
  tab := ⟨List.Pairwise.nil, rfl, rfl, .inl rfl, fun x hx => (by cases hx), fun i h j hi => (by simp at hi)⟩
  once := List.nodup_nil
  plain := rfl
  led := by
    show _ ∨ (!w.params.followText "set-order") = true
    cases w.params.followText "set-order" <;> simp
  room := by show 0 * 5 < 7 * 3; decide
  few := by show 0 < 64; decide
/-- the filling's loop; h0 is the heap that the keys stood in -/
theorem fillN (F0 : Fits knd) {I : Addr} {fp wr : List Addr} {G : Array GenState → Array GenState → Prop} {n : Nat} {Pv : Nat → Value → Prop} {St : Nat → Shared → Prop} {R : Result → Shared → Prop} (W : WalksS P w A.in1 I fp wr G n Pv St) (S : Addr) (apart : S ∉ fp) (ks : List (Addr × Kk)) (hn : n = ks.length)
    (few : ks.length < 64) (hval : ∀ i v, Pv i v → ∃ p, ks[i]? = some p ∧ v = .ref p.1) (h0 : Heap) (hk : ∀ p ∈ ks, knd.is h0 p.2 p.1) (new : ∀ b, b = S ∨ b ∈ wr → h0.get? b = none) (hr : knd.room A.in1) :
    ∀ (left i : Nat) (s : Shared), n - i = left → i ≤ n → St i s → (∀ b o, h0.get? b = some o → s.heap.get? b = some o) → (∃ L es ep t, SetN knd s.heap S L es ep t ∧ GotN ks i L) →
      (∀ s' L es ep t, Moved (S :: wr) G s s' → SetN knd s'.heap S L es ep t → GotN ks n L → (∀ b o, h0.get? b = some o → s'.heap.get? b = some o) → R (.ok (.ret .none)) s') →
      codeAny (model P w) A (.builtin "set.update.loop" ⟨[.ref S, .ref I], []⟩) R s := by
  have Sw : S ∉ wr := fun z => apart (W.sub _ z)
  have wider : ∀ b ∈ wr, b ∈ S :: wr := fun b hb => List.mem_cons_of_mem _ hb
  intro left
  induction left with
  | zero =>
    intro i s hl hi hst old ⟨L, es, ep, t, hS, g⟩ hR
    have e : i = n := by omega
    subst e
    refine codeAny_builtin F.entry_set_update_loop ?_
    rw [Around.under_plainId F.plain_set_update_loop _]
    refine (?_ : wpAny _ A.in1 (pyNext (.ref I) >>= _) _ _ s)
    refine wpAny_bind (W.done s _ _ hst fun s' mv => ?_)
    have fin := hR s' L es ep t (mv.mono wider) (hS.at fun o e => mv.heap S o Sw e) g fun b o e => mv.heap b o (fun hb => by rw [new b (.inr hb)] at e; cases e) (old b o e)
    show wpAny _ A.in1 (ret Value.none) _ _ s'
    exact wpAny_pure fin
  | succ left ih =>
    intro i s hl hi hst old ⟨L, es, ep, t, hS, g⟩ hR
    have hlt : i < n := by omega
    refine codeAny_builtin F.entry_set_update_loop ?_
    rw [Around.under_plainId F.plain_set_update_loop _]
    refine (?_ : wpAny _ A.in1 (pyNext (.ref I) >>= _) _ _ s)
    refine wpAny_bind (W.item i s _ _ hlt hst fun v s1 hv hst1 mv => ?_)
    obtain ⟨p, hp, rfl⟩ := hval i v hv
    have old1 : ∀ b o, h0.get? b = some o → s1.heap.get? b = some o := fun b o e => mv.heap b o (fun hb => by rw [new b (.inr hb)] at e; cases e) (old b o e)
    have is1 : ∀ q ∈ ks, knd.is s1.heap q.2 q.1 := fun q hq => F0.stays (fun c o _ _ e _ => old1 c o e) (hk q hq)
    have hS1 := hS.at fun o e => mv.heap S o Sw e
    have sub : ∀ q ∈ L, q ∈ ks := fun q hq => List.mem_of_mem_take (g.from_ q hq)
    refine (?_ : wpAny _ A.in1 (holding [Value.ref p.1] (setAdd S (.ref p.1)) >>= _) _ _ s1)
    refine wpAny_bind (wpAny_holding ?_)
    unfold setAdd
    refine wpAny_holding (wpAny_bind (knd.pyHash hr (is1 p (List.mem_of_getElem? hp)) ?_))
    refine addN (s := { s1 with toks := s1.toks + knd.draws p.2 }) F0 hS1 (fun q hq => is1 q (sub q hq)) (is1 p (List.mem_of_getElem? hp)) hr (by have := g.len; omega) fun b h2 L2 es2 ep2 t2 sb hS2 c1 c2 => ?_
    have old2 : ∀ b o, h0.get? b = some o → h2.get? b = some o := fun b o e => (sb.2 b (fun z => by rw [new b (.inl z)] at e; cases e)).trans (old1 b o e)
    refine wpAny_pure ⟨plainId_quiet F.plain_set_update_loop _, ih (i + 1) _ (by omega) hlt (W.frame _ s1 _ _ hst1 (Nat.le_add_right _ _) fun b hb o e => ?_) old2 ⟨L2, es2, ep2, t2, hS2, g.step hp c1 c2⟩ fun s3 L3 es3 ep3 t3 mv3 hS3 g3 old3 => ?_⟩
    · exact (sb.2 b fun z => apart (z ▸ hb)).trans e
    · exact hR s3 L3 es3 ep3 t3 (Moved.trans W.gtrans ((mv.mono wider).then_heap (Nat.le_add_right _ _) fun b o hb e => (sb.2 b fun z => hb (z ▸ List.mem_cons_self)).trans e) mv3) hS3 g3 old3
theorem set_of_keys (F0 : Fits knd) {l : Addr} {items : Array Value} (ks : List (Addr × Kk)) {Q : Value → Shared → Prop} (hh : A.handled = none) (hl : s.heap.IsList l items) (hi : items.toList = ks.map fun p => Value.ref p.1) (hk : ∀ p ∈ ks, knd.is s.heap p.2 p.1) (few : ks.length < 64)
    (hr : ∀ A' : Around, A'.units = A.units + 3 → knd.room A')
    (h : ∀ (h' : Heap) (tk : Nat) L es ep t, SetN knd h' s.heap.objs.size L es ep t → GotN ks ks.length L → (∀ b o, s.heap.get? b = some o → h'.get? b = some o) → Q (.ref s.heap.objs.size) { s with heap := h', toks := tk }) :
    wpAny (model P w) A (call (.type "set") [.ref l]) Q E s := by
  refine set_of_list hh hl fun A' hA hu => ?_
  have hlt : l < s.heap.objs.size := by obtain ⟨o, ho, _⟩ := hl; exact Heap.lt_size ho
  have hsz : items.size = ks.length := by rw [← Array.length_toList, hi, List.length_map]
  have apart : s.heap.objs.size ∉ [s.heap.objs.size + 1, l] := by
    simp only [List.mem_cons, List.not_mem_nil, or_false, not_or]
    exact ⟨Nat.ne_of_lt (Nat.lt_succ_self _), Nat.ne_of_gt hlt⟩
  refine fillN F0 ((Walks.list hA (s.heap.objs.size + 1) l (Nat.ne_of_lt (Nat.lt_succ_of_lt hlt)) items).toS) s.heap.objs.size apart ks hsz few (fun i v hv => ?_) s.heap hk (fun b hb => none_from ?_) (hr _ hu) (items.size - 0) 0 _ (by omega) (Nat.zero_le _) (fill_it hl) (fun b o e => fill_old e)
    ⟨[], #[], 0, _, SetN.born fill_set, GotN.mk (fun p hp => (by cases hp)) (fun p hp => (by simp at hp)) (Nat.le_refl _)⟩ fun s' L es ep t mv hS g old => ⟨rfl, ?_⟩
  · have q : items.toList[i]? = some v := by rw [Array.getElem?_toList]; exact hv
    rw [hi, List.getElem?_map] at q
    cases hq : ks[i]? with
    | none => rw [hq] at q; cases q
    | some p =>
      rw [hq] at q
      exact ⟨p, rfl, (Option.some.inj q).symm⟩
  · rcases hb with e | e
    · rw [e]; exact Nat.le_refl _
    · rw [List.mem_singleton.mp e]; exact Nat.le_succ _
  · obtain ⟨h', g2, d, tk, os⟩ := s'
    have e1 : g2 = s.gens := mv.gens
    have e2 : d = s.drawn := mv.drawn
    have e3 : os = s.os := mv.os
    subst e1 e2 e3
    rw [hsz] at g
    exact h h' tk L es ep t hS g old
end
end Rp

/-! sorted(set of keys). -/
namespace Rp
open PySem PySem.Spec PyProof.Rows L2
theorem perm_map_inv {α β : Type} {f : α → β} {l1 l2 : List β} (h : l1.Perm l2) : ∀ L : List α, l2 = L.map f → ∃ L1 : List α, L1.Perm L ∧ l1 = L1.map f := by
  induction h with
  | nil =>
    intro L e
    cases L with
    | nil => exact ⟨[], .nil, rfl⟩
    | cons _ _ => cases e
  | @cons x a b _ ih =>
    intro L e
    cases L with
    | nil => cases e
    | cons y L =>
      rw [List.map_cons, List.cons.injEq] at e
      obtain ⟨L1, p, e1⟩ := ih L e.2
      exact ⟨y :: L1, p.cons y, by rw [List.map_cons, e1, e.1]⟩
  | swap x y l =>
    intro L e
    cases L with
    | nil => cases e
    | cons a L =>
      cases L with
      | nil => cases e
      | cons b L =>
        simp only [List.map_cons, List.cons.injEq] at e
        exact ⟨b :: a :: L, .swap a b L, by rw [List.map_cons, List.map_cons, e.1, e.2.1, e.2.2]⟩
  | trans _ _ ih1 ih2 =>
    intro L e
    obtain ⟨L2, p2, e2⟩ := ih2 L e
    obtain ⟨L1, p1, e1⟩ := ih1 L2 e2
    exact ⟨L1, p1.trans p2, e1⟩
section
variable {P : Program} {w : World} {Kk : Type} [DecidableEq Kk] {knd : HeapKind P w Kk} {A : Around} {E : Value → Shared → Prop} {s : Shared} {a : Addr} {L : List (Addr × Kk)} {es : Array (Int × Value)} {ep : Nat} {t : SetTable}
theorem each_refs : ∀ L : List (Addr × Kk), PySem.W.EachIs (fun (v : Value) (p : Addr × Kk) => v = .ref p.1) (L.map fun p => Value.ref p.1) L
  | [] => .nil
  | p :: L => .cons rfl (each_refs L)
theorem refs_each : ∀ {vs : List Value} {L : List (Addr × Kk)}, PySem.W.EachIs (fun (v : Value) (p : Addr × Kk) => v = .ref p.1) vs L → vs = L.map fun p => Value.ref p.1
  | _, _, .nil => rfl
  | _, _, .cons e h => by rw [e, refs_each h]; rfl
theorem each_of {R : Value → Addr × Kk → Prop} : ∀ {L : List (Addr × Kk)}, (∀ p ∈ L, R (.ref p.1) p) → PySem.W.EachIs R (L.map fun p => Value.ref p.1) L
  | [], _ => .nil
  | p :: L, h => .cons (h p (by simp)) (each_of fun q hq => h q (by simp [hq]))
theorem sorted_keys {enc : Kk → PyData} (R : SetN knd s.heap a L es ep t) (hh : A.handled = none) (reads : ∀ p ∈ L, Reads s.heap (.ref p.1) (enc p.2) []) (al : ∀ k k', PySem.W.alike (enc k) (enc k') = true) (tp : ∀ k, ∃ x r, enc k = .tuple (x :: r))
    (dep : ∀ k, A.units + 5 + (enc k).depth < cLine) {Q : Value → Shared → Prop}
    (hQ : ∀ s' p (out : Array Value) (c : Nat) (L' : List (Addr × Kk)), (∀ b o, s.heap.get? b = some o → s'.heap.get? b = some o) → s'.gens = s.gens → s'.os = s.os → s.heap.objs.size ≤ p → s'.heap.get? p = some (seqObj "list" out c) → out.toList = L'.map (fun q => Value.ref q.1) → L'.Perm L → Q (.ref p) s') :
    wpAny (model P w) A (call (.builtin "sorted") [.ref a]) Q E s := by
  obtain ⟨o, ho, hex, hd⟩ := R.obj
  have few := R.few
  refine Calls.call_function_entry kind_sorted plain_sorted entry_sorted (args_sorted1 _) ?_
  unfold Builtin.«sorted»
  refine wpAny_bind (m := checkCount "sorted" 1 1 _) (wpAny_pure ?_)
  refine wpAny_bind (collect_set (A := A.in1) hh ⟨o, ho, hex.1, hd⟩ R.fits (by have := R.size; unfold scanBound; omega) R.tab.ris R.led fun s1 vs old1 sz g1 o1 pm => ?_)
  have refs : es.toList.map (·.2) = L.map fun q => Value.ref q.1 := by rw [R.rows, List.map_map]; rfl
  rw [refs] at pm
  obtain ⟨L1, p1, rfl⟩ := perm_map_inv pm L rfl
  have len1 := p1.length_eq
  refine wpAny_bind (wpAny_newList ?_ (by rw [List.length_map, sizeLine_eq]; omega))
  have stands : (s1.heap.push (seqObj "list" (L1.map fun q => Value.ref q.1).toArray 0)).get? s1.heap.objs.size = some (seqObj "list" (L1.map fun q => Value.ref q.1).toArray 0) := Heap.get?_push_size _ rfl
  have reads1 : ∀ p ∈ L1, Reads (s1.heap.push (seqObj "list" (L1.map fun q => Value.ref q.1).toArray 0)) (.ref p.1) (enc p.2) [] := fun p hp =>
    PyProof.Rows.Reads.keeps (fun b u e => Heap.get?_push_of_some _ (old1 b u e)) (reads p (p1.mem_iff.mp hp))
  refine wpAny_bind (wpAny_holding (PySem.W.list_sort_data (s := { s1 with heap := s1.heap.push (seqObj "list" (L1.map fun q => Value.ref q.1).toArray 0) }) (bs := L1) (enc := fun p : Addr × Kk => enc p.2) stands (each_refs L1) (each_of fun p hp => ⟨[], reads1 p hp, List.not_mem_nil⟩)
    (PySem.W.AllAlike.of fun b b' => al b.2 b'.2) (PySem.W.Sortable.tuples fun b => tp b.2) (by rw [sizeLine_eq]; omega) (fun b _ => by have := dep b.2; simp only [Around.in1_units]; omega) fun out hlen he => ?_))
  have eo := refs_each he
  subst eo
  obtain ⟨c, hc⟩ := sortedHeap_at (vs := L1.map fun q => Value.ref q.1) (out := ((L1.mergeSort (PySem.W.dataLe false fun p : Addr × Kk => enc p.2)).map fun q => Value.ref q.1).toArray) stands
  refine wpAny_pure ⟨_, rfl, hQ _ s1.heap.objs.size _ c _ (fun b u e => ?_) g1 o1 sz hc rfl ((List.mergeSort_perm _ _).trans p1)⟩
  have e1 := old1 b u e
  have lt := Heap.lt_size e1
  refine (sortedHeap_old (Nat.ne_of_lt lt) ?_).trans (Heap.get?_push_of_some _ e1)
  rw [size_push']
  exact Nat.lt_succ_of_lt lt
end
end Rp

/-! Keys (number, tuple of numbers): the set of them, sorted, the dict keyed by them, as tracked things. -/
namespace Rp
open PySem PySem.Spec PyProof.Rows L2
/-- a number and a tuple of numbers -/
abbrev K2 := Nat × List Nat
def toN (k : K2) : NestedKey := .tup [.num k.1, .tup (k.2.map fun j : Nat => .num (j : Int))]
theorem nums_inj : ∀ {a b : List Nat}, (a.map fun j : Nat => NestedKey.num (j : Int)) = b.map (fun j : Nat => NestedKey.num (j : Int)) → a = b
  | [], [], _ => rfl
  | [], _ :: _, h => by cases h
  | _ :: _, [], h => by cases h
  | x :: a, y :: b, h => by
    rw [List.map_cons, List.map_cons, List.cons.injEq] at h
    have e : (x : Int) = y := by injection h.1
    rw [nums_inj h.2, show x = y by omega]
theorem toN_inj {a b : K2} (h : toN a = toN b) : a = b := by
  unfold toN at h
  injection h with h
  rw [List.cons.injEq, List.cons.injEq] at h
  obtain ⟨h1, h2, _⟩ := h
  injection h1 with h1
  injection h2 with h2
  exact Prod.ext (by omega) (nums_inj h2)
theorem depth_nums : ∀ l : List Nat, NestedKey.depthAll (l.map fun j : Nat => NestedKey.num (j : Int)) = 0
  | [] => by simp [NestedKey.depthAll]
  | x :: l => by rw [List.map_cons, NestedKey.depthAll, depth_nums l]; simp [NestedKey.depth]
theorem depth_toN (k : K2) : (toN k).depth = 2 := by simp [toN, NestedKey.depth, NestedKey.depthAll, depth_nums]
section
variable {P : Program} {w : World}
def pairKind (P : Program) (w : World) : HeapKind P w K2 where
  is := fun h k a => (nestedKind P w).is h (toN k) a
  hash := fun k => (nestedKind P w).hash (toN k)
  draws := fun k => (nestedKind P w).draws (toN k)
  room := (nestedKind P w).room
  inj := fun hx hy => toN_inj ((nestedKind P w).inj hx hy)
  keeps := fun x ho hd hs => (nestedKind P w).keeps x ho hd hs
  pyHash := fun hu hk h => (nestedKind P w).pyHash hu hk h
  eqBool := fun {A E s x y a b Q} hu hx hy h => (nestedKind P w).eqBool hu hx hy (by
    have e : decide (toN x = toN y) = decide (x = y) := by rw [decide_eq_decide]; exact ⟨toN_inj, fun e => by rw [e]⟩
    rw [e]
    exact h)
  quiet := fun hk h => (nestedKind P w).quiet hk h
variable {A : Around} {E : Value → Shared → Prop} {s : Shared}
theorem each_item {h : Heap} : ∀ {ks : List NestedKey} {vs : List Value}, NestedAll h ks vs → ∀ v ∈ vs, ∃ k ∈ ks, NestedIs h k v
  | _, _, .nil, v, hv => by cases hv
  | _, _, .cons x r, v, hv => by
    rcases List.mem_cons.mp hv with e | hv
    · rw [e]; exact ⟨_, by simp, x⟩
    · obtain ⟨k, hk, q⟩ := each_item r v hv
      exact ⟨k, by simp [hk], q⟩
/-- a tuple is hashed by value where its items are -/
theorem hashed_tup {n : Nat} {ks : List NestedKey} {a : Addr} {Q : Bool → Shared → Prop} (h : NestedIs s.heap (.tup ks) (.ref a)) (items : ∀ k ∈ ks, ∀ v, NestedIs s.heap k v → ∀ Q' : Bool → Shared → Prop, Q' true s → wpAny (model P w) A (hashByValue n v) Q' E s) (hq : Q true s) :
    wpAny (model P w) A (hashByValue (n + 1) (.ref a)) Q E s := by
  cases h with
  | @tup _ o vs m _ h1 h2 h3 h4 =>
    have hT : s.TypeIs (.ref a) "tuple" := ⟨o, h1, h2⟩
    unfold hashByValue
    refine wpAny_bind (wpAny_specialOf hT F.slot_tuple_hash.lookup (?_ : wpAny _ _ (seqItems? (.ref a) >>= _) _ _ s))
    refine wpAny_bind (wpAny_seqItems h1 h3 (wpAny_bind (?_ : wpAny _ _ (forIn vs _ _) _ _ s)))
    rw [← Array.forIn_toList]
    refine wpAny_forIn_list _ (fun rest r s' => r.1 = none ∧ s' = s ∧ ∀ v ∈ rest, ∃ k ∈ ks, NestedIs s.heap k v) _ ?_ ?_ _ _ ⟨rfl, rfl, each_item h4⟩
    · rintro v rest r s' ⟨e0, rfl, all⟩
      obtain ⟨k, hk, hv⟩ := all v (by simp)
      refine wpAny_bind (items k hk v hv _ ?_)
      simp only [Bool.not_true, Bool.false_eq_true, if_false]
      exact wpAny_pure ⟨rfl, rfl, fun u hu => all u (by simp [hu])⟩
    · rintro ⟨r1, r2⟩ s' ⟨e0, rfl, _⟩
      simp only at e0
      subst e0
      exact wpAny_pure hq
/-- .. and is of no class statement -/
theorem bare_tup {n : Nat} {ks : List NestedKey} {a : Addr} {Q : Bool → Shared → Prop} (h : NestedIs s.heap (.tup ks) (.ref a)) (items : ∀ k ∈ ks, ∀ v, NestedIs s.heap k v → ∀ Q' : Bool → Shared → Prop, Q' false s → wpAny (model P w) A (ofAClassStatement n v) Q' E s) (hq : Q false s) :
    wpAny (model P w) A (ofAClassStatement (n + 1) (.ref a)) Q E s := by
  cases h with
  | @tup _ o vs m _ h1 h2 h3 h4 =>
    have hT : s.TypeIs (.ref a) "tuple" := ⟨o, h1, h2⟩
    unfold ofAClassStatement
    refine wpAny_bind (wpAny_typeOf hT ?_)
    dsimp only
    simp only [show (("tuple" : String) == "tuple") = true by decide, if_true, Bool.not_true, Bool.false_eq_true, if_false]
    try refine wpAny_bind (wpAny_pure ?_)
    try simp only [Bool.not_true, Bool.false_eq_true, if_false]
    refine (?_ : wpAny _ _ (seqItems? (.ref a) >>= _) _ _ s)
    refine wpAny_bind (wpAny_seqItems h1 h3 ?_)
    dsimp only
    refine wpAny_bind (?_ : wpAny _ _ (forIn vs _ _) _ _ s)
    rw [← Array.forIn_toList]
    refine wpAny_forIn_list _ (fun rest r s' => r.1 = none ∧ s' = s ∧ ∀ v ∈ rest, ∃ k ∈ ks, NestedIs s.heap k v) _ ?_ ?_ _ _ ⟨rfl, rfl, each_item h4⟩
    · rintro v rest r s' ⟨e0, rfl, all⟩
      obtain ⟨k, hk, hv⟩ := all v (by simp)
      refine wpAny_bind (items k hk v hv _ ?_)
      simp only [Bool.false_eq_true, if_false]
      exact wpAny_pure ⟨rfl, rfl, fun u hu => all u (by simp [hu])⟩
    · rintro ⟨r1, r2⟩ s' ⟨e0, rfl, _⟩
      simp only at e0
      subst e0
      exact wpAny_pure hq
theorem hashed_num {n : Nat} {i : Int} {v : Value} {Q : Bool → Shared → Prop} (h : NestedIs s.heap (.num i) v) (hq : Q true s) : wpAny (model P w) A (hashByValue n v) Q E s := by
  cases h <;> (cases n <;> exact wpAny_pure hq)
theorem bare_num {n : Nat} {i : Int} {v : Value} {Q : Bool → Shared → Prop} (h : NestedIs s.heap (.num i) v) (hq : Q false s) : wpAny (model P w) A (ofAClassStatement n v) Q E s := by
  cases h <;> (cases n <;> exact wpAny_pure hq)
theorem tup_ref {h : Heap} {ks : List NestedKey} {v : Value} (x : NestedIs h (.tup ks) v) : ∃ a, v = .ref a := by cases x; exact ⟨_, rfl⟩
theorem num_mem {l : List Nat} {k : NestedKey} (h : k ∈ l.map fun j : Nat => NestedKey.num (j : Int)) : ∃ i, k = .num i := by
  obtain ⟨j, _, e⟩ := List.mem_map.mp h
  exact ⟨_, e.symm⟩
theorem pairFits (P : Program) (w : World) : Fits (pairKind P w) where
  hashed := fun {A E s k b Q} hk hq => hashed_tup (n := 7) hk.1 (fun x hx v hv Q' q' => by
    rcases List.mem_cons.mp hx with e | hx
    · subst e; exact hashed_num hv q'
    · have e := List.mem_singleton.mp hx
      subst e
      obtain ⟨c, rfl⟩ := tup_ref hv
      refine hashed_tup (n := 6) hv (fun x hx v hv Q' q' => ?_) q'
      obtain ⟨i, rfl⟩ := num_mem hx
      exact hashed_num hv q') hq
  bare := fun {A E s k b Q} hk hq => bare_tup (n := 7) hk.1 (fun x hx v hv Q' q' => by
    rcases List.mem_cons.mp hx with e | hx
    · subst e; exact bare_num hv q'
    · have e := List.mem_singleton.mp hx
      subst e
      obtain ⟨c, rfl⟩ := tup_ref hv
      refine bare_tup (n := 6) hv (fun x hx v hv Q' q' => ?_) q'
      obtain ⟨i, rfl⟩ := num_mem hx
      exact bare_num hv q') hq
  stays := fun hk x => (nestedKind_stays (prog := P) (w := w)).stays hk x
end
/-- the key k stands at a -/
def IsK (H : Hp) (a : Addr) (k : K2) : Prop := ∃ b, H a = some (.tup [.int (k.1 : Int), .ref b]) ∧ H b = some (.tup (k.2.map fun n : Nat => V.int (n : Int)))
theorem IsK.same {H H' : Hp} {a : Addr} {k : K2} (x : IsK H a k) (s : Same H H') : IsK H' a k := let ⟨b, e1, e2⟩ := x; ⟨b, s _ _ e1, s _ _ e2⟩
section
variable {X : Cx} {pins : List (Addr × Obj)} {σ : L2.St} {H : Hp} {s : Shared}
theorem nums_vals {h : Heap} : ∀ {l : List Nat} {us : List Value}, Vals (l.map fun n : Nat => V.int (n : Int)) us → NestedAll h (l.map fun j : Nat => .num (j : Int)) us
  | [], _, .nil => .nil
  | n :: l, _, .cons r t => by obtain ⟨k, rfl⟩ := r; exact .cons (.int _ _) (nums_vals t)
theorem nums_reads {h : Heap} : ∀ {l : List Nat} {us : List Value}, Vals (l.map fun n : Nat => V.int (n : Int)) us → ReadsAll h us (l.map fun j : Nat => PyData.int (j : Int)) []
  | [], _, .nil => .nil
  | n :: l, _, .cons r t => by obtain ⟨k, rfl⟩ := r; exact ReadsAll.cons (as := []) (bs := []) (.int _ _) (nums_reads t)
theorem IsK.open_ (I : Inv X pins σ H s) {a : Addr} {k : K2} (x : IsK H a k) : ∃ b t us, IsTup s.heap a #[.int k.1 t, .ref b] ∧ IsTup s.heap b us.toArray ∧ Vals (k.2.map fun n : Nat => V.int (n : Int)) us := by
  obtain ⟨b, e1, e2⟩ := x
  obtain ⟨us1, r1, p1, _⟩ := I.tuple (.inl (.inl e1))
  obtain ⟨us, r2, p2, _⟩ := I.tuple (.inl (.inl e2))
  cases r1 with
  | cons ra rb =>
    cases rb with
    | cons rb rc =>
      cases rc
      obtain ⟨t, rfl⟩ := ra
      cases rb
      exact ⟨b, t, us, p1, p2, r2⟩
theorem IsK.is (I : Inv X pins σ H s) {a : Addr} {k : K2} (x : IsK H a k) : (pairKind X.prog X.w).is s.heap k a := by
  obtain ⟨b, t, us, ⟨o1, h1, c1, n1, d1⟩, ⟨o2, h2, c2, n2, d2⟩, r⟩ := x.open_ I
  exact ⟨.tup h1 c1 d1 (.cons (.int _ _) (.cons (.tup h2 c2 d2 (by simpa using nums_vals r)) .nil)), by rw [depth_toN]; decide⟩
def encK (k : K2) : PyData := .tuple [.int (k.1 : Int), .tuple (k.2.map fun j : Nat => .int (j : Int))]
theorem IsK.reads (I : Inv X pins σ H s) {a : Addr} {k : K2} (x : IsK H a k) : Reads s.heap (.ref a) (encK k) [] := by
  obtain ⟨b, t, us, ⟨o1, h1, c1, n1, d1⟩, ⟨o2, h2, c2, n2, d2⟩, r⟩ := x.open_ I
  exact .tuple h1 c1 d1 (ReadsAll.cons (as := []) (bs := []) (.int _ _) (ReadsAll.cons (as := []) (bs := []) (.tuple h2 c2 d2 (by simpa using nums_reads r)) .nil))
/-- the set of keys at a -/
def KSet (P : Program) (w : World) (a : Addr) (L : List (Addr × K2)) : HO := .ext fun h => ∃ es ep t, SetN (pairKind P w) h a L es ep t
theorem kset_new {P : Program} {w : World} {H : Hp} {h : Heap} {a : Addr} {L : List (Addr × K2)} (R : ∃ es ep t, SetN (pairKind P w) h a L es ep t) : ObjOk P w H h a (KSet P w a L) := by
  refine ⟨R, ?_, fun h1 h2 ⟨es, ep, t, p⟩ k => ⟨es, ep, t, p.at k⟩⟩
  obtain ⟨es, ep, t, p⟩ := R
  obtain ⟨o, ho, _⟩ := p.obj
  exact ⟨o, ho⟩
/-- set(xs), xs a list of keys -/
def rSetK (K : PySem.W.Frag) (P : Program) (w : World) : List V → Hp → VK → Prop := fun xs H Q => ∃ (l : Addr) (ks : List (Addr × K2)), xs = [.ref l] ∧ SqL K H l (ks.map fun p => V.ref p.1) ∧ (∀ p ∈ ks, IsK H p.1 p.2) ∧ ks.length < 64 ∧ ∀ a L, H a = none → GotN ks ks.length L → Q (.ref a) (upd H a (KSet P w a L))
theorem key_refs : ∀ {ks : List (Addr × K2)} {us : List Value}, Vals (ks.map fun p => V.ref p.1) us → us = ks.map fun p => Value.ref p.1
  | [], _, .nil => rfl
  | p :: ks, _, .cons r t => by cases r; rw [key_refs t]; rfl
theorem vals_keys : ∀ (ks : List (Addr × K2)), Vals (ks.map fun p => V.ref p.1) (ks.map fun p => Value.ref p.1)
  | [] => .nil
  | p :: ks => .cons rfl (vals_keys ks)
theorem cr_setK (K : PySem.W.Frag) (P : Program) (w : World) (hu : X.A.units + 64 < cLine) (hc : X.calm = true := by rfl) (hK : X.K = K := by rfl) (hP : X.prog = P := by rfl) (hw : X.w = w := by rfl) : CallR X (.type "set") (rSetK K P w) := by
  subst hK hP hw
  rintro pins s σ H xs us Q I r ⟨l, ks, rfl, hl, hk, few, q⟩
  rw [Vals.ref1 r]
  obtain ⟨its, rv, pl, _⟩ := I.list hl
  refine set_of_keys (pairFits X.prog X.w) ks (I.ok.hd hc) pl.isList (by simpa using key_refs rv) (fun p hp => (hk p hp).is I) few (fun A' e => by show A'.units + 8 < cLine; omega) fun h' tk L es ep t R g old => ?_
  exact ⟨.ref _, _, I.laid (t' := tk) old (Nat.le_refl _) (kset_new ⟨es, ep, t, R⟩), rfl, q _ L (I.hok.fresh (Nat.le_refl _)) g⟩
/-- sorted(set of keys) -/
def rSortK (P : Program) (w : World) : List V → Hp → VK → Prop := fun xs H Q => ∃ (a : Addr) (L : List (Addr × K2)), xs = [.ref a] ∧ H a = some (KSet P w a L) ∧ (∀ p ∈ L, IsK H p.1 p.2) ∧ ∀ (L' : List (Addr × K2)) (p : Addr), L'.Perm L → (L'.map (·.2)).Nodup → L'.length < 64 → H p = none → Q (.ref p) (upd H p (.lst (L'.map fun q => V.ref q.1)))
theorem alike_nums : ∀ a b : List Nat, PySem.W.alikeAll (a.map fun j : Nat => PyData.int (j : Int)) (b.map fun j : Nat => PyData.int (j : Int)) = true
  | [], _ => by simp [PySem.W.alikeAll]
  | _ :: _, [] => by simp [PySem.W.alikeAll]
  | x :: a, y :: b => by rw [List.map_cons, List.map_cons, PySem.W.alikeAll, alike_nums a b]; simp [PySem.W.alike]
theorem alike_encK (k k' : K2) : PySem.W.alike (encK k) (encK k') = true := by simp [encK, PySem.W.alike, PySem.W.alikeAll, alike_nums]
theorem depth_encK (k : K2) : (encK k).depth = 2 := by
  have h : ∀ l : List Nat, PyData.depthAll (l.map fun j : Nat => PyData.int (j : Int)) = 0 := fun l => by
    induction l with
    | nil => simp [PyData.depthAll]
    | cons x l ih => rw [List.map_cons, PyData.depthAll, ih]; simp [PyData.depth]
  simp [encK, PyData.depth, PyData.depthAll, h]
theorem cr_sortK (P : Program) (w : World) (hu : X.A.units + 64 < cLine) (hc : X.calm = true := by rfl) (hP : X.prog = P := by rfl) (hw : X.w = w := by rfl) : CallR X (.builtin "sorted") (rSortK P w) := by
  subst hP hw
  rintro pins s σ H xs us Q I r ⟨a, L, rfl, ha, hk, q⟩
  have R0 : ∃ es ep t, SetN (pairKind X.prog X.w) s.heap a L es ep t := (I.hok a _ ha).1
  obtain ⟨es, ep, t, R⟩ := R0
  rw [Vals.ref1 r]
  refine sorted_keys R (I.ok.hd hc) (fun p hp => (hk p hp).reads I) alike_encK (fun k => ⟨_, _, rfl⟩) (fun k => by rw [depth_encK]; omega) fun s' p out c L' old g o hp hg hout pm => ?_
  have hfew : L'.length < 64 := by rw [pm.length_eq]; exact R.few
  have hn : H p = none := I.hok.fresh hp
  have hz : (L'.map fun q => V.ref q.1).length ≤ sizeLine := by rw [List.length_map, sizeLine_eq]; omega
  have J : Inv X pins σ (upd H p (.lst (L'.map fun q => V.ref q.1))) s' := I.call' (ch := []) o (Un.laid old hp hn) (I.hok.laid old hp ⟨hz, out.toList, c, by rw [hout]; exact vals_keys L', hg⟩) (by rw [g]; exact I.bare) (fun _ z => nomatch z)
  exact ⟨.ref p, _, J, rfl, q L' p pm ((pm.map (·.2)).nodup_iff.mpr R.once) hfew hn⟩
/-- a dict, its keys as above and its values numbers; where the keys' own tuples stand is told beside it -/
def KDict (P : Program) (w : World) (d : Addr) (xs : List (K2 × Addr × Int)) : HO := .ext fun h => ∃ vs : List (K2 × Addr × Value), (∃ o es ep, h.get? d = some o ∧ o.ExactDict ∧ o.data = .dict es ep ∧ es.toList = vs.map (entryOfKey (pairKind P w))) ∧
  F2 (fun (v : K2 × Addr × Value) (x : K2 × Addr × Int) => v.1 = x.1 ∧ v.2.1 = x.2.1 ∧ ∃ t, v.2.2 = .int x.2.2 t) vs xs
theorem kdict_new {P : Program} {w : World} {H : Hp} {h : Heap} {d : Addr} {xs : List (K2 × Addr × Int)} (R : ∃ vs : List (K2 × Addr × Value), (∃ o es ep, h.get? d = some o ∧ o.ExactDict ∧ o.data = .dict es ep ∧ es.toList = vs.map (entryOfKey (pairKind P w))) ∧
    F2 (fun (v : K2 × Addr × Value) (x : K2 × Addr × Int) => v.1 = x.1 ∧ v.2.1 = x.2.1 ∧ ∃ t, v.2.2 = .int x.2.2 t) vs xs) : ObjOk P w H h d (KDict P w d xs) := by
  refine ⟨R, ?_, fun h1 h2 ⟨vs, ⟨o, es, ep, ho, r⟩, f⟩ k => ⟨vs, ⟨o, es, ep, k o ho, r⟩, f⟩⟩
  obtain ⟨vs, ⟨o, es, ep, ho, r⟩, f⟩ := R
  exact ⟨o, ho⟩
theorem kd_keys {vs : List (K2 × Addr × Value)} {xs : List (K2 × Addr × Int)} (f : F2 (fun (v : K2 × Addr × Value) (x : K2 × Addr × Int) => v.1 = x.1 ∧ v.2.1 = x.2.1 ∧ ∃ t, v.2.2 = .int x.2.2 t) vs xs) : vs.map (·.1) = xs.map (·.1) := by
  induction f with
  | nil => rfl
  | cons h _ ih => rw [List.map_cons, List.map_cons, ih, h.1]
/-- the dict as the library tells it -/
theorem kdict_at (I : Inv X pins σ H s) {d : Addr} {xs : List (K2 × Addr × Int)} (hd : H d = some (KDict X.prog X.w d xs)) (hk : ∀ x ∈ xs, IsK H x.2.1 x.1) (nd : (xs.map (·.1)).Nodup) :
    ∃ vs, s.heap.DictOfH (pairKind X.prog X.w) d vs ∧ F2 (fun (v : K2 × Addr × Value) (x : K2 × Addr × Int) => v.1 = x.1 ∧ v.2.1 = x.2.1 ∧ ∃ t, v.2.2 = .int x.2.2 t) vs xs := by
  obtain ⟨vs, ⟨o, es, ep, ho, hx, hdt, he⟩, f⟩ : ∃ vs : List (K2 × Addr × Value), (∃ o es ep, s.heap.get? d = some o ∧ o.ExactDict ∧ o.data = .dict es ep ∧ es.toList = vs.map (entryOfKey (pairKind X.prog X.w))) ∧
    F2 (fun (v : K2 × Addr × Value) (x : K2 × Addr × Int) => v.1 = x.1 ∧ v.2.1 = x.2.1 ∧ ∃ t, v.2.2 = .int x.2.2 t) vs xs := (I.hok d _ hd).1
  refine ⟨vs, ⟨o, es, ep, ho, hx, hdt, he, fun v hv => ?_, by rw [kd_keys f]; exact nd⟩, f⟩
  obtain ⟨i, hi, e⟩ := List.getElem_of_mem hv
  obtain ⟨x, hx2, e1, e2, _⟩ := f.get (show vs[i]? = some v by rw [List.getElem?_eq_getElem hi, e])
  rw [e1, e2]
  exact (hk x (List.mem_of_getElem? hx2)).is I
/-- how the dict takes a new key -/
def putK2 (P : Program) (w : World) : V → V → Addr → Hp → (Hp → Prop) → Prop := fun y z D H N => ∃ (xs : List (K2 × Addr × Int)) (b : Addr) (k : K2) (i : Int), y = .ref b ∧ z = .int i ∧ H D = some (KDict P w D xs) ∧ IsK H b k ∧ (∀ x ∈ xs, IsK H x.2.1 x.1) ∧ (xs.map (·.1)).Nodup ∧ k ∉ xs.map (·.1) ∧ xs.length ≤ 1000 ∧
  N (upd H D (KDict P w D (xs ++ [(k, b, i)])))
theorem putK2_ok {P : Program} {w : World} (hu : X.A.units + 64 < cLine) (hP : X.prog = P) (hw : X.w = w) : PutR X (putK2 P w) := by
  subst hP hw
  rintro pins s σ H E D y z u r N Q I ru rr ⟨xs, b, k, i, rfl, rfl, hD, hb, hk, nd, hn, hz, q⟩ fin
  obtain rfl : u = Value.ref b := ru
  obtain ⟨t, rfl⟩ := rr
  obtain ⟨vs, dd, f⟩ := kdict_at I hD hk nd
  have new : atKey vs k = none := atKey_none_of_get fun j p e => hn (by
    rw [← kd_keys f]
    exact List.mem_map.mpr ⟨_, List.mem_of_getElem? e, rfl⟩)
  refine wpAny_dictSet_heap (hsz := by rw [f.length, sizeLine_eq]; omega) (knd := pairKind X.prog X.w) (show X.A.units + 8 < cLine by omega) (hb.is I) dd fun h' dd' sb => fin _ _ (I.write (e := D) (t' := s.toks + (pairKind X.prog X.w).draws k) (by rw [hD]; trivial) (.inl rfl) (fun c o hc e => (sb.2 c hc).trans e) ?_ (kdict_new ?_)) q
  · obtain ⟨o, _, _, ho, _⟩ := dd'
    exact ⟨o, ho⟩
  · obtain ⟨o, es, ep, ho, hx, hdt, he, _⟩ := dd'
    rw [storedH_new new] at he
    exact ⟨vs ++ [(k, b, .int i t)], ⟨o, es, ep, ho, hx, hdt, he⟩, f.snoc ⟨rfl, rfl, t, rfl⟩⟩
theorem bornK {P : Program} {w : World} (hP : X.prog = P) (hw : X.w = w) : BornD X fun D => KDict P w D [] := by
  subst hP hw
  exact fun H h _ => kdict_new ⟨[], ⟨_, #[], 0, Heap.get?_push_size _ rfl, ⟨rfl, rfl, rfl⟩, rfl, rfl⟩, .nil⟩
/-- d[k] -/
def rIxK (P : Program) (w : World) : R2 := fun x y H Q => ∃ (d b : Addr) (xs : List (K2 × Addr × Int)) (k : K2) (c : Addr) (i : Int), x = .ref d ∧ y = .ref b ∧ H d = some (KDict P w d xs) ∧ IsK H b k ∧ (∀ x ∈ xs, IsK H x.2.1 x.1) ∧ (xs.map (·.1)).Nodup ∧ (k, c, i) ∈ xs ∧ Q (.int i) H
theorem ixK (P : Program) (w : World) (hu : X.A.units + 64 < cLine) (hP : X.prog = P := by rfl) (hw : X.w = w := by rfl) : IxR X (rIxK P w) := by
  subst hP hw
  rintro value slice pins s σ H x y v u Q I rx ry ⟨d, b, xs, k, c, i, rfl, rfl, hd, hb, hk, nd, hm, q⟩ hs
  obtain rfl : v = Value.ref d := rx
  obtain rfl : u = Value.ref b := ry
  obtain ⟨vs, dd, f⟩ := kdict_at I hd hk nd
  obtain ⟨j, hj, e⟩ := List.getElem_of_mem hm
  obtain ⟨⟨k1, a1, v1⟩, hv, e1, e2, t, e3⟩ := f.get' (show xs[j]? = some (k, c, i) by rw [List.getElem?_eq_getElem hj, e])
  simp only at e1 e2 e3
  subst e1 e2 e3
  obtain ⟨_, _, _, _, _, _, _, _, nd'⟩ := id dd
  exact tail_any dd.typeIs slot_dict_getitem.lookup (wpAny_getItem_heap (knd := pairKind X.prog X.w) (show X.A.units + 1 + 8 < cLine by omega) (hb.is I) dd (atKey_of_get nd' hv) ⟨.int i, H, I.tok _, ⟨t, rfl⟩, q⟩) hs
end
end Rp

/-! Sets and dicts of keys (number, tuple), evaluated; zip; dicts by numbers. -/
namespace Rp
open PySem PySem.Spec PyProof.Rows L2
abbrev rK2 : R K2 := rP rN (rT rN)
section
variable {α β : Type} {r : R α} {q : R β} {K : PySem.W.Frag} {Pg : Program} {w : World} {σ : L2.St} {H H' : Hp} {M : List Addr} {ta tb te tl : TE} {t u tt tt1 : TT} {P P' : Pr} {x : α} {y : β} {v : V} {i j j1 : Nat} {g : TG}
theorem rK2.isK {k : K2} (h : rK2 M H v k) : ∃ a, v = .ref a ∧ a ∉ M ∧ IsK H a k := by
  obtain ⟨a, v1, v2, e, n, g, h1, b, vs, e2, n2, g2, f⟩ := h
  obtain rfl : v1 = _ := h1
  subst e2
  rw [rN.map f] at g2
  exact ⟨a, e, n, b, g, g2⟩
theorem rK2.list {vs : List V} {ks : List K2} (f : F2 (rK2 M H) vs ks) : ∃ L : List (Addr × K2), vs = L.map (fun p => V.ref p.1) ∧ L.map (·.2) = ks ∧ ∀ p ∈ L, IsK H p.1 p.2 ∧ rK2 M H (.ref p.1) p.2 := by
  induction f with
  | nil => exact ⟨[], rfl, rfl, fun _ h => by cases h⟩
  | @cons v k vs ks h _ ih =>
    obtain ⟨a, e, n, z⟩ := rK2.isK h
    obtain ⟨L, e1, e2, e3⟩ := ih
    subst e
    refine ⟨(a, k) :: L, by rw [e1]; rfl, by rw [List.map_cons, e2], fun p hp => ?_⟩
    rcases List.mem_cons.mp hp with e | hp
    · subst e; exact ⟨z, h⟩
    · exact e3 p hp
/-- a list of the keys of xs, each once, in some order -/
abbrev onceP (M : List Addr) (xs : List K2) : Pr := fun H1 v => ∃ ys : List K2, ys.Nodup ∧ (∀ k, k ∈ ys ↔ k ∈ xs) ∧ ys.length ≤ 1000 ∧ rL rK2 M H1 v ys
theorem ev_sortK {xs : List K2} (d : Old M H) (ha : Ev ta σ H (as (rL rK2) M xs)) (hz : xs.length < 64) : Ev (tCB (rSortK Pg w) (tCons (tCB (rSetK K Pg w) (tCons ta tNil)) tNil)) σ H (onceP M xs) :=
  ev_cb1 (P1 := fun H1 v => ∃ (a : Addr) (L : List (Addr × K2)), v = .ref a ∧ H1 a = some (KSet Pg w a L) ∧ (∀ p ∈ L, IsK H1 p.1 p.2 ∧ rK2 M H1 (.ref p.1) p.2) ∧ ∀ k, k ∈ L.map (·.2) ↔ k ∈ xs)
    (ev_cb1 ha fun H1 v s ⟨l, vs, e, n, g, f⟩ Q k => by
      obtain ⟨ks, e1, e2, e3⟩ := rK2.list f
      subst e1
      have hlen : ks.length = xs.length := by rw [← e2, List.length_map]
      refine ⟨l, ks, by rw [e], SqL.of g, fun p hp => (e3 p hp).1, by omega, fun a L ha' gn => ?_⟩
      have s1 : Same H1 (upd H1 a (KSet Pg w a L)) := Same.new (Same.refl _) ha'
      refine k _ _ s1 ⟨a, L, rfl, upd_same, fun p hp => ?_, fun kk => ?_⟩
      · have hm := List.mem_of_mem_take (gn.from_ p hp)
        exact ⟨(e3 p hm).1.same s1, Rep.same s1 (e3 p hm).2⟩
      · rw [← e2]
        constructor
        · intro h
          obtain ⟨p, hp, e⟩ := List.mem_map.mp h
          exact List.mem_map.mpr ⟨p, List.mem_of_mem_take (gn.from_ p hp), e⟩
        · intro h
          obtain ⟨p, hp, e⟩ := List.mem_map.mp h
          rw [← e]
          exact gn.all p (by rw [List.take_length]; exact hp))
    fun H1 v s ⟨a, L, e, ga, hk, hm⟩ Q k => by
      refine ⟨a, L, by rw [e], ga, fun p hp => (hk p hp).1, fun L' p pm nd few hp => ?_⟩
      have s1 : Same H1 (upd H1 p (.lst (L'.map fun q => V.ref q.1))) := Same.new (Same.refl _) hp
      refine k _ _ s1 ⟨L'.map (·.2), nd, fun kk => ?_, by rw [List.length_map]; omega, p, _, rfl, (d.same s).fresh hp, upd_same, ?_⟩
      · rw [← hm]
        exact (pm.map (·.2)).mem_iff
      · have all : ∀ q ∈ L', rK2 M (upd H1 p (.lst (L'.map fun q => V.ref q.1))) (.ref q.1) q.2 := fun q hq => Rep.same s1 (hk q (pm.mem_iff.mp hq)).2
        generalize upd H1 p (.lst (L'.map fun q => V.ref q.1)) = H2 at all
        clear k s1 pm nd few hp
        induction L' with
        | nil => exact .nil
        | cons q L' ih => exact .cons (all q (by simp)) (ih fun z hz => all z (by simp [hz]))
/-- the dict that gives each of ys its place -/
abbrev rankP (Pg : Program) (w : World) (H : Hp) (ys : List K2) : Pr := fun H1 v => ∃ (D : Addr) (xs : List (K2 × Addr × Int)), v = .ref D ∧ H D = none ∧ H1 D = some (KDict Pg w D xs) ∧ (∀ x ∈ xs, IsK H1 x.2.1 x.1) ∧ xs.map (·.1) = ys ∧ ∀ (i : Nat) x, xs[i]? = some x → x.2.2 = (i : Int)
/-- {y: i for i, y in enumerate(ys)} -/
theorem ev_dcK {vs : List Nat} {i2 : Nat} {Pl : Hp → List K2 → Prop} (d : Old M H) (hl : Ev tl σ H (fun H1 v => ∃ ys, Pl H ys ∧ ys.Nodup ∧ ys.length ≤ 1000 ∧ rL rK2 M H1 v ys)) (hw : ∀ x y, wipe (((wipe σ vs).set j (some x)).set i2 (some y)) vs = wipe σ vs)
    (h1 : ∀ x y, (((wipe σ vs).set j (some x)).set i2 (some y))[j]? = some (some x)) (h2 : ∀ x y, (((wipe σ vs).set j (some x)).set i2 (some y))[i2]? = some (some y)) :
    Ev (tDcG (fun D => KDict Pg w D []) (putK2 Pg w) (iEnum K (tCons tl tNil)) (gTup K 2 (gCons (gName j) (gCons (gName i2) gNil))) tYes (tVar i2) (tVar j) vs) σ H (fun H1 v => ∃ ys, Pl H ys ∧ ys.Nodup ∧ rankP Pg w H ys H1 v) := fun H0 s0 Q k =>
  hl H0 s0 _ fun l H1 s1 ⟨ys, pl, nd, hz, a, ws, e, n, g, z⟩ => by
    subst e
    have s01 := s0.trans s1
    refine ⟨a, ws, rfl, SqL.of g, fun Dl hD => ?_⟩
    refine ⟨fun i m H' => m = ws.length - i ∧ i ≤ ws.length ∧ Same H1 H' ∧ ∃ xs : List (K2 × Addr × Int), H' Dl = some (KDict Pg w Dl xs) ∧ (∀ x ∈ xs, IsK H' x.2.1 x.1) ∧ xs.map (·.1) = ys.take i ∧ ∀ (i : Nat) x, xs[i]? = some x → x.2.2 = (i : Int),
      ⟨ws.length, by simp, Nat.zero_le _, Same.new (Same.refl _) hD, [], upd_same, fun _ h => (by cases h), (by simp), fun i x h => (by simp at h)⟩, ?_⟩
    rintro i m H' ⟨rfl, hi, sH, xs, gD, hk, e1, e2⟩
    have sq : SqL K H' a ws := SqL.of (sH a _ g)
    by_cases hlt : i < ws.length
    · obtain ⟨y, hy, ry⟩ := z.get (List.getElem?_eq_getElem hlt)
      have hiy : i < ys.length := (List.getElem?_eq_some_iff.mp hy).1
      have hxl : xs.length = i := by
        have := congrArg List.length e1
        rw [List.length_map, List.length_take] at this
        omega
      refine .inr ⟨⟨ws, ws[i], sq, List.getElem?_eq_getElem hlt⟩, fun H2 => Same H1 H2 ∧ ∃ xs : List (K2 × Addr × Int), H2 Dl = some (KDict Pg w Dl xs) ∧ (∀ x ∈ xs, IsK H2 x.2.1 x.1) ∧ xs.map (·.1) = ys.take (i + 1) ∧ ∀ (i : Nat) x, xs[i]? = some x → x.2.2 = (i : Int), fun H2 p2 => ⟨ws.length - (i + 1), by omega, rfl, hlt, p2⟩, fun yv H2 yl => ?_⟩
      obtain ⟨T, v, e3, nT, e4, hv⟩ := yl
      subst e3 e4
      have ev : ws[i]? = some v := hv ws sq
      rw [List.getElem?_eq_getElem hlt] at ev
      cases ev
      refine g_pairT ?_
      have sT : Same H' (upd H' T (.tup [.int (i : Int), ws[i]])) := Same.new (Same.refl _) nT
      refine ⟨hw _ _, ?_⟩
      refine tYes_if ?_
      obtain ⟨b, eb, nb, kb⟩ := rK2.isK (Rep.same (sH.trans sT) ry)
      refine ⟨_, h2 _ _, _, h1 _ _, xs, b, y, (i : Int), eb, rfl, sT _ _ gD, kb, fun x hx => (hk x hx).same sT, ?_, ?_, by omega, Same.mut (sH.trans sT) hD, xs ++ [(y, b, (i : Int))], upd_same, fun x hx => ?_, ?_, fun i' x hx => ?_⟩
      · rw [e1]; exact nd.sublist (List.take_sublist _ _)
      · rw [e1]
        intro hm
        obtain ⟨m, hm1, hm2⟩ := List.getElem_of_mem hm
        rw [List.getElem_take] at hm2
        rw [List.length_take] at hm1
        have : m = i := (List.getElem_inj nd).mp (hm2.trans (List.getElem?_eq_some_iff.mp hy).2.symm)
        omega
      · have nDl : IsK (upd H' T (.tup [.int (i : Int), ws[i]])) x.2.1 x.1 := by
          rcases List.mem_append.mp hx with hx | hx
          · exact (hk x hx).same sT
          · have : x = (y, b, (i : Int)) := by simpa using hx
            subst this
            exact kb
        obtain ⟨c, g1, g2⟩ := nDl
        have gDl : (upd H' T (.tup [.int (i : Int), ws[i]])) Dl = some (KDict Pg w Dl xs) := sT _ _ gD
        refine ⟨c, ?_, ?_⟩
        · rw [upd_ne (fun q => by rw [q, gDl] at g1; cases g1)]; exact g1
        · rw [upd_ne (fun q => by rw [q, gDl] at g2; cases g2)]; exact g2
      · rw [List.map_append, e1, List.take_add_one, hy]; rfl
      · by_cases hlt2 : i' < xs.length
        · rw [List.getElem?_append_left hlt2] at hx
          exact e2 i' x hx
        · have : i' = xs.length := by
            have := (List.getElem?_eq_some_iff.mp hx).1
            rw [List.length_append] at this
            simp at this
            omega
          subst this
          rw [List.getElem?_append_right (Nat.le_refl _)] at hx
          simp at hx
          subst hx
          rw [hxl]
    · have e : i = ws.length := by omega
      subst e
      rw [z.length, List.take_length] at e1
      exact .inl ⟨⟨ws, sq, Nat.le_refl _⟩, k _ H' (s1.trans sH) ⟨ys, pl, nd, Dl, xs, rfl, s01.free hD, gD, hk, e1, e2⟩⟩
/-- rank[k] -/
theorem ev_ixK {ys : List K2} {k : K2} (nd : ys.Nodup) (hk : k ∈ ys) (ha : Ev ta σ H (fun H1 v => ∃ H0, rankP Pg w H0 ys H1 v)) (hm : ∀ H1 H2 v, Same H1 H2 → (∃ H0, rankP Pg w H0 ys H1 v) → ∃ H0, rankP Pg w H0 ys H2 v) (hb : Ev tb σ H (as rK2 M k)) : Ev (tOp (rIxK Pg w) ta tb) σ H (as rN M (ys.idxOf k)) :=
  ev_op ha hm hb fun H1 a b s p1 p2 Q kk => by
    obtain ⟨H0, D, xs, rfl, _, gD, hx, e1, e2⟩ := p1
    obtain ⟨c, rfl, _, kc⟩ := rK2.isK p2
    have hil : ys.idxOf k < ys.length := List.idxOf_lt_length_iff.mpr hk
    have hxl : ys.idxOf k < xs.length := by rw [← e1, List.length_map] at hil; rw [← e1]; exact hil
    obtain ⟨⟨k', c', i'⟩, hxx⟩ : ∃ x, xs[ys.idxOf k]? = some x := ⟨_, List.getElem?_eq_getElem hxl⟩
    have ei : i' = ((ys.idxOf k : Nat) : Int) := e2 _ _ hxx
    have ek : k' = k := by
      have h1 : ys[ys.idxOf k]? = some k' := by
        have := congrArg (·[ys.idxOf k]?) e1
        simp only [List.getElem?_map, hxx] at this
        exact this.symm
      rw [List.getElem?_eq_getElem hil, List.getElem_idxOf] at h1
      exact (Option.some.inj h1).symm
    subst ek ei
    refine ⟨D, c, xs, k', c', _, rfl, rfl, gD, kc, hx, by rw [e1]; exact nd, List.mem_of_getElem? hxx, kk _ H1 (Same.refl _) rfl⟩
theorem rankP.same {ys : List K2} {H0 : Hp} (s : Same H H') (p : rankP Pg w H0 ys H v) : rankP Pg w H0 ys H' v := by
  obtain ⟨D, xs, e, n, g, hx, e1, e2⟩ := p
  exact ⟨D, xs, e, n, s _ _ g, fun x h => (hx x h).same s, e1, e2⟩
end
end Rp

/-! zip in a comprehension; a dict by numbers. -/
namespace Rp
open PySem PySem.Spec PyProof.Rows L2
theorem pizip (K : PySem.W.Frag) {X : Cx} {e e2 : Expr} {ta : TA} {p pos tpos : Pos} {elts : List Expr} {kk : Nat} (hg : Gl X "zip") (hm : X.mg "zip" = none) (ha : PA X [e, e2] ta) (hs : starEach [e, e2] X.env = (false, eval e X.env) :: starEach [e2] X.env := by rfl)
    (hpl : (backTo pos (starEach [e2] X.env)).any (·.1) = false := by rfl) (hK : X.K = K := by rfl) : PI X (.Tuple elts kk tpos) (.Call (.Name "zip" p) [e, e2] [] pos) (RZ.iZipA K ta) := hK ▸ RZ.pi_zipA hg hm ha hs hpl
section
variable {α β γ : Type} {r : R α} {r2 : R γ} {q : R β} {K : PySem.W.Frag} {σ : L2.St} {H H' : Hp} {M : List Addr} {ta tb te tl : TE} {t u tt tt1 : TT} {P P' : Pr} {v : V} {i j j1 : Nat} {g : TG}
/-- [e for x, y in zip(xs, ys) if t], the lists of one length -/
theorem ev_lcZn [Rep r] [Rep r2] [Rep q] {vs : List Nat} {xs : List α} {ys : List γ} {i2 : Nat} (d : Old M H) (f : α × γ → Bool) (gg : α × γ → β) (ha : Ev ta σ H (as (rL r) M xs)) (hb : Ev tb σ H (as (rL r2) M ys)) (hl : xs.length = ys.length) (hz : xs.length ≤ 1000000)
    (hw : ∀ x y, wipe (((wipe σ vs).set j (some x)).set i2 (some y)) vs = wipe σ vs)
    (ht : ∀ M' H1 v w x, Up M H M' H1 → x ∈ xs.zip ys → r M' H1 v x.1 → r2 M' H1 w x.2 → EvT tt (((wipe σ vs).set j (some v)).set i2 (some w)) H1 (f x))
    (he : ∀ M' H1 v w x, Up M H M' H1 → x ∈ xs.zip ys → r M' H1 v x.1 → r2 M' H1 w x.2 → f x = true → Ev te (((wipe σ vs).set j (some v)).set i2 (some w)) H1 (as q M' (gg x))) :
    Ev (tLc (RZ.iZipA K (tCons ta (tCons tb tNil))) (gTup K 2 (gCons (gName j) (gCons (gName i2) gNil))) tt te vs) σ H (asNew q M H (((xs.zip ys).filter f).map gg)) := fun H0 s0 Q k => by
    unfold tLc RZ.iZipA
    refine ea_2r ha hb H0 s0 _ ?_
    rintro l H1 s1 ⟨v1, v2, rfl, ⟨a, ws, rfl, n1, g1, z1⟩, ⟨b, us, rfl, n2, g2, z2⟩⟩
    have s01 := s0.trans s1
    have d1 : Old M H1 := d.same s01
    refine ⟨a, b, ws, us, rfl, .inl ⟨SqL.of g1, SqL.of g2, fun Dl hD => ?_⟩⟩
    have lws : ws.length = xs.length := z1.length
    have lus : us.length = xs.length := by rw [z2.length, hl]
    refine ⟨fun i m H' => m = xs.length - i ∧ i ≤ xs.length ∧ CwR q M H1 Dl i ((((xs.zip ys).take i).filter f).map gg) H', ⟨xs.length, by simp, Nat.zero_le _, by simpa using CwR.start hD⟩, ?_⟩
    rintro i m H' ⟨rfl, hi, c⟩
    have q1 : SqL K H' a ws := SqL.of (c.2.1 a _ g1)
    have q2 : SqL K H' b us := SqL.of (c.2.1 b _ g2)
    by_cases hlt : i < xs.length
    · obtain ⟨x, hx, rx⟩ := z1.get (List.getElem?_eq_getElem (show i < ws.length by omega))
      obtain ⟨y, hy, ry⟩ := z2.get (List.getElem?_eq_getElem (show i < us.length by omega))
      have hxy : (xs.zip ys)[i]? = some (x, y) := by rw [List.getElem?_zip_eq_some]; exact ⟨hx, hy⟩
      refine .inr ⟨⟨ws, us, _, _, q1, q2, List.getElem?_eq_getElem (by omega), List.getElem?_eq_getElem (by omega)⟩, fun H2 => CwR q M H1 Dl (i + 1) ((((xs.zip ys).take (i + 1)).filter f).map gg) H2, fun H2 p2 => ⟨xs.length - (i + 1), by omega, rfl, hlt, p2⟩, fun yv H2 yl => ?_⟩
      obtain ⟨T, x', y', e3, nT, e4, f1, f2⟩ := yl
      subst e3 e4
      have e5 : ws[i]? = some x' := f1 ws q1
      have e6 : us[i]? = some y' := f2 us q2
      rw [List.getElem?_eq_getElem (by omega)] at e5 e6
      cases e5
      cases e6
      refine g_pairT ?_
      have up := c.up d1
      have sT : Same H' (upd H' T (.tup [ws[i], us[i]])) := Same.new (Same.refl _) nT
      have upT : Up M H1 (Dl :: M) (upd H' T (.tup [ws[i], us[i]])) := ⟨up.same.trans sT, up.sub, fun h => Rep.same sT (up.lift h), up.old.same sT⟩
      have up0 : Up M H (Dl :: M) (upd H' T (.tup [ws[i], us[i]])) := ⟨s01.trans upT.same, upT.sub, fun h => upT.lift (Rep.same s01 h), upT.old⟩
      have cT : CwR q M H1 Dl i ((((xs.zip ys).take i).filter f).map gg) (upd H' T (.tup [ws[i], us[i]])) := by
        obtain ⟨c1, c2, acc, c3, c4, c5⟩ := c
        exact ⟨c1, c2.trans sT, acc, sT _ _ c3, c4, F2.same sT c5⟩
      exact ⟨hw _ _, cT.turn (by omega) (ht _ _ _ _ (x, y) up0 (List.mem_of_getElem? hxy) (upT.lift rx) (upT.lift ry)) (he _ _ _ _ (x, y) up0 (List.mem_of_getElem? hxy) (upT.lift rx) (upT.lift ry)) (take_fm _ f gg hxy)⟩
    · have e : i = xs.length := by omega
      subst e
      have e3 : (xs.zip ys).length = xs.length := by rw [List.length_zip]; omega
      have c' := c
      rw [← e3, List.take_length] at c'
      exact .inl ⟨⟨ws, us, q1, q2, .inl (by omega)⟩, k _ H' (s1.trans c.2.1) (c'.done s01)⟩
theorem ev_lcZM [Rep r] [Rep r2] [Rep q] {vs : List Nat} {xs : List α} {ys : List γ} {i2 : Nat} (d : Old M H) (gg : α × γ → β) (ha : Ev ta σ H (as (rL r) M xs)) (hb : Ev tb σ H (as (rL r2) M ys)) (hl : xs.length = ys.length) (hz : xs.length ≤ 1000000)
    (hw : ∀ x y, wipe (((wipe σ vs).set j (some x)).set i2 (some y)) vs = wipe σ vs) (he : ∀ M' H1 v w x, Up M H M' H1 → x ∈ xs.zip ys → r M' H1 v x.1 → r2 M' H1 w x.2 → Ev te (((wipe σ vs).set j (some v)).set i2 (some w)) H1 (as q M' (gg x))) :
    Ev (tLc (RZ.iZipA K (tCons ta (tCons tb tNil))) (gTup K 2 (gCons (gName j) (gCons (gName i2) gNil))) tYes te vs) σ H (as (rL q) M ((xs.zip ys).map gg)) := by
  have h := (ev_lcZn (K := K) (q := q) (te := te) (tt := tYes) d (fun _ => true) gg ha hb hl hz hw (fun _ H1 _ _ _ _ _ _ _ H2 s Q k => k H2 (Same.refl _)) (fun M' H1 v w x up hx p1 p2 _ => he M' H1 v w x up hx p1 p2)).own d
  rwa [List.filter_eq_self.mpr (fun _ _ => rfl)] at h
/-- the dict that gives each number of xs its place -/
abbrev indexP (H : Hp) (xs : List Nat) : Pr := fun H1 v => ∃ (D : Addr) (kvs : List (Key × V)), v = .ref D ∧ H D = none ∧ H1 D = some (.dK kvs) ∧ ∀ (i : Nat) x, xs[i]? = some x → valV kvs (Sum.inl (x : Int)) = some (.int (i : Int))
theorem ev_dcN {vs : List Nat} {xs : List Nat} {i2 : Nat} (d : Old M H) (nd : xs.Nodup) (hl : Ev tl σ H (as (rL rN) M xs)) (hz : xs.length ≤ 1000) (hw : ∀ x y, wipe (((wipe σ vs).set j (some x)).set i2 (some y)) vs = wipe σ vs)
    (h1 : ∀ x y, (((wipe σ vs).set j (some x)).set i2 (some y))[j]? = some (some x)) (h2 : ∀ x y, (((wipe σ vs).set j (some x)).set i2 (some y))[i2]? = some (some y)) :
    Ev (tDc (iEnum K (tCons tl tNil)) (gTup K 2 (gCons (gName j) (gCons (gName i2) gNil))) tYes (tVar i2) (tVar j) vs) σ H (indexP H xs) := fun H0 s0 Q k =>
  hl H0 s0 _ fun l H1 s1 ⟨a, ws, e, n, g, z⟩ => by
    subst e
    have s01 := s0.trans s1
    refine ⟨a, ws, rfl, SqL.of g, fun Dl hD => ?_⟩
    refine ⟨fun i m H' => m = ws.length - i ∧ i ≤ ws.length ∧ Same H1 H' ∧ ∃ kvs : List (Key × V), H' Dl = some (.dK kvs) ∧ kvs.length ≤ i ∧ ∀ (i' : Nat) x, i' < i → xs[i']? = some x → valV kvs (Sum.inl (x : Int)) = some (.int (i' : Int)),
      ⟨ws.length, by simp, Nat.zero_le _, Same.new (Same.refl _) hD, [], upd_same, Nat.le_refl _, fun i' x h => absurd h (Nat.not_lt_zero _)⟩, ?_⟩
    rintro i m H' ⟨rfl, hi, sH, kvs, gD, hlen, hv⟩
    have sq : SqL K H' a ws := SqL.of (sH a _ g)
    by_cases hlt : i < ws.length
    · obtain ⟨y, hy, ry⟩ := z.get (List.getElem?_eq_getElem hlt)
      have hiy : i < xs.length := (List.getElem?_eq_some_iff.mp hy).1
      refine .inr ⟨⟨ws, ws[i], sq, List.getElem?_eq_getElem hlt⟩, fun H2 => Same H1 H2 ∧ ∃ kvs : List (Key × V), H2 Dl = some (.dK kvs) ∧ kvs.length ≤ i + 1 ∧ ∀ (i' : Nat) x, i' < i + 1 → xs[i']? = some x → valV kvs (Sum.inl (x : Int)) = some (.int (i' : Int)), fun H2 p2 => ⟨ws.length - (i + 1), by omega, rfl, hlt, p2⟩, fun yv H2 yl => ?_⟩
      obtain ⟨T, v, e3, nT, e4, hv2⟩ := yl
      subst e3 e4
      have ev : ws[i]? = some v := hv2 ws sq
      rw [List.getElem?_eq_getElem hlt] at ev
      cases ev
      have er : ws[i] = .int ((y : Nat) : Int) := ry
      refine g_pairT ?_
      have sT : Same H' (upd H' T (.tup [.int (i : Int), ws[i]])) := Same.new (Same.refl _) nT
      refine ⟨hw _ _, ?_⟩
      refine tYes_if ?_
      refine ⟨_, h2 _ _, _, h1 _ _, kvs, Sum.inl ((y : Nat) : Int), er, sT _ _ gD, Nat.lt_of_le_of_lt (show kvs.length ≤ 1000 by omega) (by decide), Same.mut (sH.trans sT) hD, _, upd_same, ?_, fun i' x hi' hx => ?_⟩
      · have := length_putK kvs (Sum.inl ((y : Nat) : Int)) (V.int (i : Int))
        omega
      · rw [valV_put]
        by_cases e : i' = i
        · subst e
          rw [hy] at hx
          cases hx
          rw [if_pos rfl]
        · have hne : x ≠ y := fun q => by
            subst q
            exact e ((List.getElem_inj nd).mp ((List.getElem?_eq_some_iff.mp hx).2.trans (List.getElem?_eq_some_iff.mp hy).2.symm))
          rw [if_neg (fun q => hne (by injection q with q; omega))]
          exact hv i' x (by omega) hx
    · have e : i = ws.length := by omega
      subst e
      refine .inl ⟨⟨ws, sq, Nat.le_refl _⟩, k _ H' (s1.trans sH) ⟨Dl, kvs, rfl, s01.free hD, gD, fun i' x hx => hv i' x ?_ hx⟩⟩
      rw [z.length]
      exact (List.getElem?_eq_some_iff.mp hx).1
theorem indexP.same {xs : List Nat} {H0 : Hp} (s : Same H H') (p : indexP H0 xs H v) : indexP H0 xs H' v := by
  obtain ⟨D, kvs, e, n, g, h⟩ := p
  exact ⟨D, kvs, e, n, s _ _ g, h⟩
/-- index[x] -/
theorem ev_dget {xs : List Nat} {x i : Nat} (hx : xs[i]? = some x) (ha : Ev ta σ H (fun H1 v => ∃ H0, indexP H0 xs H1 v)) (hb : Ev tb σ H (as rN M x)) : Ev (tDGet ta tb) σ H (as rN M i) := fun H0 s0 Q k =>
  ha H0 s0 _ fun v H1 s1 ⟨Hz, p⟩ => hb H1 (s0.trans s1) _ fun y H2 s2 e => by
    obtain ⟨D, kvs, rfl, _, gD, h⟩ := indexP.same s2 p
    obtain rfl : y = .int ((x : Nat) : Int) := e
    exact ⟨D, .int (i : Int), rfl, .inl ⟨kvs, Sum.inl (x : Int), .inl gD, rfl, (h i x hx).symm⟩, k _ H2 (s1.trans s2) rfl⟩
end
end Rp

/-! xs.index(x); max; pairs. -/
namespace Rp
open PySem PySem.Spec PyProof.Rows L2
theorem idx_first : ∀ {N : List Nat} {k m : Nat}, N[k]? = some m → N.idxOf m ≤ k
  | [], _, _, h => by simp at h
  | x :: xs, 0, m, h => by simp at h; subst h; simp
  | x :: xs, k + 1, m, h => by
    by_cases e : x = m
    · subst e; simp
    · have := idx_first (N := xs) (k := k) (m := m) (by simpa using h)
      rw [List.idxOf_cons]
      simp only [show (x == m) = false by simpa using e, cond_false]
      omega
section
variable {α β γ : Type} {r : R α} {q : R β} {K : PySem.W.Frag} {σ : L2.St} {H H' : Hp} {M : List Addr} {ta tb te tl : TE} {P P' : Pr} {v : V} {i j : Nat}
theorem ev_index {N : List Nat} {m : Nat} (hm : m ∈ N) (ha : Ev ta σ H (as (rL rN) M N)) (hb : Ev tb σ H (as rN M m)) : Ev (tBM K "list" (rIndex K) ta (tCons tb tNil)) σ H (as rN M (N.idxOf m)) := fun H0 s0 Q k =>
  ha H0 s0 _ fun x H1 s1 ⟨a, vs, e, n, g, f⟩ => by
    subst e
    refine ⟨Or.inl ⟨rfl, vs, SqL.of g⟩, hb H1 (s0.trans s1) _ fun y H2 s2 e => ?_⟩
    obtain rfl : y = _ := e
    have ev := rN.map f
    subst ev
    have hlt := List.idxOf_lt_length_iff.mpr hm
    refine ⟨a, _, _, N.idxOf m, .int (m : Int), rfl, rfl, SqL.of (s2 _ _ g), rfl, ?_, ?_, ?_, fun k z hk hz => ?_, k _ H2 (s1.trans s2) rfl⟩
    · rw [List.all_eq_true]
      intro x hx
      obtain ⟨n, _, rfl⟩ := List.mem_map.mp hx
      rfl
    · rw [List.getElem?_map, List.getElem?_eq_getElem hlt, List.getElem_idxOf]; rfl
    · show eqV _ _ = true
      simp [eqV]
    · rw [List.getElem?_map] at hz
      obtain ⟨n, hn, rfl⟩ := Option.map_eq_some_iff.mp hz
      have hne : n ≠ m := fun q => by
        subst q
        have := idx_first hn
        omega
      simp [eqV]
      omega
end
end Rp

/-! A list of lists of one's own grows, takes a new row; sorted(xs). -/
namespace Rp
open PySem PySem.Spec PyProof.Rows L2
section
variable {γ : Type} {enc : γ → V} {a b p : Addr} {bs L : List Addr} {rows : List (List γ)} {ys : List γ} {H H' : Hp} {i : Nat}
theorem Mat.snoc (m : Mat enc H a bs rows) (hb : H b = some (.lst (ys.map enc))) (nb : b ∉ bs) (na : b ≠ a) : Mat enc (L2.upd H a (.lst (bs.map V.ref ++ [.ref b]))) a (bs ++ [b]) (rows ++ [ys]) := by
  refine ⟨by rw [upd_same]; simp, ?_, ?_, by simp [m.len], fun i c zs h1 h2 => ?_⟩
  · rw [List.nodup_append]
    refine ⟨m.nd, by simp, fun x hx y hy => ?_⟩
    have : y = b := by simpa using hy
    subst this
    exact fun q => nb (q ▸ hx)
  · rw [List.mem_append]
    rintro (q | q)
    · exact m.out q
    · exact na (List.mem_singleton.mp q).symm
  · by_cases hlt : i < bs.length
    · rw [List.getElem?_append_left hlt] at h1
      rw [List.getElem?_append_left (by rw [← m.len]; exact hlt)] at h2
      have hc := List.mem_of_getElem? h1
      rw [upd_ne (fun q => m.out (by rw [← q]; exact hc))]
      exact m.row i c zs h1 h2
    · have e : i = bs.length := by
        have := (List.getElem?_eq_some_iff.mp h1).1
        rw [List.length_append] at this
        simp at this
        omega
      subst e
      rw [List.getElem?_append_right (Nat.le_refl _)] at h1
      rw [List.getElem?_append_right (by rw [m.len]; exact Nat.le_refl _), m.len] at h2
      simp at h1 h2
      subst h1 h2
      rw [upd_ne na]
      exact hb
theorem Mat.swap (m : Mat enc H a bs rows) (hb : H b = some (.lst (ys.map enc))) (nb : b ∉ bs) (na : b ≠ a) : Mat enc (L2.upd H a (.lst ((bs.map V.ref).set i (.ref b)))) a (bs.set i b) (rows.set i ys) := by
  refine ⟨by rw [upd_same, List.map_set], ?_, ?_, by simp [m.len], fun k c zs h1 h2 => ?_⟩
  · refine List.pairwise_iff_getElem.mpr fun x y hx hy hxy => ?_
    rw [List.length_set] at hx hy
    rw [List.getElem_set, List.getElem_set]
    by_cases e1 : i = x
    · rw [if_pos e1, if_neg (by omega)]
      intro q
      exact nb (by rw [q]; exact List.getElem_mem hy)
    · rw [if_neg e1]
      by_cases e2 : i = y
      · rw [if_pos e2]
        intro q
        exact nb (by rw [← q]; exact List.getElem_mem hx)
      · rw [if_neg e2]
        exact List.pairwise_iff_getElem.mp m.nd x y hx hy hxy
  · intro q
    rcases List.mem_or_eq_of_mem_set q with q | q
    · exact m.out q
    · exact na q.symm
  · rw [List.getElem?_set] at h1 h2
    by_cases e : i = k
    · subst e
      rw [if_pos rfl] at h1 h2
      split at h1
      · rename_i hl
        rw [if_pos (by rw [← m.len]; exact hl)] at h2
        cases h1
        cases h2
        rw [upd_ne na]
        exact hb
      · cases h1
    · rw [if_neg e] at h1 h2
      rw [upd_ne (fun q => m.out (by rw [← q]; exact List.mem_of_getElem? h1))]
      exact m.row k c zs h1 h2
end
theorem pw_lt_of {l : List Nat} (h : l.Pairwise (· ≤ ·)) (nd : l.Nodup) : l.Pairwise (· < ·) := List.Pairwise.imp (fun ⟨h1, h2⟩ => Nat.lt_of_le_of_ne h1 h2) (List.pairwise_and_iff.mpr ⟨h, nd⟩)
section
variable {K : PySem.W.Frag} {σ : L2.St} {H H' : Hp} {M : List Addr} {ta tb te tl : TE} {P P' : Pr} {v : V} {i j : Nat}
/-- sorted(xs), xs numbers each once -/
theorem ev_sorted {L : List Nat} (nd : L.Nodup) (hz : L.length < 64) (ha : Ev ta σ H (as (rL rN) M L)) : Ev (tCB (rSorted K) (tCons ta tNil)) σ H (newF (fun n : Nat => V.int (n : Int)) H (asc L)) :=
  ev_cb1 ha fun H1 v s ⟨a, vs, e, n, g, f⟩ Q k => ⟨a, zs L, by rw [e], by rw [zs_V, ← rN.map f]; exact SqL.of g, by simpa using hz, fun ns p pm pw hp => by
    have e2 : ns = zs (asc L) := by
      refine asc_zs ?_ fun k => pm.mem_iff
      have nd2 : ns.Nodup := pm.nodup_iff.mpr (List.pairwise_map.mpr (nd.imp fun h e => h (by omega)))
      exact List.Pairwise.imp (fun ⟨h1, h2⟩ => by omega) (List.pairwise_and_iff.mpr ⟨pw, nd2⟩)
    subst e2
    rw [zs_V]
    exact k _ _ (Same.new (Same.refl _) hp) ⟨p, rfl, s.free hp, upd_same⟩⟩
end
end Rp

/-! [n, xs] as a list; xs.index(x) of data. -/
namespace Rp
open PySem PySem.Spec PyProof.Rows L2
theorem idxOf_first {α : Type} [BEq α] [LawfulBEq α] : ∀ {l : List α} {k : Nat} {m : α}, l[k]? = some m → l.idxOf m ≤ k
  | [], _, _, h => by simp at h
  | x :: xs, 0, m, h => by simp at h; subst h; simp
  | x :: xs, k + 1, m, h => by
    rcases Classical.em (x = m) with e | e
    · subst e; simp
    · have := idxOf_first (l := xs) (k := k) (m := m) (by simpa using h)
      rw [List.idxOf_cons]
      simp only [show (x == m) = false by simpa using e, cond_false]
      omega
theorem units65 {k : Nat} {A : Around} (r : Room k A) : A.units + 65 < cLine := by have := r.un; omega
theorem mindexD (K : PySem.W.Frag) {X : Cx} (hu : X.A.units + 65 < cLine) (h : X.K = K := by rfl) : MtR X "list.index" (rIndexD K) := h ▸ mt_indexD hu
/-- a list of a number and a list of numbers -/
def rKL : R (Nat × List Nat) := fun M H v x => ∃ a b, v = .ref a ∧ a ∉ M ∧ H a = some (.lst [.int (x.1 : Int), b]) ∧ rL rN M H b x.2
instance : Rep rKL where
  mono := fun k ⟨a, b, e, n, h, f⟩ => ⟨a, b, e, n, k a _ n h, Rep.mono k f⟩
  sub := fun s ⟨a, b, e, n, h, f⟩ => ⟨a, b, e, fun z => n (s a z), h, Rep.sub s f⟩
  new := fun hp ⟨a, b, e, n, h, f⟩ => ⟨a, b, e, fun z => (List.mem_cons.mp z).elim (ne_of_none h hp) n, h, Rep.new hp f⟩
instance : Data rKL (fun x : Nat × List Nat => PyData.list [.int (x.1 : Int), .list (x.2.map fun n : Nat => .int (n : Int))]) 2 where
  dp := fun {K M H v x} ⟨a, b, e, n, h, f⟩ => by
    subst e
    exact .lst (SqL.of h) (.cons (.int _) (.cons (Data.dp (r := rL rN) f) .nil))
  can := fun x => by
    have h := Data.can (r := rL rN) x.2
    simp [PyData.canLay0, PyData.canLayAll0] at h ⊢
    exact h
  dep := fun x => by
    have h := Data.dep (r := rL rN) x.2
    simp [PyData.depth, PyData.depthAll] at h ⊢
    omega
instance : DataEq rKL (fun x : Nat × List Nat => PyData.list [.int (x.1 : Int), .list (x.2.map fun n : Nat => .int (n : Int))]) := ⟨fun x y => by
  have h1 := DataEq.eqv (r := rN) x.1 y.1
  have h2 := DataEq.eqv (r := rL rN) x.2 y.2
  simp only [PyData.eqv, PyData.eqvAll, Bool.and_eq_true, and_true, Prod.ext_iff] at h1 h2 ⊢
  rw [h2]
  simp
  omega⟩
section
variable {α β γ : Type} {r : R α} {K : PySem.W.Frag} {σ : L2.St} {H H' : Hp} {M : List Addr} {ta tb te tl : TE} {P P' : Pr} {v : V} {i j n : Nat} {dt : α → PyData}
theorem ev_indexD [Rep r] [Data r dt n] [DataEq r dt] [BEq α] [LawfulBEq α] {xs : List α} {x : α} (hn : n + 1 ≤ 64 := by decide) (hm : x ∈ xs) (ha : Ev ta σ H (as (rL r) M xs)) (hb : Ev tb σ H (as r M x)) : Ev (tBM K "list" (rIndexD K) ta (tCons tb tNil)) σ H (as rN M (xs.idxOf x)) := fun H0 s0 Q k =>
  ha H0 s0 _ fun l H1 s1 ⟨a, vs, e, nn, g, f⟩ => by
    subst e
    refine ⟨Or.inl ⟨rfl, vs, SqL.of g⟩, hb H1 (s0.trans s1) _ fun y H2 s2 py => ?_⟩
    have hlt := List.idxOf_lt_length_iff.mpr hm
    have sh : ∀ d : PyData, d.canLay0 = true → d.depth ≤ 64 → SeqAt.shaped d = true := fun d h1 h2 => by
      unfold SeqAt.shaped
      rw [h1, decide_eq_true h2]
      rfl
    have pl : rL r M H2 (.ref a) xs := Rep.same s2 ⟨a, vs, rfl, nn, g, f⟩
    have dpl : Dp K H2 (.ref a) (PyData.list (xs.map dt)) := Data.dp (r := rL r) pl
    have c1 : (PyData.list (xs.map dt)).canLay0 = true := Data.can (r := rL r) xs
    have c2 : (PyData.list (xs.map dt)).depth ≤ n + 1 := Data.dep (r := rL r) xs
    refine ⟨a, y, dt x, xs.map dt, xs.idxOf x, dt x, rfl, rfl, dpl, Data.dp py, sh _ c1 (Nat.le_trans c2 hn), sh _ (Data.can (r := r) x) (by have := Data.dep (r := r) x; omega), ?_, (DataEq.eqv (r := r) x x).mpr rfl, fun m z hm' hz => ?_, k _ H2 (s1.trans s2) rfl⟩
    · rw [List.getElem?_map, List.getElem?_eq_getElem hlt, List.getElem_idxOf]
      rfl
    · rw [List.getElem?_map] at hz
      obtain ⟨z', hz', rfl⟩ := Option.map_eq_some_iff.mp hz
      cases hq : PyData.eqv (dt z') (dt x) with
      | false => rfl
      | true =>
        have e := (DataEq.eqv (r := r) z' x).mp hq
        subst e
        have := idxOf_first hz'
        omega
end
end Rp

/-! x in xs; isinstance. -/
namespace Rp
open PySem PySem.Spec PyProof.Rows L2
theorem cisi (K : PySem.W.Frag) {X : Cx} (h : X.K = K := by rfl) : CallR X (.builtin "isinstance") (rIsi K) := h ▸ call_isi
section
variable {α β γ : Type} {r : R α} {K : PySem.W.Frag} {σ : L2.St} {H H' : Hp} {M : List Addr} {ta tb te tl : TE} {P P' : Pr} {v : V} {i j n : Nat}
theorem inV_nat {x : Nat} {L : List Nat} : inV (.int (x : Int)) (L.map fun n : Nat => V.int (n : Int)) = decide (x ∈ L) := by
  rw [Bool.eq_iff_iff, decide_eq_true_eq]
  unfold inV
  rw [List.any_eq_true]
  constructor
  · rintro ⟨y, hy, e⟩
    obtain ⟨n, hn, rfl⟩ := List.mem_map.mp hy
    have : (n : Int) = (x : Int) := by simpa [eqV] using e
    have : n = x := by omega
    rw [← this]; exact hn
  · intro h
    exact ⟨_, List.mem_map.mpr ⟨x, h, rfl⟩, by simp [eqV]⟩
theorem all_flat {L : List Nat} : (L.map fun n : Nat => V.int (n : Int)).all flatV = true := by
  rw [List.all_eq_true]
  intro x hx
  obtain ⟨n, _, rfl⟩ := List.mem_map.mp hx
  rfl
theorem ev_in {x : Nat} {L : List Nat} (ha : Ev ta σ H (as rN M x)) (hb : Ev tb σ H (as (rL rN) M L)) : Ev (tOp (rIn K false) ta tb) σ H (as rB M (decide (x ∈ L))) :=
  ev_op2 ha hb fun H1 a b _ e1 e2 Q k => by
    obtain rfl : a = _ := e1
    obtain ⟨l, vs, rfl, _, g, f⟩ := e2
    rw [rN.map f] at g
    exact ⟨l, _, rfl, .inl (SqL.of g), rfl, all_flat, k _ H1 (Same.refl _) (by show V.bl _ = V.bl _; rw [inV_nat]; rfl)⟩
theorem ev_nin {x : Nat} {L : List Nat} (ha : Ev ta σ H (as rN M x)) (hb : Ev tb σ H (as (rL rN) M L)) : Ev (tOp (rIn K true) ta tb) σ H (as rB M (!decide (x ∈ L))) :=
  ev_op2 ha hb fun H1 a b _ e1 e2 Q k => by
    obtain rfl : a = _ := e1
    obtain ⟨l, vs, rfl, _, g, f⟩ := e2
    rw [rN.map f] at g
    exact ⟨l, _, rfl, .inl (SqL.of g), rfl, all_flat, k _ H1 (Same.refl _) (by show V.bl _ = V.bl _; rw [inV_nat]; rfl)⟩
theorem ev_isi {T : String} {t : Value} {b : Bool} (ha : Ev ta σ H P) (hm : ∀ H1 v, P H1 v → TyX K H1 v t) (e : PySem.W.kitOne K t (.type T) = some b) : Ev (tCB (rIsi K) (tCons ta (tCons (tC (.ty T)) tNil))) σ H (as rB M b) := fun H1 s Q k =>
  ha H1 s _ fun v H2 s2 p => ⟨v, .ty T, t, .type T, b, rfl, .ty T, hm H2 v p, e, k _ H2 s2 rfl⟩
theorem kit_ll : PySem.W.kitOne K (.type "list") (.type "list") = some true := if_pos (beq_self_eq_true _)
theorem kit_tt : PySem.W.kitOne K (.type "tuple") (.type "tuple") = some true := if_pos (beq_self_eq_true _)
theorem kit_ii : PySem.W.kitOne K (.type "int") (.type "int") = some true := if_pos (beq_self_eq_true _)
theorem kit_bb : PySem.W.kitOne K (.type "bool") (.type "bool") = some true := if_pos (beq_self_eq_true _)
theorem kit_ib : PySem.W.kitOne K (.type "int") (.type "bool") = some false := by rfl
theorem ty_list {xs : List α} (h : rL r M H v xs) : TyX K H v (.type "list") := by
  obtain ⟨a, vs, rfl, _, g, _⟩ := h
  exact .base (.lst g)
theorem ty_nat {x : Nat} (h : rN M H v x) : TyX K H v (.type "int") := by
  obtain rfl : v = _ := h
  exact .base (.int _)
theorem ty_bl {x : Bool} (h : rB M H v x) : TyX K H v (.type "bool") := by
  obtain rfl : v = _ := h
  exact .base (.bl _)
end
end Rp

/-! the text by its places, one abbreviation a def (printed by gen_head.py) -/
namespace K80
open PySem PySem.Spec PyProof.Rows L2
def top (i : Nat) : Stmt := PySem.Challenge.pw_setnests_k80_whole_drawings_as_sketches.main.body.getD i (.Pass ⟨0, 0, 0, 0⟩)
abbrev sReachable : Stmt := top 1
abbrev sSettledPlaces : Stmt := top 2
abbrev sAreMatched : Stmt := top 4
abbrev sGreatestLikeness : Stmt := top 5
abbrev sPairsAlike : Stmt := top 6
abbrev sSketchStands : Stmt := top 7
abbrev sBuildDrawing : Stmt := top 12
abbrev sNumbersHeld : Stmt := top 14
abbrev sRanksOf : Stmt := top 15
abbrev sLikenessOf : Stmt := top 16
abbrev sLeastDrawing : Stmt := top 17
abbrev sLawStart : Stmt := top 19
abbrev sLawDraw : Stmt := top 20
abbrev sLawFree : Stmt := top 21
abbrev sLawLower : Stmt := top 22
abbrev sLawDoubled : Stmt := top 23
abbrev sLawDrawing : Stmt := top 24
abbrev sLawClasses : Stmt := top 25
abbrev sLawSettled : Stmt := top 26
abbrev sLawReached : Stmt := top 27
abbrev sLawIsDrawing : Stmt := top 28
abbrev sLawStands : Stmt := top 29
abbrev sLawAsHeld : Stmt := top 30
abbrev sLawLeast : Stmt := top 31
abbrev sLaw : Stmt := top 32
def dReachable : He.DefD := ⟨("reachable", none), "reachable", "reachable", defArgs sReachable, defBody sReachable, defScope sReachable, [], []⟩
def dSettledPlaces : He.DefD := ⟨("settled_places", none), "settled_places", "settled_places", defArgs sSettledPlaces, defBody sSettledPlaces, defScope sSettledPlaces, [], []⟩
def dAreMatched : He.DefD := ⟨("are_matched", none), "are_matched", "are_matched", defArgs sAreMatched, defBody sAreMatched, defScope sAreMatched, [], []⟩
def dGreatestLikeness : He.DefD := ⟨("greatest_likeness", none), "greatest_likeness", "greatest_likeness", defArgs sGreatestLikeness, defBody sGreatestLikeness, defScope sGreatestLikeness, [], []⟩
def dPairsAlike : He.DefD := ⟨("pairs_alike", none), "pairs_alike", "pairs_alike", defArgs sPairsAlike, defBody sPairsAlike, defScope sPairsAlike, [], [("rings", .bl false)]⟩
def dSketchStands : He.DefD := ⟨("sketch_stands", none), "sketch_stands", "sketch_stands", defArgs sSketchStands, defBody sSketchStands, defScope sSketchStands, [], [("rings", .bl false)]⟩
def dBuildDrawing : He.DefD := ⟨("build_drawing", none), "build_drawing", "build_drawing", defArgs sBuildDrawing, defBody sBuildDrawing, defScope sBuildDrawing, [], [("rings", .bl false)]⟩
def dNumbersHeld : He.DefD := ⟨("numbers_held", none), "numbers_held", "numbers_held", defArgs sNumbersHeld, defBody sNumbersHeld, defScope sNumbersHeld, [], []⟩
def dRanksOf : He.DefD := ⟨("ranks_of", none), "ranks_of", "ranks_of", defArgs sRanksOf, defBody sRanksOf, defScope sRanksOf, [], []⟩
def dLikenessOf : He.DefD := ⟨("likeness_of", none), "likeness_of", "likeness_of", defArgs sLikenessOf, defBody sLikenessOf, defScope sLikenessOf, [], []⟩
def dLeastDrawing : He.DefD := ⟨("least_drawing", none), "least_drawing", "least_drawing", defArgs sLeastDrawing, defBody sLeastDrawing, defScope sLeastDrawing, [], []⟩
def dLawStart : He.DefD := ⟨("_law_start", none), "_law_start", "_law_start", defArgs sLawStart, defBody sLawStart, defScope sLawStart, [], []⟩
def dLawDraw : He.DefD := ⟨("_law_draw", none), "_law_draw", "_law_draw", defArgs sLawDraw, defBody sLawDraw, defScope sLawDraw, [], []⟩
def dLawFree : He.DefD := ⟨("_law_free", none), "_law_free", "_law_free", defArgs sLawFree, defBody sLawFree, defScope sLawFree, [], []⟩
def dLawLower : He.DefD := ⟨("_law_lower", none), "_law_lower", "_law_lower", defArgs sLawLower, defBody sLawLower, defScope sLawLower, [], []⟩
def dLawDoubled : He.DefD := ⟨("_law_doubled", none), "_law_doubled", "_law_doubled", defArgs sLawDoubled, defBody sLawDoubled, defScope sLawDoubled, [], []⟩
def dLawDrawing : He.DefD := ⟨("_law_drawing", none), "_law_drawing", "_law_drawing", defArgs sLawDrawing, defBody sLawDrawing, defScope sLawDrawing, [], []⟩
def dLawClasses : He.DefD := ⟨("_law_classes", none), "_law_classes", "_law_classes", defArgs sLawClasses, defBody sLawClasses, defScope sLawClasses, [], []⟩
def dLawSettled : He.DefD := ⟨("_law_settled", none), "_law_settled", "_law_settled", defArgs sLawSettled, defBody sLawSettled, defScope sLawSettled, [], []⟩
def dLawReached : He.DefD := ⟨("_law_reached", none), "_law_reached", "_law_reached", defArgs sLawReached, defBody sLawReached, defScope sLawReached, [], []⟩
def dLawIsDrawing : He.DefD := ⟨("_law_is_drawing", none), "_law_is_drawing", "_law_is_drawing", defArgs sLawIsDrawing, defBody sLawIsDrawing, defScope sLawIsDrawing, [], []⟩
def dLawStands : He.DefD := ⟨("_law_stands", none), "_law_stands", "_law_stands", defArgs sLawStands, defBody sLawStands, defScope sLawStands, [], []⟩
def dLawAsHeld : He.DefD := ⟨("_law_as_held", none), "_law_as_held", "_law_as_held", defArgs sLawAsHeld, defBody sLawAsHeld, defScope sLawAsHeld, [], []⟩
def dLawLeast : He.DefD := ⟨("_law_least", none), "_law_least", "_law_least", defArgs sLawLeast, defBody sLawLeast, defScope sLawLeast, [], []⟩
def dLaw : He.DefD := ⟨("law", none), "law", "law", defArgs sLaw, defBody sLaw, defScope sLaw, [], []⟩
def fn : List He.DefD := [dReachable, dSettledPlaces, dAreMatched, dGreatestLikeness, dPairsAlike, dSketchStands, dBuildDrawing, dNumbersHeld, dRanksOf, dLikenessOf, dLeastDrawing, dLawStart, dLawDraw, dLawFree, dLawLower, dLawDoubled, dLawDrawing, dLawClasses, dLawSettled, dLawReached, dLawIsDrawing, dLawStands, dLawAsHeld, dLawLeast, dLaw]
def fa : List He.Fa := [.glo "reachable", .glo "settled_places", .glo "are_matched", .glo "greatest_likeness", .glo "pairs_alike", .glo "sketch_stands", .glo "build_drawing", .glo "numbers_held", .glo "ranks_of", .glo "likeness_of", .glo "least_drawing", .glo "_law_start", .glo "_law_draw", .glo "_law_free", .glo "_law_lower", .glo "_law_doubled", .glo "_law_drawing", .glo "_law_classes", .glo "_law_settled", .glo "_law_reached", .glo "_law_is_drawing", .glo "_law_stands", .glo "_law_as_held", .glo "_law_least", .glo "law", .free "ValueError", .free "abs", .free "any", .free "bool", .free "enumerate", .free "int", .free "isinstance", .free "len", .free "list", .free "max", .free "range", .free "set", .free "sorted", .free "tuple", .free "zip", .glo "SetnestsError", .glo "NotStanding"]
/-- what the module's names stand for -/
structure Tx (K : PySem.W.Frag) (mg : Str → Option Value) : Prop where
  gReachable : mg "reachable" = some (.ref (He.ga K "reachable"))
  gSettledPlaces : mg "settled_places" = some (.ref (He.ga K "settled_places"))
  gAreMatched : mg "are_matched" = some (.ref (He.ga K "are_matched"))
  gGreatestLikeness : mg "greatest_likeness" = some (.ref (He.ga K "greatest_likeness"))
  gPairsAlike : mg "pairs_alike" = some (.ref (He.ga K "pairs_alike"))
  gSketchStands : mg "sketch_stands" = some (.ref (He.ga K "sketch_stands"))
  gBuildDrawing : mg "build_drawing" = some (.ref (He.ga K "build_drawing"))
  gNumbersHeld : mg "numbers_held" = some (.ref (He.ga K "numbers_held"))
  gRanksOf : mg "ranks_of" = some (.ref (He.ga K "ranks_of"))
  gLikenessOf : mg "likeness_of" = some (.ref (He.ga K "likeness_of"))
  gLeastDrawing : mg "least_drawing" = some (.ref (He.ga K "least_drawing"))
  gLawStart : mg "_law_start" = some (.ref (He.ga K "_law_start"))
  gLawDraw : mg "_law_draw" = some (.ref (He.ga K "_law_draw"))
  gLawFree : mg "_law_free" = some (.ref (He.ga K "_law_free"))
  gLawLower : mg "_law_lower" = some (.ref (He.ga K "_law_lower"))
  gLawDoubled : mg "_law_doubled" = some (.ref (He.ga K "_law_doubled"))
  gLawDrawing : mg "_law_drawing" = some (.ref (He.ga K "_law_drawing"))
  gLawClasses : mg "_law_classes" = some (.ref (He.ga K "_law_classes"))
  gLawSettled : mg "_law_settled" = some (.ref (He.ga K "_law_settled"))
  gLawReached : mg "_law_reached" = some (.ref (He.ga K "_law_reached"))
  gLawIsDrawing : mg "_law_is_drawing" = some (.ref (He.ga K "_law_is_drawing"))
  gLawStands : mg "_law_stands" = some (.ref (He.ga K "_law_stands"))
  gLawAsHeld : mg "_law_as_held" = some (.ref (He.ga K "_law_as_held"))
  gLawLeast : mg "_law_least" = some (.ref (He.ga K "_law_least"))
  gLaw : mg "law" = some (.ref (He.ga K "law"))
  f_ValueError : mg "ValueError" = none
  f_abs : mg "abs" = none
  f_any : mg "any" = none
  f_bool : mg "bool" = none
  f_enumerate : mg "enumerate" = none
  f_int : mg "int" = none
  f_isinstance : mg "isinstance" = none
  f_len : mg "len" = none
  f_list : mg "list" = none
  f_max : mg "max" = none
  f_range : mg "range" = none
  f_set : mg "set" = none
  f_sorted : mg "sorted" = none
  f_tuple : mg "tuple" = none
  f_zip : mg "zip" = none
  cSetnestsError : mg "SetnestsError" = some (.ref (He.ga K "SetnestsError"))
  cNotStanding : mg "NotStanding" = some (.ref (He.ga K "NotStanding"))
theorem Tx.of {K : PySem.W.Frag} {mg : Str → Option Value} {h : Heap} (X : K.In h) (G : h.Ns mainGlobals mg) (c : He.SaysD fa fn K) : Tx K mg where
  gReachable := He.glo_ok X G (c.fact 0 (f := .glo "reachable") rfl)
  gSettledPlaces := He.glo_ok X G (c.fact 1 (f := .glo "settled_places") rfl)
  gAreMatched := He.glo_ok X G (c.fact 2 (f := .glo "are_matched") rfl)
  gGreatestLikeness := He.glo_ok X G (c.fact 3 (f := .glo "greatest_likeness") rfl)
  gPairsAlike := He.glo_ok X G (c.fact 4 (f := .glo "pairs_alike") rfl)
  gSketchStands := He.glo_ok X G (c.fact 5 (f := .glo "sketch_stands") rfl)
  gBuildDrawing := He.glo_ok X G (c.fact 6 (f := .glo "build_drawing") rfl)
  gNumbersHeld := He.glo_ok X G (c.fact 7 (f := .glo "numbers_held") rfl)
  gRanksOf := He.glo_ok X G (c.fact 8 (f := .glo "ranks_of") rfl)
  gLikenessOf := He.glo_ok X G (c.fact 9 (f := .glo "likeness_of") rfl)
  gLeastDrawing := He.glo_ok X G (c.fact 10 (f := .glo "least_drawing") rfl)
  gLawStart := He.glo_ok X G (c.fact 11 (f := .glo "_law_start") rfl)
  gLawDraw := He.glo_ok X G (c.fact 12 (f := .glo "_law_draw") rfl)
  gLawFree := He.glo_ok X G (c.fact 13 (f := .glo "_law_free") rfl)
  gLawLower := He.glo_ok X G (c.fact 14 (f := .glo "_law_lower") rfl)
  gLawDoubled := He.glo_ok X G (c.fact 15 (f := .glo "_law_doubled") rfl)
  gLawDrawing := He.glo_ok X G (c.fact 16 (f := .glo "_law_drawing") rfl)
  gLawClasses := He.glo_ok X G (c.fact 17 (f := .glo "_law_classes") rfl)
  gLawSettled := He.glo_ok X G (c.fact 18 (f := .glo "_law_settled") rfl)
  gLawReached := He.glo_ok X G (c.fact 19 (f := .glo "_law_reached") rfl)
  gLawIsDrawing := He.glo_ok X G (c.fact 20 (f := .glo "_law_is_drawing") rfl)
  gLawStands := He.glo_ok X G (c.fact 21 (f := .glo "_law_stands") rfl)
  gLawAsHeld := He.glo_ok X G (c.fact 22 (f := .glo "_law_as_held") rfl)
  gLawLeast := He.glo_ok X G (c.fact 23 (f := .glo "_law_least") rfl)
  gLaw := He.glo_ok X G (c.fact 24 (f := .glo "law") rfl)
  f_ValueError := He.free_ok X G (c.fact 25 (f := .free "ValueError") rfl)
  f_abs := He.free_ok X G (c.fact 26 (f := .free "abs") rfl)
  f_any := He.free_ok X G (c.fact 27 (f := .free "any") rfl)
  f_bool := He.free_ok X G (c.fact 28 (f := .free "bool") rfl)
  f_enumerate := He.free_ok X G (c.fact 29 (f := .free "enumerate") rfl)
  f_int := He.free_ok X G (c.fact 30 (f := .free "int") rfl)
  f_isinstance := He.free_ok X G (c.fact 31 (f := .free "isinstance") rfl)
  f_len := He.free_ok X G (c.fact 32 (f := .free "len") rfl)
  f_list := He.free_ok X G (c.fact 33 (f := .free "list") rfl)
  f_max := He.free_ok X G (c.fact 34 (f := .free "max") rfl)
  f_range := He.free_ok X G (c.fact 35 (f := .free "range") rfl)
  f_set := He.free_ok X G (c.fact 36 (f := .free "set") rfl)
  f_sorted := He.free_ok X G (c.fact 37 (f := .free "sorted") rfl)
  f_tuple := He.free_ok X G (c.fact 38 (f := .free "tuple") rfl)
  f_zip := He.free_ok X G (c.fact 39 (f := .free "zip") rfl)
  cSetnestsError := He.glo_ok X G (c.fact 40 (f := .glo "SetnestsError") rfl)
  cNotStanding := He.glo_ok X G (c.fact 41 (f := .glo "NotStanding") rfl)
end K80
namespace K80
open PySem PySem.Spec PyProof.Rows L2
/-- a def of the text without defaults -/
abbrev FD (K : PySem.W.Frag) (x : Str) (st : Stmt) (f : Addr) (fd : FuncData) : Prop := FunD K x x (defArgs st) (defBody st) (defScope st) [] [] f fd
end K80

namespace K80
open PySem PySem.Spec PyProof.Rows L2 Rp
/-- a def of the text with the keyword rings, False by default -/
abbrev FR (K : PySem.W.Frag) (x : Str) (st : Stmt) (f : Addr) (fd : FuncData) : Prop := FunD K x x (defArgs st) (defBody st) (defScope st) [] [("rings", V.bl false)] f fd
section
variable {K : PySem.W.Frag} {f : Addr} {fd : FuncData}
theorem kb_of {x qual : Str} {params : Arguments} {body : List Stmt} {scope : Scope} {kws : List (Str × V)} {ps ks : List Str} {n : Nat} (F : FunD K x qual params body scope [] kws f fd)
    (h : ∀ (kV doc pm : Value) (an : Option Addr) (cdv ct : Value) (us ws : List Value), us.length = n → ws.length = ks.length → bindArgs (PySem.W.fnOf x qual params body scope .none kV doc pm an cdv ct) ⟨us, ks.zip ws⟩ = pure (ps.zip (us ++ ws))) :
    KBn K fd ps n ks (fun us ws => us ++ ws) (fun vs zs => vs ++ zs) := by
  obtain ⟨oc, od, dV, kV, doc, pm, an, cdv, ct, osl, rfl, lk, hcd, hD, hK⟩ := F.ex
  rcases hD with ⟨_, rfl⟩ | ⟨e, _⟩
  · exact ⟨fun s us ws X l1 l2 => .of_eq (h kV doc pm an cdv ct us ws l1 l2), fun r1 r2 => r1.append r2⟩
  · exact absurd rfl e
theorem kb_pairs (F : FR K "pairs_alike" sPairsAlike f fd) : KBn K fd ["count", "rows", "rings"] 2 ["rings"] (fun us ws => us ++ ws) (fun vs zs => vs ++ zs) :=
  kb_of F fun _ _ _ _ _ _ us ws h1 h2 => match us, ws, h1, h2 with | [_, _], [_], _, _ => rfl
theorem kb_stands (F : FR K "sketch_stands" sSketchStands f fd) : KBn K fd ["count", "rows", "rings"] 2 ["rings"] (fun us ws => us ++ ws) (fun vs zs => vs ++ zs) :=
  kb_of F fun _ _ _ _ _ _ us ws h1 h2 => match us, ws, h1, h2 with | [_, _], [_], _, _ => rfl
theorem kb_build (F : FR K "build_drawing" sBuildDrawing f fd) : KBn K fd ["count", "rows", "rings"] 2 ["rings"] (fun us ws => us ++ ws) (fun vs zs => vs ++ zs) :=
  kb_of F fun _ _ _ _ _ _ us ws h1 h2 => match us, ws, h1, h2 with | [_, _], [_], _, _ => rfl
theorem b_stands (F : FR K "sketch_stands" sSketchStands f fd) : ∃ ds, Vals [V.bl false] ds ∧ Binds K fd ["count", "rows", "rings"] ds :=
  F.binds0 2 (by simp) rfl fun D _ _ _ _ _ us ks h1 h2 => match us, ks, h1, h2 with | [_, _], [_], _, _ => ⟨_, _, _, _, _, _, rfl, rfl, rfl⟩
theorem b_build (F : FR K "build_drawing" sBuildDrawing f fd) : ∃ ds, Vals [V.bl false] ds ∧ Binds K fd ["count", "rows", "rings"] ds :=
  F.binds0 2 (by simp) rfl fun D _ _ _ _ _ us ks h1 h2 => match us, ks, h1, h2 with | [_, _], [_], _, _ => ⟨_, _, _, _, _, _, rfl, rfl, rfl⟩
end
end K80

/-! Plain mathematics for the law of drawings: reaching. -/
namespace K80
theorem getD_lt {α : Type} {l : List α} {i : Nat} {d : α} (h : i < l.length) : l.getD i d = l[i] := by simp [List.getD_eq_getElem?_getD, h]
theorem getD_ge {α : Type} {l : List α} {i : Nat} {d : α} (h : l.length ≤ i) : l.getD i d = d := by simp [List.getD_eq_getElem?_getD, h]
/-- a drawing: each row ascends, its places are there -/
def Good (D : List (List Nat)) : Prop := ∀ row ∈ D, row.Pairwise (· < ·) ∧ ∀ x ∈ row, x < D.length
abbrev rowOf (D : List (List Nat)) (i : Nat) : List Nat := D.getD i []
theorem rowOf_mem {D : List (List Nat)} {i : Nat} (h : i < D.length) : rowOf D i ∈ D := by
  unfold rowOf
  rw [getD_lt h]
  exact List.getElem_mem h
theorem rowOf_get {D : List (List Nat)} {i : Nat} (h : i < D.length) : D[i]? = some (rowOf D i) := by
  unfold rowOf
  rw [getD_lt h, List.getElem?_eq_getElem h]
theorem Good.lt {D : List (List Nat)} (g : Good D) {i y : Nat} (h : y ∈ rowOf D i) : y < D.length ∧ i < D.length := by
  by_cases hi : i < D.length
  · exact ⟨(g _ (rowOf_mem hi)).2 y h, hi⟩
  · unfold rowOf at h
    rw [getD_ge (Nat.le_of_not_lt hi)] at h
    cases h
theorem Good.asc {D : List (List Nat)} (g : Good D) (i : Nat) : (rowOf D i).Pairwise (· < ·) := by
  by_cases hi : i < D.length
  · exact (g _ (rowOf_mem hi)).1
  · unfold rowOf
    rw [getD_ge (Nat.le_of_not_lt hi)]
    exact List.Pairwise.nil
theorem asc_len_aux : ∀ (l : List Nat) (a n : Nat), l.Pairwise (· < ·) → (∀ x ∈ l, a ≤ x ∧ x < n) → l.length ≤ n - a
  | [], _, _, _, _ => Nat.zero_le _
  | x :: xs, a, n, h, hb => by
    obtain ⟨h1, h2⟩ := List.pairwise_cons.mp h
    have hx := hb x (by simp)
    have := asc_len_aux xs (x + 1) n h2 fun y hy => ⟨h1 y hy, (hb y (by simp [hy])).2⟩
    rw [List.length_cons]
    omega
theorem asc_len {l : List Nat} (h : l.Pairwise (· < ·)) {n : Nat} (hb : ∀ x ∈ l, x < n) : l.length ≤ n := asc_len_aux l 0 n h fun x hx => ⟨Nat.zero_le _, hb x hx⟩
inductive Reach (D : List (List Nat)) (p : Nat) : Nat → Prop
  | refl : Reach D p p
  | step {x y} : Reach D p x → y ∈ rowOf D x → Reach D p y
theorem Reach.lt {D : List (List Nat)} {p x : Nat} (g : Good D) (hp : p < D.length) (h : Reach D p x) : x < D.length := by
  cases h with
  | refl => exact hp
  | step _ h => exact (g.lt h).1
/-- the search, between two turns -/
structure RI (D : List (List Nat)) (p : Nat) (bs : List Bool) (ws : List Nat) : Prop where
  len : bs.length = D.length
  wl : ∀ x ∈ ws, bs[x]? = some true
  rc : ∀ x : Nat, bs[x]? = some true → Reach D p x
  hp : bs[p]? = some true
  cl : ∀ x : Nat, bs[x]? = some true → x ∉ ws → ∀ y ∈ rowOf D x, bs[y]? = some true
/-- .. within the turn of c, i of its places looked at -/
structure RJ (D : List (List Nat)) (p c i : Nat) (bs : List Bool) (ws : List Nat) : Prop where
  len : bs.length = D.length
  wl : ∀ x ∈ ws, bs[x]? = some true
  rc : ∀ x : Nat, bs[x]? = some true → Reach D p x
  hp : bs[p]? = some true
  hc : bs[c]? = some true
  cl : ∀ x : Nat, bs[x]? = some true → x ∉ ws → x ≠ c → ∀ y ∈ rowOf D x, bs[y]? = some true
  cc : ∀ y ∈ (rowOf D c).take i, bs[y]? = some true
def mu (bs : List Bool) (ws : List Nat) : Nat := 2 * bs.count false + ws.length
section
variable {D : List (List Nat)} {p c i y : Nat} {bs : List Bool} {ws : List Nat}
theorem RI.start (hp : p < D.length) : RI D p ((D.map fun _ => false).set p true) [p] := by
  have key : ∀ x : Nat, ((D.map fun _ => false).set p true)[x]? = some true ↔ x = p := fun x => by
    rw [List.getElem?_set]
    by_cases h : p = x
    · subst h; simp [hp]
    · rw [if_neg h, List.getElem?_map]
      constructor
      · intro z; cases e : D[x]? <;> rw [e] at z <;> simp at z
      · intro z; exact absurd z.symm h
  refine ⟨by simp, ?_, ?_, (key p).mpr rfl, ?_⟩
  · intro x hx; rw [key]; simpa using hx
  · intro x hx; rw [key] at hx; subst hx; exact .refl
  · intro x hx hn; rw [key] at hx; subst hx; simp at hn
theorem RI.pop (h : RI D p bs (ws ++ [c])) : RJ D p c 0 bs ws :=
  ⟨h.len, fun x hx => h.wl x (by simp [hx]), h.rc, h.hp, h.wl c (by simp), fun x hx hn hc => h.cl x hx (by simp [hn, hc]), fun y hy => by simp at hy⟩
theorem take_mem_succ {l : List Nat} {i y z : Nat} (h : l[i]? = some y) (hz : z ∈ l.take (i + 1)) : z ∈ l.take i ∨ z = y := by
  rw [List.take_add_one, h] at hz
  simpa using hz
theorem RJ.skip (h : RJ D p c i bs ws) (hy : (rowOf D c)[i]? = some y) (hb : bs[y]? = some true) : RJ D p c (i + 1) bs ws :=
  ⟨h.len, h.wl, h.rc, h.hp, h.hc, h.cl, fun z hz => (take_mem_succ hy hz).elim (h.cc z) fun e => e ▸ hb⟩
theorem set_on {x y : Nat} (hx : bs[x]? = some true) : (bs.set y true)[x]? = some true := by
  have hl : x < bs.length := (List.getElem?_eq_some_iff.mp hx).1
  rw [List.getElem?_set]
  split
  · rename_i h; subst h; simp [hl]
  · exact hx
theorem RJ.push (h : RJ D p c i bs ws) (hy : (rowOf D c)[i]? = some y) (hb : bs[y]? = some false) : RJ D p c (i + 1) (bs.set y true) (ws ++ [y]) := by
  have hyl : y < bs.length := (List.getElem?_eq_some_iff.mp hb).1
  have my : y ∈ rowOf D c := List.mem_of_getElem? hy
  have self : (bs.set y true)[y]? = some true := by rw [List.getElem?_set_self hyl]
  have back : ∀ x : Nat, (bs.set y true)[x]? = some true → bs[x]? = some true ∨ x = y := fun x hx => by
    rw [List.getElem?_set] at hx
    split at hx
    · rename_i e; exact .inr e.symm
    · exact .inl hx
  refine ⟨by simp [h.len], ?_, ?_, set_on h.hp, set_on h.hc, ?_, ?_⟩
  · intro x hx
    rcases List.mem_append.mp hx with hx | hx
    · exact set_on (h.wl x hx)
    · have e : x = y := by simpa using hx
      subst e; exact self
  · intro x hx
    rcases back x hx with hx | e
    · exact h.rc x hx
    · subst e; exact .step (h.rc c h.hc) my
  · intro x hx hn hc z hz
    have hn1 : x ∉ ws := fun q => hn (by simp [q])
    have hn2 : x ≠ y := fun q => hn (by simp [q])
    rcases back x hx with hx | e
    · exact set_on (h.cl x hx hn1 hc z hz)
    · exact absurd e hn2
  · intro z hz
    rcases take_mem_succ hy hz with hz | e
    · exact set_on (h.cc z hz)
    · subst e; exact self
theorem RJ.mu_push (h : RJ D p c i bs ws) (hb : bs[y]? = some false) : mu (bs.set y true) (ws ++ [y]) < mu bs ws := by
  have hyl : y < bs.length := (List.getElem?_eq_some_iff.mp hb).1
  have hv : bs[y] = false := (List.getElem?_eq_some_iff.mp hb).2
  unfold mu
  rw [List.count_set hyl, hv]
  have hpos : 0 < bs.count false := List.count_pos_iff.mpr (by rw [← hv]; exact List.getElem_mem hyl)
  simp
  omega
theorem RJ.done (h : RJ D p c (rowOf D c).length bs ws) : RI D p bs ws :=
  ⟨h.len, h.wl, h.rc, h.hp, fun x hx hn y hy => by
    by_cases e : x = c
    · subst e; exact h.cc y (by rw [List.take_length]; exact hy)
    · exact h.cl x hx hn e y hy⟩
theorem mu_pop : mu bs ws < mu bs (ws ++ [c]) := by unfold mu; simp
theorem RI.all (h : RI D p bs []) {x : Nat} (r : Reach D p x) : bs[x]? = some true := by
  induction r with
  | refl => exact h.hp
  | step _ m ih => exact h.cl _ ih (by simp) _ m
/-- what the search tells -/
theorem RI.told (h : RI D p bs []) : ((List.range D.length).filter fun x => bs.getD x false).Pairwise (· < ·) ∧ ∀ x, x ∈ (List.range D.length).filter (fun x => bs.getD x false) ↔ Reach D p x := by
  refine ⟨List.Pairwise.filter _ List.pairwise_lt_range, fun x => ?_⟩
  rw [List.mem_filter, List.mem_range]
  constructor
  · rintro ⟨h1, h2⟩
    refine h.rc x ?_
    rw [List.getElem?_eq_getElem (by rw [h.len]; exact h1)]
    rw [getD_lt (by rw [h.len]; exact h1)] at h2
    rw [h2]
  · intro r
    have e := h.all r
    obtain ⟨hl, hv⟩ := List.getElem?_eq_some_iff.mp e
    exact ⟨by rw [← h.len]; exact hl, by rw [getD_lt hl, hv]⟩
end
end K80

/-! Plain mathematics for the law of drawings: likeness, the greatest one by falling pairs. -/
namespace K80
/-- a likeness of places -/
def IsBis (D : List (List Nat)) (T : Nat → Nat → Prop) : Prop := ∀ x y, T x y → (∀ a ∈ rowOf D x, ∃ b ∈ rowOf D y, T a b) ∧ ∀ b ∈ rowOf D y, ∃ a ∈ rowOf D x, T a b
def Bis (D : List (List Nat)) (i j : Nat) : Prop := ∃ T, IsBis D T ∧ T i j
theorem Bis.is (D : List (List Nat)) : IsBis D (Bis D) := fun x y ⟨T, b, t⟩ =>
  ⟨fun a ha => let ⟨c, hc, t'⟩ := (b x y t).1 a ha; ⟨c, hc, T, b, t'⟩, fun c hc => let ⟨a, ha, t'⟩ := (b x y t).2 c hc; ⟨a, ha, T, b, t'⟩⟩
theorem Bis.refl (D : List (List Nat)) (i : Nat) : Bis D i i := ⟨fun x y => x = y, fun x y e => by subst e; exact ⟨fun a ha => ⟨a, ha, rfl⟩, fun a ha => ⟨a, ha, rfl⟩⟩, rfl⟩
theorem Bis.symm {D : List (List Nat)} {i j : Nat} (h : Bis D i j) : Bis D j i := by
  obtain ⟨T, b, t⟩ := h
  exact ⟨fun x y => T y x, fun x y t => ⟨fun a ha => (b y x t).2 a ha, fun a ha => (b y x t).1 a ha⟩, t⟩
/-- a square of truths -/
def Sq (n : Nat) (RR : List (List Bool)) : Prop := RR.length = n ∧ ∀ row ∈ RR, row.length = n
def rel (RR : List (List Bool)) (x y : Nat) : Bool := (RR.getD x []).getD y false
def matched (RR : List (List Bool)) (A B : List Nat) : Bool := (A.all fun x => B.any fun y => rel RR x y) && B.all fun y => A.any fun x => rel RR x y
section
variable {n x y : Nat} {RR : List (List Bool)} {A B : List Nat}
theorem Sq.row (q : Sq n RR) (h : x < n) : RR[x]? = some (RR.getD x []) := by
  have hl : x < RR.length := by rw [q.1]; exact h
  rw [getD_lt hl, List.getElem?_eq_getElem hl]
theorem Sq.len (q : Sq n RR) (h : x < n) : (RR.getD x []).length = n := by
  have hl : x < RR.length := by rw [q.1]; exact h
  rw [getD_lt hl]
  exact q.2 _ (List.getElem_mem hl)
theorem Sq.at (q : Sq n RR) (h : x < n) (hy : y < n) : (RR.getD x [])[y]? = some (rel RR x y) := by
  have hl : y < (RR.getD x []).length := by rw [q.len h]; exact hy
  unfold rel
  rw [getD_lt hl, List.getElem?_eq_getElem hl]
theorem matched_iff : matched RR A B = true ↔ (∀ x ∈ A, ∃ y ∈ B, rel RR x y = true) ∧ ∀ y ∈ B, ∃ x ∈ A, rel RR x y = true := by
  unfold matched
  rw [Bool.and_eq_true, List.all_eq_true, List.all_eq_true]
  simp only [List.any_eq_true]
theorem Sq.all (n : Nat) : Sq n (List.replicate n (List.replicate n true)) := ⟨by simp, fun row h => by rw [List.mem_replicate] at h; rw [h.2]; simp⟩
theorem rel_all (hx : x < n) (hy : y < n) : rel (List.replicate n (List.replicate n true)) x y = true := by
  have e : (List.replicate n (List.replicate n true)).getD x [] = List.replicate n true := by
    rw [getD_lt (by simpa using hx)]
    simp
  unfold rel
  rw [e, getD_lt (by simpa using hy)]
  simp
/-- one pair falls -/
def fell (RR : List (List Bool)) (g h : Nat) : List (List Bool) := RR.set g ((RR.getD g []).set h false)
theorem Sq.fell (q : Sq n RR) (g h : Nat) (hg : g < n) : Sq n (fell RR g h) := by
  unfold K80.fell
  refine ⟨by rw [List.length_set]; exact q.1, fun row hr => ?_⟩
  rcases List.mem_or_eq_of_mem_set hr with hr | e
  · exact q.2 row hr
  · rw [e, List.length_set]; exact q.len hg
theorem rel_fell (q : Sq n RR) {g h : Nat} (hg : g < n) (hh : h < n) (x y : Nat) : rel (fell RR g h) x y = if x = g ∧ y = h then false else rel RR x y := by
  unfold rel fell
  have hgl : g < RR.length := by rw [q.1]; exact hg
  by_cases e : x = g
  · subst e
    have e1 : (RR.set x ((RR.getD x []).set h false)).getD x [] = (RR.getD x []).set h false := by
      rw [getD_lt (by rw [List.length_set]; exact hgl)]
      simp
    rw [e1]
    by_cases e2 : y = h
    · subst e2
      have hl : y < (RR.getD x []).length := by rw [q.len hg]; exact hh
      rw [if_pos ⟨rfl, rfl⟩, getD_lt (by rw [List.length_set]; exact hl)]
      simp
    · rw [if_neg (fun z => e2 z.2)]
      simp only [List.getD_eq_getElem?_getD]
      rw [List.getElem?_set_ne (Ne.symm e2)]
  · rw [if_neg (fun z => e z.1)]
    simp only [List.getD_eq_getElem?_getD]
    rw [List.getElem?_set_ne (Ne.symm e)]
def trues (RR : List (List Bool)) : Nat := (RR.map fun r => r.count true).sum
theorem sum_set (l : List Nat) (i : Nat) (y : Nat) (h : i < l.length) : (l.set i y).sum + l[i] = l.sum + y := by
  induction l generalizing i with
  | nil => simp at h
  | cons z zs ih =>
    cases i with
    | zero => simp; omega
    | succ i =>
      have := ih i (by simpa using h)
      simp only [List.set_cons_succ, List.sum_cons, List.getElem_cons_succ]
      omega
theorem trues_fell (q : Sq n RR) {g h : Nat} (hg : g < n) (hh : h < n) (hr : rel RR g h = true) : trues (fell RR g h) + 1 = trues RR := by
  have hgl : g < RR.length := by rw [q.1]; exact hg
  have hl : h < (RR.getD g []).length := by rw [q.len hg]; exact hh
  have hv : (RR.getD g [])[h] = true := by
    unfold rel at hr
    rwa [getD_lt hl] at hr
  unfold trues fell
  rw [List.map_set]
  have h1 := sum_set (RR.map fun r => r.count true) g (((RR.getD g []).set h false).count true) (by rw [List.length_map]; exact hgl)
  rw [List.getElem_map, show RR[g] = RR.getD g [] by rw [getD_lt hgl]] at h1
  have h2 : ((RR.getD g []).set h false).count true + 1 = (RR.getD g []).count true := by
    rw [List.count_set hl, hv]
    have : 0 < (RR.getD g []).count true := List.count_pos_iff.mpr (by rw [← hv]; exact List.getElem_mem hl)
    have e1 : ((true : Bool) == true) = true := rfl
    have e2 : ((false : Bool) == true) = false := rfl
    rw [e1, e2]
    simp only [if_true, Bool.false_eq_true, if_false]
    omega
  omega
variable {D : List (List Nat)}
/-- what is true through all passes -/
structure GI (D : List (List Nat)) (RR : List (List Bool)) : Prop where
  sq : Sq D.length RR
  big : ∀ i j, i < D.length → j < D.length → Bis D i j → rel RR i j = true
theorem GI.start : GI D (List.replicate D.length (List.replicate D.length true)) := ⟨Sq.all _, fun i j hi hj _ => rel_all hi hj⟩
theorem GI.step (I : GI D RR) (gd : Good D) {g h : Nat} (hg : g < D.length) (hh : h < D.length) (hm : matched RR (rowOf D g) (rowOf D h) = false) : GI D (fell RR g h) := by
  refine ⟨I.sq.fell g h hg, fun i j hi hj b => ?_⟩
  rw [rel_fell I.sq hg hh]
  by_cases e : i = g ∧ j = h
  · exfalso
    obtain ⟨rfl, rfl⟩ := e
    have : matched RR (rowOf D i) (rowOf D j) = true := matched_iff.mpr ⟨fun x hx => let ⟨y, hy, t⟩ := ((Bis.is D) i j b).1 x hx; ⟨y, hy, I.big x y (gd.lt hx).1 (gd.lt hy).1 t⟩, fun y hy => let ⟨x, hx, t⟩ := ((Bis.is D) i j b).2 y hy; ⟨x, hx, I.big x y (gd.lt hx).1 (gd.lt hy).1 t⟩⟩
    rw [hm] at this
    cases this
  · rw [if_neg e]
    exact I.big i j hi hj b
/-- the end: nothing fell in a whole pass -/
theorem GI.told (I : GI D RR) (gd : Good D) (h : ∀ i j, i < D.length → j < D.length → rel RR i j = true → matched RR (rowOf D i) (rowOf D j) = true) {i j : Nat} (hi : i < D.length) (hj : j < D.length) : rel RR i j = true ↔ Bis D i j := by
  refine ⟨fun r => ⟨fun x y => x < D.length ∧ y < D.length ∧ rel RR x y = true, ?_, hi, hj, r⟩, I.big i j hi hj⟩
  rintro x y ⟨hx, hy, r⟩
  obtain ⟨h1, h2⟩ := matched_iff.mp (h x y hx hy r)
  exact ⟨fun a ha => let ⟨b, hb, t⟩ := h1 a ha; ⟨b, hb, (gd.lt ha).1, (gd.lt hb).1, t⟩, fun b hb => let ⟨a, ha, t⟩ := h2 b hb; ⟨a, ha, (gd.lt ha).1, (gd.lt hb).1, t⟩⟩
/-- within a pass: the first i pairs are looked at -/
structure GP (D : List (List Nat)) (R0 : List (List Bool)) (ps : List (Nat × Nat)) (i : Nat) (RR : List (List Bool)) (fallen : Bool) : Prop where
  inv : GI D RR
  same : fallen = false → RR = R0 ∧ ∀ p ∈ ps.take i, rel R0 p.1 p.2 = true → matched R0 (rowOf D p.1) (rowOf D p.2) = true
  less : fallen = true → trues RR < trues R0
  le : trues RR ≤ trues R0
variable {R0 : List (List Bool)} {ps : List (Nat × Nat)} {i g h : Nat} {fallen : Bool}
theorem GP.start (I : GI D R0) : GP D R0 ps 0 R0 false := ⟨I, fun _ => ⟨rfl, fun p hp => by simp at hp⟩, fun z => (by cases z), Nat.le_refl _⟩
theorem GP.stay (G : GP D R0 ps i RR fallen) (hp : ps[i]? = some (g, h)) (hk : rel RR g h = true → matched RR (rowOf D g) (rowOf D h) = true) : GP D R0 ps (i + 1) RR fallen :=
  ⟨G.inv, fun hf => by
    obtain ⟨e, h2⟩ := G.same hf
    refine ⟨e, fun p hm => ?_⟩
    rw [List.take_add_one, hp] at hm
    rcases List.mem_append.mp hm with hm | hm
    · exact h2 p hm
    · have : p = (g, h) := by simpa using hm
      subst this
      rw [← e]
      exact hk, G.less, G.le⟩
theorem GP.fall (G : GP D R0 ps i RR fallen) (gd : Good D) (hg : g < D.length) (hh : h < D.length) (hr : rel RR g h = true) (hm : matched RR (rowOf D g) (rowOf D h) = false) : GP D R0 ps (i + 1) (fell RR g h) true :=
  have e := trues_fell G.inv.sq hg hh hr
  ⟨G.inv.step gd hg hh hm, fun z => (by cases z), fun _ => (by have := G.le; omega), by have := G.le; omega⟩
end
end K80

/-! Plain mathematics for the law of drawings: the settled places. -/
namespace K80
/-- no ring is reached from the place -/
def Sttl (D : List (List Nat)) (x : Nat) : Prop := Acc (fun y x => y ∈ rowOf D x) x
theorem Sttl.intro {D : List (List Nat)} {x : Nat} (h : ∀ y ∈ rowOf D x, Sttl D y) : Sttl D x := Acc.intro x h
theorem Sttl.inv {D : List (List Nat)} {x y : Nat} (h : Sttl D x) (m : y ∈ rowOf D x) : Sttl D y := Acc.inv h m
/-- who holds x, of the first p places -/
def hold (D : List (List Nat)) (p x : Nat) : List Nat := (List.range p).filter fun q => decide (x ∈ rowOf D q)
theorem mem_hold {D : List (List Nat)} {p x q : Nat} : q ∈ hold D p x ↔ q < p ∧ x ∈ rowOf D q := by
  unfold hold
  rw [List.mem_filter, List.mem_range, decide_eq_true_eq]
theorem hold_nodup {D : List (List Nat)} {p x : Nat} : (hold D p x).Nodup := by
  unfold hold
  exact List.Pairwise.filter _ List.nodup_range
theorem hold_succ {D : List (List Nat)} {p x : Nat} : hold D (p + 1) x = hold D p x ++ if x ∈ rowOf D p then [p] else [] := by
  unfold hold
  rw [List.range_succ, List.filter_append]
  congr 1
  by_cases h : x ∈ rowOf D p
  · rw [if_pos h]
    simp only [List.filter_cons, List.filter_nil, decide_eq_true h, if_true]
  · rw [if_neg h]
    simp only [List.filter_cons, List.filter_nil, decide_eq_false h, if_false, Bool.false_eq_true]
/-- the table of holders, i places of row p entered -/
structure HI (D : List (List Nat)) (p i : Nat) (HH : List (List Nat)) : Prop where
  len : HH.length = D.length
  get : ∀ x, x < D.length → HH[x]? = some (hold D p x ++ if x ∈ (rowOf D p).take i then [p] else [])
section
variable {D : List (List Nat)} {p i x : Nat} {HH : List (List Nat)}
theorem HI.start : HI D 0 0 (D.map fun _ => []) := { len := by simp, get := fun x hx => by simp [hold, hx] }
theorem HI.next (h : HI D p (rowOf D p).length HH) : HI D (p + 1) 0 HH := ⟨h.len, fun x hx => by rw [h.get x hx, List.take_length, hold_succ]; simp⟩
theorem HI.put (h : HI D p i HH) (g : Good D) (hx : (rowOf D p)[i]? = some x) : HI D p (i + 1) (HH.set x (HH.getD x [] ++ [p])) := by
  have hm := List.mem_of_getElem? hx
  have hxl : x < D.length := (g.lt hm).1
  have asc := g.asc p
  have hil : i < (rowOf D p).length := (List.getElem?_eq_some_iff.mp hx).1
  have hni : x ∉ (rowOf D p).take i := fun q => by
    obtain ⟨k, hk, e⟩ := List.getElem_of_mem q
    have hk2 : k < i := by rw [List.length_take] at hk; omega
    rw [List.getElem_take] at e
    have := List.pairwise_iff_getElem.mp asc k i (by omega) hil hk2
    rw [e] at this
    have e2 := (List.getElem?_eq_some_iff.mp hx).2
    omega
  refine ⟨by rw [List.length_set]; exact h.len, fun y hy => ?_⟩
  by_cases e : x = y
  · subst e
    rw [List.getElem?_set_self (by rw [h.len]; exact hy)]
    have e1 : HH.getD x [] = hold D p x := by
      rw [List.getD_eq_getElem?_getD, h.get x hy, if_neg hni]
      simp
    have hin : x ∈ (rowOf D p).take (i + 1) := by rw [List.take_add_one, hx]; simp
    rw [e1, if_pos hin]
  · rw [List.getElem?_set_ne e, h.get y hy]
    have : y ∈ (rowOf D p).take (i + 1) ↔ y ∈ (rowOf D p).take i := by
      rw [List.take_add_one, hx]
      simp [Ne.symm e]
    simp only [this]
/-- what lacks of place p, the places of P done -/
def lack (D : List (List Nat)) (p : Nat) (f : Nat → Bool) : Nat := ((rowOf D p).filter f).length
theorem filter_drop_one {l : List Nat} {f : Nat → Bool} {a : Nat} (nd : l.Nodup) (h : a ∈ l) (hf : f a = true) : (l.filter fun x => f x && decide (x ≠ a)).length + 1 = (l.filter f).length := by
  induction l with
  | nil => cases h
  | cons x xs ih =>
    obtain ⟨h1, h2⟩ := List.nodup_cons.mp nd
    by_cases e : x = a
    · subst e
      have : xs.filter (fun y => f y && decide (y ≠ x)) = xs.filter f := List.filter_congr fun y hy => by
        have : y ≠ x := fun q => h1 (q ▸ hy)
        simp [this]
      rw [List.filter_cons_of_neg (by simp), List.filter_cons_of_pos hf, this, List.length_cons]
    · have hm : a ∈ xs := by
        rcases List.mem_cons.mp h with q | q
        · exact absurd q.symm e
        · exact q
      have := ih h2 hm
      by_cases hx : f x = true
      · rw [List.filter_cons_of_pos (by simp [hx, e]), List.filter_cons_of_pos hx, List.length_cons, List.length_cons]
        omega
      · rw [List.filter_cons_of_neg (by simp [hx]), List.filter_cons_of_neg hx]
        exact this
/-- between two turns of the while; st the settled places, mm what lacks -/
structure KI (D : List (List Nat)) (a : Nat) (st mm : List Nat) : Prop where
  len : mm.length = D.length
  nd : st.Nodup
  lt : ∀ x ∈ st, x < D.length
  al : a ≤ st.length
  ms : ∀ p, p < D.length → mm[p]? = some (lack D p fun x => decide (x ∉ st.take a))
  ac : ∀ x ∈ st, Sttl D x
  zr : ∀ p : Nat, mm[p]? = some 0 ↔ p ∈ st
/-- within the turn of c, i of its holders looked at -/
structure KJ (D : List (List Nat)) (a c i : Nat) (st mm : List Nat) : Prop where
  len : mm.length = D.length
  nd : st.Nodup
  lt : ∀ x ∈ st, x < D.length
  hc : st[a]? = some c
  ms : ∀ p, p < D.length → mm[p]? = some (lack D p fun x => decide (x ∉ st.take a) && !(decide (x = c) && decide (p ∈ (hold D D.length c).take i)))
  ac : ∀ x ∈ st, Sttl D x
  zr : ∀ p : Nat, mm[p]? = some 0 ↔ p ∈ st
variable {a c : Nat} {st mm : List Nat}
theorem KI.start : KI D 0 ((List.range D.length).filter fun p => decide (rowOf D p = [])) (D.map fun row => row.length) := by
  have hm : ∀ p, p ∈ (List.range D.length).filter (fun p => decide (rowOf D p = [])) ↔ p < D.length ∧ rowOf D p = [] := fun p => by
    rw [List.mem_filter, List.mem_range, decide_eq_true_eq]
  have hg : ∀ p, p < D.length → (D.map fun row => row.length)[p]? = some (rowOf D p).length := fun p hp => by rw [List.getElem?_map, rowOf_get hp]; rfl
  refine ⟨by simp, List.Pairwise.filter _ List.nodup_range, fun x hx => ((hm x).mp hx).1, Nat.zero_le _, fun p hp => ?_, fun x hx => ?_, fun p => ?_⟩
  · rw [hg p hp]
    unfold lack
    rw [List.filter_eq_self.mpr fun x _ => by simp]
  · refine Sttl.intro fun y hy => ?_
    rw [((hm x).mp hx).2] at hy
    cases hy
  · rw [hm]
    constructor
    · intro h
      have hp : p < D.length := by
        have := (List.getElem?_eq_some_iff.mp h).1
        simpa using this
      rw [hg p hp] at h
      exact ⟨hp, List.length_eq_zero_iff.mp (Option.some.inj h)⟩
    · rintro ⟨hp, e⟩
      rw [hg p hp, e]
      rfl
theorem KI.turn (h : KI D a st mm) (hc : st[a]? = some c) : KJ D a c 0 st mm :=
  ⟨h.len, h.nd, h.lt, hc, fun p hp => by rw [h.ms p hp]; simp, h.ac, h.zr⟩
theorem KJ.done (h : KJ D a c (hold D D.length c).length st mm) : KI D (a + 1) st mm := by
  have hal : a < st.length := (List.getElem?_eq_some_iff.mp h.hc).1
  refine ⟨h.len, h.nd, h.lt, hal, fun p hp => ?_, h.ac, h.zr⟩
  rw [h.ms p hp]
  congr 1
  unfold lack
  congr 1
  refine List.filter_congr fun x hx => ?_
  rw [List.take_length, List.take_add_one, h.hc]
  by_cases e : x = c
  · subst e
    have : p ∈ hold D D.length x := mem_hold.mpr ⟨hp, hx⟩
    simp [this]
  · simp [e]
/-- a holder's turn: one less lacks -/
theorem KJ.dec (h : KJ D a c i st mm) (g : Good D) (hp : (hold D D.length c)[i]? = some p) : ∃ m, mm[p]? = some (m + 1) ∧ p ∉ st ∧
    (m ≠ 0 → KJ D a c (i + 1) st (mm.set p m)) ∧ (m = 0 → KJ D a c (i + 1) (st ++ [p]) (mm.set p m)) := by
  obtain ⟨hpn, hcp⟩ := mem_hold.mp (List.mem_of_getElem? hp)
  have hil : i < (hold D D.length c).length := (List.getElem?_eq_some_iff.mp hp).1
  have hal : a < st.length := (List.getElem?_eq_some_iff.mp h.hc).1
  have hni : p ∉ (hold D D.length c).take i := fun q => by
    obtain ⟨k, hk, e⟩ := List.getElem_of_mem q
    have hk2 : k < i := by rw [List.length_take] at hk; omega
    rw [List.getElem_take] at e
    have e2 := (List.getElem?_eq_some_iff.mp hp).2
    have := (List.getElem_inj (hold_nodup (D := D) (p := D.length) (x := c))).mp (e.trans e2.symm)
    omega
  have hct : c ∉ st.take a := fun q => by
    obtain ⟨k, hk, e⟩ := List.getElem_of_mem q
    have hk2 : k < a := by rw [List.length_take] at hk; omega
    rw [List.getElem_take] at e
    have e2 := (List.getElem?_eq_some_iff.mp h.hc).2
    have := (List.getElem_inj h.nd).mp (e.trans e2.symm)
    omega
  have ndr : (rowOf D p).Nodup := (g.asc p).imp fun q => Nat.ne_of_lt q
  have f1 : (fun x => decide (x ∉ st.take a) && !(decide (x = c) && decide (p ∈ (hold D D.length c).take i))) = fun x => decide (x ∉ st.take a) := by
    funext x
    simp [hni]
  have one := filter_drop_one (f := fun x => decide (x ∉ st.take a)) ndr hcp (by simpa using hct)
  have e0 := h.ms p hpn
  rw [f1] at e0
  unfold lack at e0
  rw [← one] at e0
  have hps : p ∉ st := fun q => by
    rw [(h.zr p).mpr q] at e0
    have := Option.some.inj e0
    omega
  have hin : p ∈ (hold D D.length c).take (i + 1) := by rw [List.take_add_one, hp]; simp
  have hpm : p < mm.length := by rw [h.len]; exact hpn
  have newp : lack D p (fun x => decide (x ∉ st.take a) && !(decide (x = c) && decide (p ∈ (hold D D.length c).take (i + 1)))) = ((rowOf D p).filter fun x => decide (x ∉ st.take a) && decide (x ≠ c)).length := by
    unfold lack
    congr 1
    refine List.filter_congr fun x _ => ?_
    simp [hin]
  generalize hm : ((rowOf D p).filter fun x => decide (x ∉ st.take a) && decide (x ≠ c)).length = m at e0 newp
  have othr : ∀ q, q < D.length → q ≠ p → lack D q (fun x => decide (x ∉ st.take a) && !(decide (x = c) && decide (q ∈ (hold D D.length c).take (i + 1)))) = lack D q (fun x => decide (x ∉ st.take a) && !(decide (x = c) && decide (q ∈ (hold D D.length c).take i))) := fun q _ hq => by
    have : q ∈ (hold D D.length c).take (i + 1) ↔ q ∈ (hold D D.length c).take i := by
      rw [List.take_add_one, hp]
      simp [hq]
    unfold lack
    congr 1
    refine List.filter_congr fun x _ => ?_
    simp only [this]
  have msn : ∀ q, q < D.length → (mm.set p m)[q]? = some (lack D q fun x => decide (x ∉ st.take a) && !(decide (x = c) && decide (q ∈ (hold D D.length c).take (i + 1)))) := fun q hq => by
    by_cases e : p = q
    · subst e
      rw [List.getElem?_set_self hpm, newp]
    · rw [List.getElem?_set_ne e, h.ms q hq, othr q hq (Ne.symm e)]
  refine ⟨m, e0, hps, fun hm0 => ⟨by rw [List.length_set]; exact h.len, h.nd, h.lt, h.hc, msn, h.ac, fun q => ?_⟩, fun hm0 => ?_⟩
  · by_cases e : p = q
    · subst e
      rw [List.getElem?_set_self hpm]
      constructor
      · intro z; exact absurd (Option.some.inj z) hm0
      · intro z; exact absurd z hps
    · rw [List.getElem?_set_ne e]
      exact h.zr q
  · subst hm0
    have hta : (st ++ [p]).take a = st.take a := List.take_append_of_le_length (Nat.le_of_lt hal)
    refine ⟨by rw [List.length_set]; exact h.len, ?_, ?_, ?_, ?_, ?_, fun q => ?_⟩
    · rw [List.nodup_append]
      refine ⟨h.nd, by simp, fun x hx y hy => ?_⟩
      have : y = p := by simpa using hy
      subst this
      intro e
      exact hps (e ▸ hx)
    · intro x hx
      rcases List.mem_append.mp hx with hx | hx
      · exact h.lt x hx
      · have : x = p := by simpa using hx
        omega
    · rw [List.getElem?_append_left hal]
      exact h.hc
    · rw [hta]
      exact msn
    · intro x hx
      rcases List.mem_append.mp hx with hx | hx
      · exact h.ac x hx
      · have : x = p := by simpa using hx
        subst this
        refine Sttl.intro fun y hy => ?_
        by_cases hyc : y = c
        · subst hyc
          exact h.ac y (List.mem_of_getElem? h.hc)
        · have h0 := List.filter_eq_nil_iff.mp (List.length_eq_zero_iff.mp hm) y hy
          have : y ∈ st.take a := by simpa [hyc] using h0
          exact h.ac y (List.mem_of_mem_take this)
    · by_cases e : p = q
      · subst e
        rw [List.getElem?_set_self hpm]
        simp
      · rw [List.getElem?_set_ne e, h.zr q]
        simp [Ne.symm e]
/-- the end -/
theorem KI.told (h : KI D st.length st mm) (g : Good D) : st.Nodup ∧ ∀ x, x ∈ st ↔ x < D.length ∧ Sttl D x := by
  refine ⟨h.nd, fun x => ⟨fun hx => ⟨h.lt x hx, h.ac x hx⟩, ?_⟩⟩
  rintro ⟨hx, s⟩
  induction s with
  | intro x _ ih =>
    refine (h.zr x).mp ?_
    rw [h.ms x hx]
    unfold lack
    rw [List.take_length]
    congr 1
    refine List.length_eq_zero_iff.mpr (List.filter_eq_nil_iff.mpr fun y hy => ?_)
    have := ih y hy (g.lt hy).1
    simpa using this
theorem nodup_lt_len {l : List Nat} {n : Nat} (nd : l.Nodup) (h : ∀ x ∈ l, x < n) : l.length ≤ n := by
  have h1 : ∀ m, l.length ≤ (l.filter fun x => decide (m ≤ x)).length + m := by
    intro m
    induction m with
    | zero => rw [List.filter_eq_self.mpr fun x _ => by simp]; omega
    | succ m ih =>
      have : (l.filter fun x => decide (m ≤ x)).length ≤ (l.filter fun x => decide (m + 1 ≤ x)).length + 1 := by
        by_cases hm : m ∈ l
        · have e := filter_drop_one (f := fun x => decide (m ≤ x)) nd hm (by simp)
          have e2 : l.filter (fun x => decide (m ≤ x) && decide (x ≠ m)) = l.filter fun x => decide (m + 1 ≤ x) := List.filter_congr fun x _ => by
            rw [Bool.eq_iff_iff]
            simp
            omega
          rw [e2] at e
          omega
        · have e2 : l.filter (fun x => decide (m ≤ x)) = l.filter fun x => decide (m + 1 ≤ x) := List.filter_congr fun x hx => by
            have : x ≠ m := fun q => hm (q ▸ hx)
            rw [Bool.eq_iff_iff]
            simp
            omega
          rw [e2]
          omega
      omega
  have := h1 n
  rw [List.filter_eq_nil_iff.mpr fun x hx => by have := h x hx; simp; omega] at this
  simpa using this
/-- all settled -/
theorem all_settled {L : List Nat} {n : Nat} {P : Nat → Prop} (nd : L.Nodup) (h : ∀ x, x ∈ L ↔ x < n ∧ P x) : L.length = n ↔ ∀ x, x < n → P x := by
  constructor
  · intro e x hx
    by_cases hm : x ∈ L
    · exact ((h x).mp hm).2
    · exfalso
      have h1 : (x :: L).Nodup := List.nodup_cons.mpr ⟨hm, nd⟩
      have := nodup_lt_len h1 (n := n) fun y hy => by
        rcases List.mem_cons.mp hy with e | hy
        · omega
        · exact ((h y).mp hy).1
      rw [List.length_cons] at this
      omega
  · intro hP
    have h1 := nodup_lt_len nd (n := n) fun y hy => ((h y).mp hy).1
    have h2 : n ≤ L.length := by
      have : ∀ m, m ≤ n → m ≤ (L.filter fun x => decide (x < m)).length := by
        intro m
        induction m with
        | zero => intro _; omega
        | succ m ih =>
          intro hm
          have := ih (by omega)
          have e := filter_drop_one (f := fun x => decide (x < m + 1)) nd ((h m).mpr ⟨by omega, hP m (by omega)⟩) (by simp)
          have e2 : L.filter (fun x => decide (x < m + 1) && decide (x ≠ m)) = L.filter fun x => decide (x < m) := List.filter_congr fun x _ => by
            rw [Bool.eq_iff_iff]
            simp
            omega
          rw [e2] at e
          omega
      have := this n (Nat.le_refl _)
      exact Nat.le_trans this (List.length_filter_le _ _)
    omega
end
end K80

/-! Plain mathematics for the law of drawings: numbering the places by likeness, by refinement. -/
namespace K80
open Rp
abbrev nb (N : List Nat) (i : Nat) : Nat := N.getD i 0
def tops (N : List Nat) : Nat := N.foldr max 0 + 1
theorem tops_gt {N : List Nat} {i : Nat} (h : i < N.length) : nb N i < tops N := by
  unfold tops
  rw [show nb N i = N[i] from getD_lt h]
  exact Nat.lt_succ_of_le (le_fold (List.getElem_mem h))
theorem fold_mem {N : List Nat} (h : N ≠ []) : N.foldr max 0 ∈ N := by
  induction N with
  | nil => exact absurd rfl h
  | cons x xs ih =>
    rw [List.foldr_cons]
    by_cases hx : xs = []
    · subst hx; simp
    · rcases Nat.le_total x (xs.foldr max 0) with c | c
      · rw [Nat.max_eq_right c]; exact List.mem_cons_of_mem _ (ih hx)
      · rw [Nat.max_eq_left c]; exact List.mem_cons_self
/-- the numbers that a row holds -/
def heldN (ns : List Nat) (row : List Nat) : List Nat := asc (row.map fun x => nb ns x)
theorem heldN_eq {ns r1 r2 : List Nat} : heldN ns r1 = heldN ns r2 ↔ (∀ a ∈ r1, ∃ b ∈ r2, nb ns a = nb ns b) ∧ ∀ b ∈ r2, ∃ a ∈ r1, nb ns a = nb ns b := by
  constructor
  · intro e
    have key : ∀ x, x ∈ r1.map (nb ns) ↔ x ∈ r2.map (nb ns) := fun x => by
      rw [← mem_asc, ← mem_asc (L := r2.map (nb ns))]
      show x ∈ heldN ns r1 ↔ x ∈ heldN ns r2
      rw [e]
    refine ⟨fun a ha => ?_, fun b hb => ?_⟩
    · obtain ⟨b, hb, e⟩ := List.mem_map.mp ((key (nb ns a)).mp (List.mem_map.mpr ⟨a, ha, rfl⟩))
      exact ⟨b, hb, e.symm⟩
    · obtain ⟨a, ha, e⟩ := List.mem_map.mp ((key (nb ns b)).mpr (List.mem_map.mpr ⟨b, hb, rfl⟩))
      exact ⟨a, ha, e⟩
  · rintro ⟨h1, h2⟩
    refine asc_unique (asc_pw _) (asc_pw _) fun x => ?_
    show x ∈ asc (r1.map (nb ns)) ↔ x ∈ asc (r2.map (nb ns))
    rw [mem_asc, mem_asc]
    constructor
    · intro h
      obtain ⟨a, ha, e⟩ := List.mem_map.mp h
      obtain ⟨b, hb, e2⟩ := h1 a ha
      exact List.mem_map.mpr ⟨b, hb, by rw [← e2, e]⟩
    · intro h
      obtain ⟨b, hb, e⟩ := List.mem_map.mp h
      obtain ⟨a, ha, e2⟩ := h2 b hb
      exact List.mem_map.mpr ⟨a, ha, by rw [e2, e]⟩
/-- a numbering that keeps the alike together and leaves no number out -/
structure KL (D : List (List Nat)) (N : List Nat) : Prop where
  len : N.length = D.length
  bis : ∀ i j, i < D.length → j < D.length → Bis D i j → nb N i = nb N j
  onto : ∀ m, m < tops N → ∃ j, j < D.length ∧ nb N j = m
/-- one step of the refinement -/
structure Stp (D : List (List Nat)) (Np N : List Nat) : Prop where
  iff : ∀ i j, i < D.length → j < D.length → (nb N i = nb N j ↔ nb Np i = nb Np j ∧ heldN Np (rowOf D i) = heldN Np (rowOf D j))
/-- what the refinement ends with -/
structure Lk (D : List (List Nat)) (N : List Nat) : Prop where
  len : N.length = D.length
  iff : ∀ i j, i < D.length → j < D.length → (nb N i = nb N j ↔ Bis D i j)
  onto : ∀ m, m < tops N → ∃ j, j < D.length ∧ nb N j = m
section
variable {D : List (List Nat)} {N Np : List Nat}
theorem nb_zeros {i : Nat} : nb (D.map fun _ => 0) i = 0 := by
  by_cases h : i < (D.map fun _ => 0).length
  · rw [show nb (D.map fun _ => 0) i = (D.map fun _ => 0)[i] from getD_lt h]; simp
  · exact getD_ge (Nat.le_of_not_lt h)
theorem KL.start (h : 0 < D.length) : KL D (D.map fun _ => 0) := by
  have e : tops (D.map fun _ => 0) = 1 := by
    have hne : (D.map fun _ => (0 : Nat)) ≠ [] := by intro z; rw [List.map_eq_nil_iff] at z; rw [z] at h; exact absurd h (Nat.lt_irrefl _)
    unfold tops
    obtain ⟨_, _, e⟩ := List.mem_map.mp (fold_mem hne)
    rw [← e]
  exact ⟨by simp, fun i j _ _ _ => by rw [nb_zeros, nb_zeros], fun m hm => ⟨0, h, by rw [nb_zeros]; omega⟩⟩
theorem tops_le (h : KL D N) : tops N ≤ D.length := by
  have hs : ∀ x ∈ List.range (tops N), x ∈ N := fun x hx => by
    obtain ⟨j, hj, e⟩ := h.onto x (List.mem_range.mp hx)
    have hjl : j < N.length := by rw [h.len]; exact hj
    rw [← e, show nb N j = N[j] from getD_lt hjl]
    exact List.getElem_mem hjl
  have := L2.nat_nodup_len (List.range (tops N)) N List.nodup_range hs
  rwa [List.length_range, h.len] at this
/-- the pairs by which a step tells the places apart -/
def sigs (D : List (List Nat)) (Np : List Nat) : List (Nat × List Nat) := (Np.zip D).map fun p => (p.1, heldN Np p.2)
theorem sigs_get (hl : Np.length = D.length) {i : Nat} (h : i < D.length) : (sigs D Np)[i]? = some (nb Np i, heldN Np (rowOf D i)) := by
  unfold sigs
  have h1 : Np[i]? = some (nb Np i) := by rw [List.getElem?_eq_getElem (by omega)]; exact congrArg some (getD_lt (by omega)).symm
  have h2 : (Np.zip D)[i]? = some (nb Np i, rowOf D i) := List.getElem?_zip_eq_some.mpr ⟨h1, rowOf_get h⟩
  rw [List.getElem?_map, h2]
  rfl
theorem sigs_len (hl : Np.length = D.length) : (sigs D Np).length = D.length := by simp [sigs]; omega
theorem KL.step (h : KL D Np) (gd : Good D) (hpos : 0 < D.length) {ys : List (Nat × List Nat)} (nd : ys.Nodup) (hm : ∀ k, k ∈ ys ↔ k ∈ sigs D Np) : KL D ((sigs D Np).map fun k => ys.idxOf k) ∧ Stp D Np ((sigs D Np).map fun k => ys.idxOf k) := by
  have hg : ∀ i, i < D.length → nb ((sigs D Np).map fun k => ys.idxOf k) i = ys.idxOf (nb Np i, heldN Np (rowOf D i)) := fun i hi => by
    show ((sigs D Np).map fun k => ys.idxOf k).getD i 0 = _
    rw [List.getD_eq_getElem?_getD, List.getElem?_map, sigs_get h.len hi]
    rfl
  have hin : ∀ i, i < D.length → (nb Np i, heldN Np (rowOf D i)) ∈ ys := fun i hi => (hm _).mpr (List.mem_of_getElem? (sigs_get h.len hi))
  have hiff : ∀ i j, i < D.length → j < D.length → (nb ((sigs D Np).map fun k => ys.idxOf k) i = nb ((sigs D Np).map fun k => ys.idxOf k) j ↔ nb Np i = nb Np j ∧ heldN Np (rowOf D i) = heldN Np (rowOf D j)) := fun i j hi hj => by
    rw [hg i hi, hg j hj]
    constructor
    · intro e
      have h1 : ys[ys.idxOf (nb Np i, heldN Np (rowOf D i))]? = some (nb Np i, heldN Np (rowOf D i)) := by rw [List.getElem?_eq_getElem (List.idxOf_lt_length_iff.mpr (hin i hi)), List.getElem_idxOf]
      have h2 : ys[ys.idxOf (nb Np j, heldN Np (rowOf D j))]? = some (nb Np j, heldN Np (rowOf D j)) := by rw [List.getElem?_eq_getElem (List.idxOf_lt_length_iff.mpr (hin j hj)), List.getElem_idxOf]
      rw [e, h2] at h1
      have := Option.some.inj h1
      exact ⟨(congrArg Prod.fst this).symm, (congrArg Prod.snd this).symm⟩
    · rintro ⟨e1, e2⟩
      rw [e1, e2]
  refine ⟨⟨by rw [List.length_map, sigs_len h.len], fun i j hi hj b => ?_, fun m hm' => ?_⟩, ⟨hiff⟩⟩
  · rw [hiff i j hi hj]
    refine ⟨h.bis i j hi hj b, heldN_eq.mpr ?_⟩
    have bb := (Bis.is D) i j b
    exact ⟨fun a ha => let ⟨c, hc, t⟩ := bb.1 a ha; ⟨c, hc, h.bis a c (gd.lt ha).1 (gd.lt hc).1 t⟩, fun c hc => let ⟨a, ha, t⟩ := bb.2 c hc; ⟨a, ha, h.bis a c (gd.lt ha).1 (gd.lt hc).1 t⟩⟩
  · have hlen : ((sigs D Np).map fun k => ys.idxOf k).length = D.length := by rw [List.length_map, sigs_len h.len]
    have hne : ((sigs D Np).map fun k => ys.idxOf k) ≠ [] := by intro z; rw [z] at hlen; simp at hlen; omega
    obtain ⟨k, hk, e⟩ := List.mem_map.mp (fold_mem hne)
    have hmy : m < ys.length := by
      have h1 : ys.idxOf k < ys.length := List.idxOf_lt_length_iff.mpr ((hm k).mpr hk)
      unfold tops at hm'
      omega
    have hy : ys[m] ∈ sigs D Np := (hm _).mp (List.getElem_mem hmy)
    obtain ⟨j, hj, e2⟩ := List.getElem_of_mem hy
    have hjn : j < D.length := by rw [sigs_len h.len] at hj; exact hj
    refine ⟨j, hjn, ?_⟩
    rw [hg j hjn]
    have e3 : (nb Np j, heldN Np (rowOf D j)) = ys[m] := by
      have := sigs_get h.len hjn
      rw [List.getElem?_eq_getElem hj, e2] at this
      exact (Option.some.inj this).symm
    rw [e3]
    have hmem : ys[m] ∈ ys := List.getElem_mem hmy
    have hlt := List.idxOf_lt_length_iff.mpr hmem
    have e4 : ys[ys.idxOf ys[m]] = ys[m] := List.getElem_idxOf hlt
    exact (List.getElem_inj nd).mp e4
/-- as many numbers as before, or fewer: nothing more to tell apart -/
theorem Stp.same (h : KL D N) (hp : KL D Np) (st : Stp D Np N) (hc : tops N ≤ tops Np) {i j : Nat} (hi : i < D.length) (hj : j < D.length) (e : nb Np i = nb Np j) : nb N i = nb N j := by
  by_cases hne : nb N i = nb N j
  · exact hne
  exfalso
  -- the number before, by the number after
  have hex : ∀ v, v < tops N → ∃ x, x < D.length ∧ nb N x = v := h.onto
  have : ∃ φ : Nat → Nat, ∀ x, x < D.length → φ (nb N x) = nb Np x := by
    refine ⟨fun v => if hv : v < tops N then nb Np (Classical.choose (hex v hv)) else 0, fun x hx => ?_⟩
    have hv : nb N x < tops N := tops_gt (by rw [h.len]; exact hx)
    show (if hv : nb N x < tops N then nb Np (Classical.choose (hex (nb N x) hv)) else 0) = nb Np x
    rw [dif_pos hv]
    have sp := Classical.choose_spec (hex (nb N x) hv)
    exact ((st.iff _ _ sp.1 hx).mp sp.2).1
  obtain ⟨φ, hφ⟩ := this
  have hii : nb N i < tops N := tops_gt (by rw [h.len]; exact hi)
  have hjj : nb N j < tops N := tops_gt (by rw [h.len]; exact hj)
  have hsub : ∀ v ∈ List.range (tops Np), v ∈ ((List.range (tops N)).filter fun u => decide (u ≠ nb N i)).map φ := fun v hv => by
    obtain ⟨x, hx, e1⟩ := hp.onto v (List.mem_range.mp hv)
    by_cases hxi : nb N x = nb N i
    · refine List.mem_map.mpr ⟨nb N j, List.mem_filter.mpr ⟨List.mem_range.mpr hjj, by simpa using fun z => hne z.symm⟩, ?_⟩
      rw [hφ j hj, ← e, ← hφ i hi, ← hxi, hφ x hx, e1]
    · refine List.mem_map.mpr ⟨nb N x, List.mem_filter.mpr ⟨List.mem_range.mpr (tops_gt (by rw [h.len]; exact hx)), by simpa using hxi⟩, by rw [hφ x hx, e1]⟩
  have h1 := L2.nat_nodup_len _ _ List.nodup_range hsub
  have h2 := filter_drop_one (l := List.range (tops N)) (f := fun _ => true) (a := nb N i) List.nodup_range (List.mem_range.mpr hii) rfl
  rw [List.length_range, List.length_map] at h1
  rw [List.filter_eq_self.mpr (fun _ _ => rfl), List.length_range] at h2
  simp only [Bool.true_and] at h2
  omega
/-- the end of the loop -/
theorem Lk.of (h : KL D N) (hp : KL D Np) (gd : Good D) (st : Stp D Np N) (hc : tops N ≤ tops Np) : Lk D N := by
  refine ⟨h.len, fun i j hi hj => ⟨fun e => ⟨fun x y => x < D.length ∧ y < D.length ∧ nb N x = nb N y, ?_, hi, hj, e⟩, h.bis i j hi hj⟩, h.onto⟩
  rintro x y ⟨hx, hy, e⟩
  obtain ⟨h1, h2⟩ := heldN_eq.mp ((st.iff x y hx hy).mp e).2
  exact ⟨fun a ha => let ⟨b, hb, t⟩ := h1 a ha; ⟨b, hb, (gd.lt ha).1, (gd.lt hb).1, st.same h hp hc (gd.lt ha).1 (gd.lt hb).1 t⟩,
    fun b hb => let ⟨a, ha, t⟩ := h2 b hb; ⟨a, ha, (gd.lt ha).1, (gd.lt hb).1, st.same h hp hc (gd.lt ha).1 (gd.lt hb).1 t⟩⟩
theorem top_leL (h : Lk D N) : tops N ≤ D.length := tops_le ⟨h.len, fun i j hi hj b => (h.iff i j hi hj).mpr b, h.onto⟩
end
end K80

/-! Plain mathematics for the law of drawings: the least drawing. -/
namespace K80
open Rp
/-- φ carries the places of O to places of D and the rows to the rows, as sets -/
structure Hom (O D : List (List Nat)) (φ : Nat → Nat) : Prop where
  go : ∀ i, i < O.length → ∀ a ∈ rowOf O i, φ a ∈ rowOf D (φ i)
  back : ∀ i, i < O.length → ∀ b ∈ rowOf D (φ i), ∃ a ∈ rowOf O i, φ a = b
section
variable {O D : List (List Nat)} {φ : Nat → Nat} {i j : Nat}
theorem Hom.bis (h : Hom O D φ) (g : Good O) (hi : i < O.length) (hj : j < O.length) : Bis O i j ↔ Bis D (φ i) (φ j) := by
  constructor
  · intro b
    refine ⟨fun u v => ∃ x y, x < O.length ∧ y < O.length ∧ φ x = u ∧ φ y = v ∧ Bis O x y, ?_, i, j, hi, hj, rfl, rfl, b⟩
    rintro u v ⟨x, y, hx, hy, rfl, rfl, b⟩
    have bb := Bis.is O x y b
    refine ⟨fun a ha => ?_, fun c hc => ?_⟩
    · obtain ⟨a', ha', rfl⟩ := h.back x hx a ha
      obtain ⟨c, hc, t⟩ := bb.1 a' ha'
      exact ⟨φ c, h.go y hy c hc, a', c, (g.lt ha').1, (g.lt hc).1, rfl, rfl, t⟩
    · obtain ⟨c', hc', rfl⟩ := h.back y hy c hc
      obtain ⟨a, ha, t⟩ := bb.2 c' hc'
      exact ⟨φ a, h.go x hx a ha, a, c', (g.lt ha).1, (g.lt hc').1, rfl, rfl, t⟩
  · intro b
    refine ⟨fun x y => x < O.length ∧ y < O.length ∧ Bis D (φ x) (φ y), ?_, hi, hj, b⟩
    rintro x y ⟨hx, hy, b⟩
    have bb := Bis.is D _ _ b
    refine ⟨fun a ha => ?_, fun c hc => ?_⟩
    · obtain ⟨v, hv, t⟩ := bb.1 (φ a) (h.go x hx a ha)
      obtain ⟨c, hc, rfl⟩ := h.back y hy v hv
      exact ⟨c, hc, (g.lt ha).1, (g.lt hc).1, t⟩
    · obtain ⟨u, hu, t⟩ := bb.2 (φ c) (h.go y hy c hc)
      obtain ⟨a, ha, rfl⟩ := h.back x hx u hu
      exact ⟨a, ha, (g.lt ha).1, (g.lt hc).1, t⟩
theorem Hom.sttl (h : Hom O D φ) (g : Good O) (hi : i < O.length) : Sttl O i ↔ Sttl D (φ i) := by
  constructor
  · intro s
    induction s with
    | intro x _ ih =>
      refine Sttl.intro fun b hb => ?_
      obtain ⟨a, ha, rfl⟩ := h.back x hi b hb
      exact ih a ha (g.lt ha).1
  · intro s
    generalize hu : φ i = u at s
    induction s generalizing i with
    | intro u _ ih =>
      subst hu
      exact Sttl.intro fun a ha => ih (φ a) (h.go i hi a ha) (g.lt ha).1 rfl
theorem Sttl.reach {p x : Nat} (r : Reach D p x) (s : Sttl D p) : Sttl D x := by
  induction r with
  | refl => exact s
  | step _ m ih => exact ih.inv m
end
theorem idx_lt {L : List Nat} (h : L.Pairwise (· < ·)) {x y : Nat} (hx : x ∈ L) (hy : y ∈ L) (hxy : x < y) : L.idxOf x < L.idxOf y := by
  have h1 := List.idxOf_lt_length_iff.mpr hx
  have h2 := List.idxOf_lt_length_iff.mpr hy
  have e1 : L[L.idxOf x] = x := List.getElem_idxOf h1
  have e2 : L[L.idxOf y] = y := List.getElem_idxOf h2
  rcases Nat.lt_trichotomy (L.idxOf x) (L.idxOf y) with c | c | c
  · exact c
  · have : x = y := by rw [← e1, ← e2]; simp only [c]
    omega
  · have := List.pairwise_iff_getElem.mp h _ _ h2 h1 c
    omega
/-- the part of the drawing at L, its places renamed -/
def part (D : List (List Nat)) (L : List Nat) : List (List Nat) := L.map fun old => (rowOf D old).map fun x => L.idxOf x
/-- the rows of the least drawing -/
def leastR (O : List (List Nat)) (N : List Nat) : List (List Nat) := (List.range (tops N)).map fun m => heldN N (rowOf O (N.idxOf m))
/-- what the law asks of the least drawing -/
structure Least (D : List (List Nat)) (p : Nat) (rows : List (List Nat)) : Prop where
  good : Good rows
  pos : 0 < rows.length
  le : rows.length ≤ D.length
  apart : ∀ g h, g < rows.length → h < rows.length → Bis rows g h → g = h
  count : ∀ (C : Nat → Nat) (R : List Nat), (∀ i j, i < D.length → j < D.length → (C i = C j ↔ Bis D i j)) → (∀ x, x ∈ R ↔ Reach D p x) → (asc (R.map C)).length = rows.length
  plain : (∀ x, x < rows.length → Sttl rows x) ↔ Sttl D p
section
variable {D : List (List Nat)} {p : Nat} {L N : List Nat}
theorem part_len : (part D L).length = L.length := by simp [part]
theorem part_row {i : Nat} (h : i < L.length) : rowOf (part D L) i = (rowOf D (L.getD i 0)).map fun x => L.idxOf x := by
  show (part D L).getD i [] = _
  rw [List.getD_eq_getElem?_getD, part, List.getElem?_map, List.getElem?_eq_getElem h, show L.getD i 0 = L[i] from getD_lt h]
  rfl
theorem reach_sub (hL : ∀ x, x ∈ L ↔ Reach D p x) {i y : Nat} (h : i < L.length) (hy : y ∈ rowOf D (L.getD i 0)) : y ∈ L := by
  rw [show L.getD i 0 = L[i] from getD_lt h] at hy
  exact (hL y).mpr (.step ((hL _).mp (List.getElem_mem h)) hy)
theorem part_good (g : Good D) (ha : L.Pairwise (· < ·)) (hL : ∀ x, x ∈ L ↔ Reach D p x) : Good (part D L) := by
  intro row hr
  obtain ⟨i, hi, e⟩ := List.getElem_of_mem hr
  have hiL : i < L.length := by rwa [part_len] at hi
  have er : row = (rowOf D (L.getD i 0)).map fun x => L.idxOf x := by
    rw [← part_row hiL, ← e]
    exact (getD_lt hi).symm
  subst er
  refine ⟨?_, fun x hx => ?_⟩
  · rw [List.pairwise_map]
    exact List.Pairwise.imp_of_mem (fun {a b} ha' hb' hab => idx_lt ha (reach_sub hL hiL ha') (reach_sub hL hiL hb') hab) (g.asc _)
  · obtain ⟨y, hy, rfl⟩ := List.mem_map.mp hx
    rw [part_len]
    exact List.idxOf_lt_length_iff.mpr (reach_sub hL hiL hy)
theorem part_hom (hL : ∀ x, x ∈ L ↔ Reach D p x) : Hom (part D L) D fun i => L.getD i 0 := by
  have back : ∀ y ∈ L, L.getD (L.idxOf y) 0 = y := fun y hy => by
    have h := List.idxOf_lt_length_iff.mpr hy
    rw [show L.getD (L.idxOf y) 0 = L[L.idxOf y] from getD_lt h]
    exact List.getElem_idxOf h
  constructor
  · intro i hi a ha
    rw [part_len] at hi
    rw [part_row hi] at ha
    obtain ⟨y, hy, rfl⟩ := List.mem_map.mp ha
    show L.getD (L.idxOf y) 0 ∈ _
    rw [back y (reach_sub hL hi hy)]
    exact hy
  · intro i hi b hb
    rw [part_len] at hi
    rw [part_row hi]
    exact ⟨L.idxOf b, List.mem_map.mpr ⟨b, hb, rfl⟩, back b (reach_sub hL hi hb)⟩
variable {O : List (List Nat)}
theorem leastR_len : (leastR O N).length = tops N := by simp [leastR]
theorem idx_nb (h : Lk O N) {m : Nat} (hm : m < tops N) : N.idxOf m < O.length ∧ nb N (N.idxOf m) = m := by
  obtain ⟨j, hj, e⟩ := h.onto m hm
  have hjl : j < N.length := by rw [h.len]; exact hj
  have hin : m ∈ N := by rw [← e, show nb N j = N[j] from getD_lt hjl]; exact List.getElem_mem hjl
  have hlt := List.idxOf_lt_length_iff.mpr hin
  refine ⟨by rw [← h.len]; exact hlt, ?_⟩
  rw [show nb N (N.idxOf m) = N[N.idxOf m] from getD_lt hlt]
  exact List.getElem_idxOf hlt
theorem leastR_row (h : Lk O N) (g : Good O) {i : Nat} (hi : i < O.length) : rowOf (leastR O N) (nb N i) = heldN N (rowOf O i) := by
  have hm : nb N i < tops N := tops_gt (by rw [h.len]; exact hi)
  have e : rowOf (leastR O N) (nb N i) = heldN N (rowOf O (N.idxOf (nb N i))) := by
    show (leastR O N).getD _ [] = _
    rw [List.getD_eq_getElem?_getD, leastR, List.getElem?_map, List.getElem?_range hm]
    rfl
  rw [e]
  obtain ⟨h1, h2⟩ := idx_nb h hm
  have b := (h.iff _ _ h1 hi).mp h2
  have bb := Bis.is O _ _ b
  exact heldN_eq.mpr ⟨fun a ha => let ⟨c, hc, t⟩ := bb.1 a ha; ⟨c, hc, (h.iff _ _ (g.lt ha).1 (g.lt hc).1).mpr t⟩, fun c hc => let ⟨a, ha, t⟩ := bb.2 c hc; ⟨a, ha, (h.iff _ _ (g.lt ha).1 (g.lt hc).1).mpr t⟩⟩
theorem leastR_hom (h : Lk O N) (g : Good O) : Hom O (leastR O N) (nb N) := by
  constructor
  · intro i hi a ha
    rw [leastR_row h g hi]
    exact mem_asc.mpr (List.mem_map.mpr ⟨a, ha, rfl⟩)
  · intro i hi b hb
    rw [leastR_row h g hi] at hb
    obtain ⟨a, ha, e⟩ := List.mem_map.mp (mem_asc.mp hb)
    exact ⟨a, ha, e⟩
theorem least_of (g : Good D) (ha : L.Pairwise (· < ·)) (hL : ∀ x, x ∈ L ↔ Reach D p x) (hp : p < D.length) (h : Lk (part D L) N) : Least D p (leastR (part D L) N) := by
  have gO := part_good g ha hL
  have he := part_hom (D := D) hL
  have hq := leastR_hom h gO
  have hpL : p ∈ L := (hL p).mpr .refl
  have hLlt : ∀ x ∈ L, x < D.length := fun x hx => ((hL x).mp hx).lt g hp
  have hLpos : 0 < L.length := List.length_pos_iff.mpr (List.ne_nil_of_mem hpL)
  have nbl : ∀ i, i < (part D L).length → nb N i < tops N := fun i hi => tops_gt (by rw [h.len]; exact hi)
  have topN : tops N ≤ (part D L).length := top_leL h
  have eL : ∀ i, i < (part D L).length → L.getD i 0 < D.length := fun i hi => by
    rw [part_len] at hi
    rw [show L.getD i 0 = L[i] from getD_lt hi]
    exact hLlt _ (List.getElem_mem hi)
  refine ⟨?_, ?_, ?_, ?_, ?_, ?_⟩
  · intro row hr
    obtain ⟨m, hm, rfl⟩ := List.mem_map.mp hr
    refine ⟨asc_pw _, fun x hx => ?_⟩
    obtain ⟨a, ha', rfl⟩ := List.mem_map.mp (mem_asc.mp hx)
    rw [leastR_len]
    exact nbl a (gO.lt ha').1
  · rw [leastR_len]; unfold tops; omega
  · rw [leastR_len]
    have h1 : L.length ≤ D.length := asc_len ha hLlt
    rw [part_len] at topN
    omega
  · intro x y hx hy b
    rw [leastR_len] at hx hy
    obtain ⟨i, hi, rfl⟩ := h.onto x hx
    obtain ⟨j, hj, rfl⟩ := h.onto y hy
    exact (h.iff i j hi hj).mpr ((hq.bis gO hi hj).mpr b)
  · intro C R hC hR
    rw [leastR_len]
    have hCe : ∀ i j, i < (part D L).length → j < (part D L).length → (C (L.getD i 0) = C (L.getD j 0) ↔ nb N i = nb N j) := fun i j hi hj => by
      rw [hC _ _ (eL i hi) (eL j hj), h.iff i j hi hj]
      exact (he.bis gO hi hj).symm
    have nd1 : (asc (R.map C)).Nodup := (asc_pw _).imp fun q => Nat.ne_of_lt q
    have nd2 : ((List.range (tops N)).map fun m => C (L.getD (N.idxOf m) 0)).Nodup := by
      refine List.pairwise_map.mpr (List.Pairwise.imp_of_mem (fun {a b} ha' hb' hab e => ?_) List.pairwise_lt_range)
      obtain ⟨a1, a2⟩ := idx_nb h (List.mem_range.mp ha')
      obtain ⟨b1, b2⟩ := idx_nb h (List.mem_range.mp hb')
      have := (hCe _ _ a1 b1).mp e
      rw [a2, b2] at this
      omega
    have pm : (asc (R.map C)).Perm ((List.range (tops N)).map fun m => C (L.getD (N.idxOf m) 0)) := (List.perm_ext_iff_of_nodup nd1 nd2).mpr fun c => by
      rw [mem_asc]
      constructor
      · intro hc
        obtain ⟨x, hx, rfl⟩ := List.mem_map.mp hc
        have hxL : x ∈ L := (hL x).mpr ((hR x).mp hx)
        have hxi := List.idxOf_lt_length_iff.mpr hxL
        have hxp : L.idxOf x < (part D L).length := by rw [part_len]; exact hxi
        have e1 : L.getD (L.idxOf x) 0 = x := by rw [show L.getD (L.idxOf x) 0 = L[L.idxOf x] from getD_lt hxi]; exact List.getElem_idxOf hxi
        have hm := nbl _ hxp
        obtain ⟨m1, m2⟩ := idx_nb h hm
        refine List.mem_map.mpr ⟨nb N (L.idxOf x), List.mem_range.mpr hm, ?_⟩
        rw [(hCe _ _ m1 hxp).mpr m2, e1]
      · intro hc
        obtain ⟨m, hm, rfl⟩ := List.mem_map.mp hc
        obtain ⟨m1, _⟩ := idx_nb h (List.mem_range.mp hm)
        rw [part_len] at m1
        refine List.mem_map.mpr ⟨_, (hR _).mpr ((hL _).mp ?_), rfl⟩
        rw [show L.getD (N.idxOf m) 0 = L[N.idxOf m] from getD_lt m1]
        exact List.getElem_mem m1
    rw [pm.length_eq, List.length_map, List.length_range]
  · have hpi := List.idxOf_lt_length_iff.mpr hpL
    have hpp : L.idxOf p < (part D L).length := by rw [part_len]; exact hpi
    have ep : L.getD (L.idxOf p) 0 = p := by rw [show L.getD (L.idxOf p) 0 = L[L.idxOf p] from getD_lt hpi]; exact List.getElem_idxOf hpi
    have h1 := he.sttl gO hpp
    simp only [ep] at h1
    rw [leastR_len]
    constructor
    · intro all
      exact h1.mp ((hq.sttl gO hpp).mpr (all _ (nbl _ hpp)))
    · intro s x hx
      obtain ⟨i, hi, rfl⟩ := h.onto x hx
      refine (hq.sttl gO hi).mp ((he.sttl gO hi).mpr ?_)
      rw [part_len] at hi
      refine Sttl.reach ((hL _).mp ?_) s
      show L.getD i 0 ∈ L
      rw [show L.getD i 0 = L[i] from getD_lt hi]
      exact List.getElem_mem hi
end
end K80

/-! Plain mathematics for the law of drawings: the classes, each place by the first one alike. -/
namespace K80
open Rp
/-- a numbering by the first place of each class -/
structure Can (D : List (List Nat)) (N : List Nat) : Prop where
  len : N.length = D.length
  le : ∀ i, i < D.length → nb N i ≤ i
  fx : ∀ i, i < D.length → nb N (nb N i) = nb N i
  bis : ∀ i j, i < D.length → j < D.length → Bis D i j → nb N i = nb N j
/-- the classes -/
structure Cls (D : List (List Nat)) (N : List Nat) : Prop where
  len : N.length = D.length
  le : ∀ i, i < D.length → nb N i ≤ i
  fx : ∀ i, i < D.length → nb N (nb N i) = nb N i
  iff : ∀ i j, i < D.length → j < D.length → (nb N i = nb N j ↔ Bis D i j)
def fixd (D : List (List Nat)) (N : List Nat) : Nat := ((List.range D.length).filter fun i => decide (nb N i = i)).length
/-- the keys of a turn -/
def keysN (D : List (List Nat)) (N : List Nat) : List (Nat × List Nat) := (List.range D.length).map fun i => (nb N i, heldN N (rowOf D i))
def nextN (D : List (List Nat)) (N : List Nat) : List Nat := (keysN D N).map fun k => (keysN D N).idxOf k
section
variable {D : List (List Nat)} {N : List Nat}
theorem keysN_len : (keysN D N).length = D.length := by simp [keysN]
theorem keysN_get {i : Nat} (h : i < D.length) : (keysN D N)[i]? = some (nb N i, heldN N (rowOf D i)) := by
  unfold keysN
  rw [List.getElem?_map, List.getElem?_range h]
  rfl
theorem Can.start : Can D (D.map fun _ => 0) := ⟨by simp, fun i _ => by rw [nb_zeros]; exact Nat.zero_le _, fun i _ => by rw [nb_zeros, nb_zeros], fun i j _ _ _ => by rw [nb_zeros, nb_zeros]⟩
theorem fix_start (h : 0 < D.length) : 1 ≤ fixd D (D.map fun _ => 0) := by
  unfold fixd
  refine List.length_pos_iff.mpr (List.ne_nil_of_mem (a := 0) (List.mem_filter.mpr ⟨List.mem_range.mpr h, ?_⟩))
  rw [nb_zeros]
  rfl
theorem fix_le : fixd D N ≤ D.length := by
  have := List.length_filter_le (fun i => decide (nb N i = i)) (List.range D.length)
  rwa [List.length_range] at this
theorem next_len : (nextN D N).length = D.length := by simp [nextN, keysN_len]
theorem next_at {i : Nat} (h : i < D.length) : nb (nextN D N) i = (keysN D N).idxOf (nb N i, heldN N (rowOf D i)) := by
  show (nextN D N).getD i 0 = _
  rw [List.getD_eq_getElem?_getD, nextN, List.getElem?_map, keysN_get h]
  rfl
theorem next_key {i : Nat} (h : i < D.length) : nb (nextN D N) i < D.length ∧ (nb N (nb (nextN D N) i), heldN N (rowOf D (nb (nextN D N) i))) = (nb N i, heldN N (rowOf D i)) := by
  rw [next_at h]
  have hm : (nb N i, heldN N (rowOf D i)) ∈ keysN D N := List.mem_of_getElem? (keysN_get h)
  have hlt := List.idxOf_lt_length_iff.mpr hm
  have hlt2 : (keysN D N).idxOf (nb N i, heldN N (rowOf D i)) < D.length := by rw [keysN_len] at hlt; exact hlt
  refine ⟨hlt2, ?_⟩
  have e1 := keysN_get (N := N) hlt2
  rw [List.getElem?_eq_getElem hlt, List.getElem_idxOf] at e1
  exact (Option.some.inj e1).symm
theorem idxOf_le {α : Type} [BEq α] [LawfulBEq α] : ∀ {l : List α} {k : Nat} {m : α}, l[k]? = some m → l.idxOf m ≤ k
  | [], _, _, h => by simp at h
  | x :: xs, 0, m, h => by simp at h; subst h; simp
  | x :: xs, k + 1, m, h => by
    rcases Classical.em (x = m) with e | e
    · subst e; simp
    · have := idxOf_le (l := xs) (k := k) (m := m) (by simpa using h)
      rw [List.idxOf_cons]
      simp only [show (x == m) = false by simpa using e, cond_false]
      omega
theorem next_iff {i j : Nat} (hi : i < D.length) (hj : j < D.length) : nb (nextN D N) i = nb (nextN D N) j ↔ nb N i = nb N j ∧ heldN N (rowOf D i) = heldN N (rowOf D j) := by
  constructor
  · intro e
    have h1 := (next_key (N := N) hi).2
    have h2 := (next_key (N := N) hj).2
    rw [e, h2] at h1
    exact ⟨(congrArg Prod.fst h1).symm, (congrArg Prod.snd h1).symm⟩
  · rintro ⟨e1, e2⟩
    rw [next_at hi, next_at hj, e1, e2]
theorem Can.next (h : Can D N) (gd : Good D) : Can D (nextN D N) := by
  refine ⟨next_len, fun i hi => ?_, fun i hi => ?_, fun i j hi hj b => ?_⟩
  · rw [next_at hi]
    exact idxOf_le (keysN_get hi)
  · obtain ⟨h1, h2⟩ := next_key (N := N) hi
    exact (next_iff h1 hi).mpr ⟨congrArg Prod.fst h2, congrArg Prod.snd h2⟩
  · rw [next_iff hi hj]
    have bb := Bis.is D i j b
    exact ⟨h.bis i j hi hj b, heldN_eq.mpr ⟨fun a ha => let ⟨c, hc, t⟩ := bb.1 a ha; ⟨c, hc, h.bis a c (gd.lt ha).1 (gd.lt hc).1 t⟩, fun c hc => let ⟨a, ha, t⟩ := bb.2 c hc; ⟨a, ha, h.bis a c (gd.lt ha).1 (gd.lt hc).1 t⟩⟩⟩
/-- nothing new: the classes are found -/
theorem Can.stop (h : Can D N) (gd : Good D) (e : nextN D N = N) : Cls D N := by
  refine ⟨h.len, h.le, h.fx, fun i j hi hj => ⟨fun q => ⟨fun x y => x < D.length ∧ y < D.length ∧ nb N x = nb N y, ?_, hi, hj, q⟩, h.bis i j hi hj⟩⟩
  rintro x y ⟨hx, hy, q⟩
  have q2 : nb (nextN D N) x = nb (nextN D N) y := by rw [e]; exact q
  obtain ⟨h1, h2⟩ := heldN_eq.mp ((next_iff hx hy).mp q2).2
  exact ⟨fun a ha => let ⟨b, hb, t⟩ := h1 a ha; ⟨b, hb, (gd.lt ha).1, (gd.lt hb).1, t⟩, fun b hb => let ⟨a, ha, t⟩ := h2 b hb; ⟨a, ha, (gd.lt ha).1, (gd.lt hb).1, t⟩⟩
theorem filter_lt {l : List Nat} {f f' : Nat → Bool} (nd : l.Nodup) (hs : ∀ x ∈ l, f x = true → f' x = true) {a : Nat} (ha : a ∈ l) (h1 : f a = false) (h2 : f' a = true) : (l.filter f).length + 1 ≤ (l.filter f').length := by
  have := L2.nat_nodup_len (a :: l.filter f) (l.filter f') (List.nodup_cons.mpr ⟨fun q => (by rw [(List.mem_filter.mp q).2] at h1; cases h1), nd.sublist List.filter_sublist⟩) fun x hx => by
    rcases List.mem_cons.mp hx with e | hx
    · subst e; exact List.mem_filter.mpr ⟨ha, h2⟩
    · obtain ⟨q1, q2⟩ := List.mem_filter.mp hx
      exact List.mem_filter.mpr ⟨q1, hs x q1 q2⟩
  simpa using this
/-- something new: one class more at least -/
theorem Can.more (h : Can D N) (gd : Good D) (e : nextN D N ≠ N) : fixd D N + 1 ≤ fixd D (nextN D N) := by
  have h' := h.next gd
  have hex : ∃ i, i < D.length ∧ nb (nextN D N) i ≠ nb N i := by
    by_cases q : ∃ i, i < D.length ∧ nb (nextN D N) i ≠ nb N i
    · exact q
    · refine absurd (List.ext_getElem (by rw [next_len, h.len]) fun i h1 h2 => ?_) e
      have hi : i < D.length := by rwa [next_len] at h1
      by_cases z : nb (nextN D N) i = nb N i
      · rwa [show nb (nextN D N) i = (nextN D N)[i] from getD_lt h1, show nb N i = N[i] from getD_lt h2] at z
      · exact absurd ⟨i, hi, z⟩ q
  obtain ⟨i, hi, hne⟩ := hex
  obtain ⟨hj, hk⟩ := next_key (N := N) hi
  have hkj : nb N (nb (nextN D N) i) = nb N i := congrArg Prod.fst hk
  refine filter_lt (a := nb (nextN D N) i) List.nodup_range (fun x hx hxx => ?_) (List.mem_range.mpr hj) ?_ ?_
  · have hxn := List.mem_range.mp hx
    have e0 : nb N x = x := by simpa using hxx
    obtain ⟨_, hkx⟩ := next_key (N := N) hxn
    have e1 : nb N (nb (nextN D N) x) = x := (congrArg Prod.fst hkx).trans e0
    have l1 := h.le _ (next_key (N := N) hxn).1
    have l2 := h'.le x hxn
    have : nb (nextN D N) x = x := by omega
    simpa using this
  · have : nb N (nb (nextN D N) i) ≠ nb (nextN D N) i := by rw [hkj]; exact Ne.symm hne
    simpa using this
  · have := h'.fx i hi
    simpa using this
/-- the classes are the places themselves just where no two are alike -/
theorem Cls.unlike (h : Cls D N) : N = List.range D.length ↔ ∀ i j, i < j → j < D.length → ¬ Bis D i j := by
  constructor
  · intro e i j hij hj b
    have := (h.iff i j (by omega) hj).mpr b
    rw [e] at this
    have h1 : nb (List.range D.length) i = i := by show (List.range D.length).getD i 0 = i; rw [getD_lt (by simp; omega)]; simp
    have h2 : nb (List.range D.length) j = j := by show (List.range D.length).getD j 0 = j; rw [getD_lt (by simp; omega)]; simp
    omega
  · intro hu
    refine List.ext_getElem (by simp [h.len]) fun i h1 h2 => ?_
    have hi : i < D.length := by simpa using h2
    have e1 := h.fx i hi
    have e2 := h.le i hi
    have b := (h.iff (nb N i) i (by omega) hi).mp e1
    have : nb N i = i := by
      rcases Nat.lt_or_eq_of_le e2 with c | c
      · exact absurd b (hu _ _ c hi)
      · exact c
    rw [show nb N i = N[i] from getD_lt h1] at this
    rw [this]
    simp
end
end K80

/-! Plain mathematics for the law of drawings: the law's own settling and reaching. -/
namespace K80
/-- settled so far -/
structure SI (D : List (List Nat)) (S : List Nat) : Prop where
  nd : S.Nodup
  ok : ∀ x ∈ S, x < D.length ∧ Sttl D x
def Shut (D : List (List Nat)) (S : List Nat) : Prop := ∀ x, x < D.length → x ∉ S → ∃ y ∈ rowOf D x, y ∉ S
/-- within a pass that began with S0, the first j places asked -/
structure SP (D : List (List Nat)) (S0 : List Nat) (j : Nat) (S : List Nat) : Prop where
  si : SI D S
  or : (S = S0 ∧ ∀ x, x < j → x ∉ S0 → ∃ y ∈ rowOf D x, y ∉ S0) ∨ (S0.length + 1 ≤ S.length ∧ ¬ Shut D S0)
section
variable {D : List (List Nat)} {S S0 : List Nat} {j t : Nat}
theorem SI.len (h : SI D S) : S.length ≤ D.length := nodup_lt_len h.nd fun x hx => (h.ok x hx).1
theorem SI.nil : SI D [] := ⟨List.nodup_nil, fun x hx => by cases hx⟩
theorem SP.start (h : SI D S0) : SP D S0 0 S0 := ⟨h, .inl ⟨rfl, fun x hx => absurd hx (Nat.not_lt_zero _)⟩⟩
theorem SP.add (h : SP D S0 j S) (hj : j < D.length) (hn : j ∉ S) (hr : ∀ y ∈ rowOf D j, y ∈ S) : SP D S0 (j + 1) (S ++ [j]) := by
  refine ⟨⟨List.nodup_append.mpr ⟨h.si.nd, by simp, fun x hx y hy e => ?_⟩, fun x hx => ?_⟩, .inr ?_⟩
  · have : y = j := by simpa using hy
    subst this
    exact hn (e ▸ hx)
  · rcases List.mem_append.mp hx with hx | hx
    · exact h.si.ok x hx
    · have : x = j := by simpa using hx
      subst this
      exact ⟨hj, Sttl.intro fun y hy => (h.si.ok y (hr y hy)).2⟩
  · rcases h.or with ⟨e, _⟩ | ⟨h1, h2⟩
    · subst e
      refine ⟨by simp, fun c => ?_⟩
      obtain ⟨y, hy, hny⟩ := c j hj hn
      exact hny (hr y hy)
    · exact ⟨by simp; omega, h2⟩
theorem SP.skip (h : SP D S0 j S) (hr : j ∈ S ∨ ∃ y ∈ rowOf D j, y ∉ S) : SP D S0 (j + 1) S := by
  refine ⟨h.si, ?_⟩
  rcases h.or with ⟨e, h1⟩ | h2
  · subst e
    refine .inl ⟨rfl, fun x hx hxn => ?_⟩
    rcases Nat.lt_or_eq_of_le (Nat.le_of_lt_succ hx) with c | c
    · exact h1 x c hxn
    · subst c
      exact hr.resolve_left hxn
  · exact .inr h2
/-- a pass is over -/
theorem SP.done (h : SP D S0 D.length S) (h0 : t ≤ S0.length ∨ Shut D S0) : SI D S ∧ (t + 1 ≤ S.length ∨ Shut D S) := by
  refine ⟨h.si, ?_⟩
  rcases h.or with ⟨e, h1⟩ | ⟨h1, h2⟩
  · subst e
    exact .inr fun x hx hn => h1 x hx hn
  · rcases h0 with h0 | h0
    · exact .inl (by omega)
    · exact absurd h0 h2
theorem SI.told (h : SI D S) (gd : Good D) (hc : D.length ≤ S.length ∨ Shut D S) : S.Nodup ∧ ∀ x, x ∈ S ↔ x < D.length ∧ Sttl D x := by
  refine ⟨h.nd, fun x => ⟨h.ok x, fun ⟨hx, s⟩ => ?_⟩⟩
  rcases hc with hc | hc
  · by_cases hm : x ∈ S
    · exact hm
    · exfalso
      have := nodup_lt_len (l := x :: S) (n := D.length) (List.nodup_cons.mpr ⟨hm, h.nd⟩) fun y hy => by
        rcases List.mem_cons.mp hy with e | hy
        · omega
        · exact (h.ok y hy).1
      rw [List.length_cons] at this
      omega
  · induction s with
    | intro x hacc ih =>
      by_cases hm : x ∈ S
      · exact hm
      · obtain ⟨y, hy, hny⟩ := hc x hx hm
        exact absurd (ih y hy ⟨(gd.lt hy).1, hacc y hy⟩ (gd.lt hy).1) hny
/-- reached so far, the rows of the first t looked through -/
structure RC (D : List (List Nat)) (p t : Nat) (R : List Nat) : Prop where
  nd : R.Nodup
  ok : ∀ x ∈ R, Reach D p x ∧ x < D.length
  hp : p ∈ R
  cl : ∀ (i : Nat) x, i < t → R[i]? = some x → ∀ y ∈ rowOf D x, y ∈ R
/-- .. within the row of c, the first i -/
structure RD (D : List (List Nat)) (p t c i : Nat) (R : List Nat) : Prop where
  rc : RC D p t R
  hc : R[t]? = some c
  cc : ∀ y ∈ (rowOf D c).take i, y ∈ R
variable {p c i y : Nat} {R : List Nat}
theorem RC.start (hp : p < D.length) : RC D p 0 [p] := by
  refine ⟨by simp, fun x hx => ?_, by simp, fun i x hi => absurd hi (Nat.not_lt_zero _)⟩
  have : x = p := by simpa using hx
  subst this
  exact ⟨.refl, hp⟩
theorem RC.turn (h : RC D p t R) (hc : R[t]? = some c) : RD D p t c 0 R := ⟨h, hc, fun y hy => by simp at hy⟩
theorem RC.past (h : RC D p t R) (hl : R.length ≤ t) : RC D p (t + 1) R := ⟨h.nd, h.ok, h.hp, fun i x hi hx => h.cl i x (by have := (List.getElem?_eq_some_iff.mp hx).1; omega) hx⟩
theorem RD.done (h : RD D p t c (rowOf D c).length R) : RC D p (t + 1) R := ⟨h.rc.nd, h.rc.ok, h.rc.hp, fun i x hi hx y hy => by
  rcases Nat.lt_or_eq_of_le (Nat.le_of_lt_succ hi) with z | z
  · exact h.rc.cl i x z hx y hy
  · subst z
    rw [h.hc] at hx
    cases hx
    exact h.cc y (by rw [List.take_length]; exact hy)⟩
theorem RD.skip (h : RD D p t c i R) (hy : (rowOf D c)[i]? = some y) (hm : y ∈ R) : RD D p t c (i + 1) R := ⟨h.rc, h.hc, fun z hz => (take_mem_succ hy hz).elim (h.cc z) fun e => e ▸ hm⟩
theorem RD.push (h : RD D p t c i R) (gd : Good D) (hy : (rowOf D c)[i]? = some y) (hm : y ∉ R) : RD D p t c (i + 1) (R ++ [y]) := by
  have my := List.mem_of_getElem? hy
  have hcm := List.mem_of_getElem? h.hc
  refine ⟨⟨List.nodup_append.mpr ⟨h.rc.nd, by simp, fun x hx z hz e => ?_⟩, fun x hx => ?_, by simp [h.rc.hp], fun i x hi hx z hz => ?_⟩, ?_, fun z hz => ?_⟩
  · have : z = y := by simpa using hz
    subst this
    exact hm (e ▸ hx)
  · rcases List.mem_append.mp hx with hx | hx
    · exact h.rc.ok x hx
    · have : x = y := by simpa using hx
      subst this
      exact ⟨.step (h.rc.ok c hcm).1 my, (gd.lt my).1⟩
  · have ht := (List.getElem?_eq_some_iff.mp h.hc).1
    rw [List.getElem?_append_left (by omega)] at hx
    exact List.mem_append_left _ (h.rc.cl i x hi hx z hz)
  · rw [List.getElem?_append_left (List.getElem?_eq_some_iff.mp h.hc).1]
    exact h.hc
  · rcases take_mem_succ hy hz with hz | e
    · exact List.mem_append_left _ (h.cc z hz)
    · subst e; simp
theorem RC.len (h : RC D p t R) : R.length ≤ D.length := nodup_lt_len h.nd fun x hx => (h.ok x hx).2
theorem RC.told (h : RC D p D.length R) : ∀ x, x ∈ R ↔ Reach D p x := fun x => ⟨fun hx => (h.ok x hx).1, fun r => by
  induction r with
  | refl => exact h.hp
  | step _ m ih =>
    obtain ⟨i, hi, e⟩ := List.getElem_of_mem ih
    exact h.cl i _ (by have := h.len; omega) (by rw [List.getElem?_eq_getElem hi, e]) _ m⟩
end
end K80

namespace K80
open PySem PySem.Spec PyProof.Rows L2 Rp
abbrev rD : R (List (List Nat)) := rL (rL rN)
def spReachable : Sp := fun vs H Q _ => ∃ (M : List Addr) (v1 v2 : V) (D : List (List Nat)) (p : Nat), vs = [v1, v2] ∧ Old M H ∧ rD M H v1 D ∧ rN M H v2 p ∧ Good D ∧ p < D.length ∧ D.length ≤ 1000 ∧
  ∀ v H2 L, Same H H2 → rL rN M H2 v L → L.Pairwise (· < ·) → (∀ x, x ∈ L ↔ Reach D p x) → Q v H2
section
variable {P : Program} {w : World} {K : PySem.W.Frag} {mg : Str → Option Value} {base : Heap}
abbrev NReachable : List Str := ["drawing", "place", "reached", "row", "waiting", "current", "held", "at"]
theorem scReachable : FnScope NReachable ["drawing", "place"] (defScope sReachable) := ⟨rfl, rfl, rfl, by decide +kernel, rfl, by decide +kernel, by decide +kernel⟩
theorem ok_reachable {f : Addr} {fd : FuncData} (F : FD K "reachable" sReachable f fd) (T : Tx K mg) : FnOk P w K mg base CX0 1 f fd ["drawing", "place"] spReachable := by
  refine F.ok scReachable (fun vs H Q E h => ?_) (fun cdv A outer s H vs Q E hr h => ?_)
  · obtain ⟨_, _, _, _, _, rfl, _⟩ := h
    rfl
  · obtain ⟨M, v1, v2, D, p, rfl, d, h1, h2, hD, hp, hn, k⟩ := h
    have nd := scReachable.nd
    refine ⟨_, PSs.nox (pss_cons (ps_set (i := 2) nd rfl (by first | exact Or.inl rfl | exact Or.inr rfl) (pe_lc rfl nd (pil K (pv 0)) (blkOk_by (own := [("row", 3)]) (N := NReachable) (sc := defScope sReachable) (by decide +kernel)) (fun _ _ _ _ _ => (pg_name (i := 3) nd rfl (by first | exact Or.inl rfl | exact Or.inr rfl))) (fun _ _ _ _ _ => pts_nil) (fun _ _ _ _ _ => pe_bl)))
      (pss_cons (ps_asg pe_bl (pg_sub (pv 2) (pv 1) set_list))
      (pss_cons (ps_set (i := 4) nd rfl (by first | exact Or.inl rfl | exact Or.inr rfl) (pe_lst (pa_cons (pv 1) pa_nil)))
      (pss_cons (ps_while PassesOwn.never (pt_cmpR (oneD K hr.units) (pv 4) (pe_lst pa_nil) (nomark _)) (pss_cons (ps_set (i := 5) nd rfl (by first | exact Or.inl rfl | exact Or.inr rfl) (pbm0 K PySem.F.plainAttrs_list PySem.F.slot_list_pop PySem.F.type_list_pop mt_pop (pv 4)))
      (pss_one (ps_for PassesOwn.never rfl (pil K (pe_ix (ixl K) (pv 0) (pv 5) (fun _ _ => rfl))) (pg_name (i := 6) nd rfl (by first | exact Or.inl rfl | exact Or.inr rfl)) (pss_one (ps_if (pt_not (pt_val (pe_ix (ixl K) (pv 2) (pv 6) (fun _ _ => rfl)))) (pss_cons (ps_asg pe_bl (pg_sub (pv 2) (pv 6) set_list))
      (pss_one (ps_expr (pbm K PySem.F.plainAttrs_list PySem.F.slot_list_append PySem.F.type_list_append mt_append (pv 4) (pa_cons (pv 6) pa_nil))))) pss_nil))))))
      (pss_one (ps_ret (pe_lc rfl nd (pi_range1 rfl T.f_range (pa_cons (pe_callB (clen K) rfl T.f_len boot_len (pa_cons (pv 0) pa_nil)) pa_nil)) (blkOk_by (own := [("at", 7)]) (N := NReachable) (sc := defScope sReachable) (by decide +kernel)) (fun _ _ _ _ _ => (pg_name (i := 7) nd rfl (by first | exact Or.inl rfl | exact Or.inr rfl))) (fun _ _ _ _ _ => pts_one (pt_val (pe_ix (ixl K) (pv 2) (pv 7) (fun _ _ => rfl)))) (fun _ _ _ _ _ => (pv 7))))))))), ?_⟩
    refine q_asg (ev_lcMn (q := rB) d (fun _ => false) (ev_var rfl h1) (by omega) (fun _ => rfl) (fun M' H1 v x up hx rv => ev_bl)) fun v H1 s1 ⟨pr, vs, e, np, g1, f1⟩ => ?_
    subst e
    obtain rfl := rB.map f1
    refine q_setL (P := as rB M true) ev_bl (ev_ref rfl) g1 (ev_var rfl (Rep.same s1 h2)) (by simpa using hp) fun v H2 H3 s2 e s3 => ?_
    obtain rfl : v = .bl true := e
    obtain rfl : v2 = .int (p : Int) := h2
    refine q_newA (ws := [.int (p : Int)]) (ea_v1 rfl) (by show 1 ≤ 1000; decide) fun pw H4 s4 nw => ?_
    have sA : Same H H3 := (s1.trans s2).trans s3
    have sB : Same H H4 := (Same.mut sA np).trans s4
    have npw : pr ≠ pw := ne_of_none (s4 pr _ upd_same) nw
    have nw0 : H pw = none := sB.free nw
    have h1' : rD (pw :: pr :: M) H v1 D := Rep.new nw0 (Rep.new np h1)
    refine q_while ⟨fun m σ' H' => ∃ bs ws c3 c5 c6 c7, m = mu bs ws ∧ σ' = [some v1, some (.int (p : Int)), some (.ref pr), c3, some (.ref pw), c5, c6, c7] ∧ Same H H' ∧ H' pr = some (.lst (bs.map V.bl)) ∧ H' pw = some (.lst (ws.map fun n : Nat => V.int (n : Int))) ∧ RI D p bs ws ∧ mu bs ws ≤ 2 * D.length + 1,
      ⟨_, (D.map fun _ => false).set p true, [p], none, none, none, none, rfl, rfl, Same.mut sB nw0, ?_, upd_same, RI.start hp, ?_⟩, ?_⟩
    · rw [upd_ne npw, s4 pr _ upd_same, List.map_set]
    · have h2 : ((D.map fun _ => false).set p true).count false ≤ ((D.map fun _ => false).set p true).length := List.count_le_length
      unfold mu
      simp only [List.length_set, List.length_map] at h2
      simp only [List.length_cons, List.length_nil]
      omega
    · rintro m σ' H' ⟨bs, ws, c3, c5, c6, c7, rfl, rfl, sH, hr', hw', I, hmu⟩
      have wR : rL rN [] H' (.ref pw) ws := ⟨pw, _, rfl, by simp, hw', rN.F2⟩
      refine ⟨!decide (ws = []), et_val (ev_neD (M := []) (ha := ev_var rfl wR) (hb := ev_nil Old.nil)), fun hb H5 s5 => ?_, fun hb H5 s5 => ?_⟩
      · -- the turn
        have hne : ws ≠ [] := by simpa using hb
        obtain ⟨ws', c, rfl⟩ : ∃ ws' c, ws = ws' ++ [c] := ⟨ws.dropLast, ws.getLast hne, (List.dropLast_concat_getLast hne).symm⟩
        have hc : c < D.length := by
          have := (List.getElem?_eq_some_iff.mp (I.wl c (by simp))).1
          rw [← I.len]; exact this
        refine ev_popW (vs := ws'.map fun n : Nat => V.int (n : Int)) (v := .int (c : Int)) (ev_ref rfl) (by rw [s5 pw _ hw']; simp) fun H6 s6 => ?_
        have sC : Same H (upd H6 pw (.lst (ws'.map fun n : Nat => V.int (n : Int)))) := Same.mut ((sH.trans s5).trans s6) nw0
        refine s_forL (r := rN) (L := [pw, pr]) (M := pw :: pr :: M) (xs := rowOf D c) (ev_ixL (ev_var rfl (Rep.same sC h1')) (ev_var rfl (x := c) (r := rN) (M := pw :: pr :: M) rfl) (rowOf_get hc)) (by simp) fun H7 s7 => ?_
        refine ⟨fun i σ' H' => ∃ bs2 ws2 c3 c6 c7, σ' = [some v1, some (.int (p : Int)), some (.ref pr), c3, some (.ref pw), some (.int (c : Int)), c6, c7] ∧ Kp [pw, pr] H7 H' ∧ H' pr = some (.lst (bs2.map V.bl)) ∧ H' pw = some (.lst (ws2.map fun n : Nat => V.int (n : Int))) ∧ RJ D p c i bs2 ws2 ∧ mu bs2 ws2 ≤ mu bs ws',
          ⟨bs, ws', c3, c6, c7, rfl, Kp.refl _ _, ?_, s7 pw _ upd_same, I.pop, Nat.le_refl _⟩, fun i σ' H' ⟨_, _, _, _, _, _, k, _⟩ => k, ?_, ?_⟩
        · refine s7 pr _ ?_
          rw [upd_ne npw]
          exact s6 pr _ (s5 pr _ hr')
        · rintro i v y σ' H8 hy rfl ⟨bs2, ws2, c3, c6, c7, rfl, k8, g8, g9, J, hm⟩
          have my : y ∈ rowOf D c := List.mem_of_getElem? hy
          have hyn : y < bs2.length := by rw [J.len]; exact (hD.lt my).1
          have hv : (bs2.map V.bl)[y]? = some (.bl bs2[y]) := by simp [hyn]
          refine s_when (et_not (et_B (M := []) (b := bs2[y]) (ev_ixO (n := y) (M := []) (ev_ref rfl) g8 (ev_var rfl (r := rN) rfl) hv))) (fun hb H9 s9 => ?_) (fun hb H9 s9 => ?_)
          · have hbf : bs2[y]? = some false := by rw [List.getElem?_eq_getElem hyn]; simpa using hb
            refine q_setL (n := y) (M := []) (P := as rB M true) ev_bl (ev_ref rfl) (s9 pr _ g8) (ev_var rfl (r := rN) rfl) (by simpa using hyn) fun v H10 H11 s10 e s11 => ?_
            obtain rfl : v = .bl true := e
            have gw : (upd H11 pr (.lst ((bs2.map V.bl).set y (.bl true)))) pw = some (.lst (ws2.map fun n : Nat => V.int (n : Int))) := by
              rw [upd_ne npw.symm]; exact (s9.trans (s10.trans s11)) pw _ g9
            refine s_app (P := fun _ w => w = .int (y : Int)) (ev_ref rfl) gw (ev_ref rfl) ?_ fun v H12 s12 e => ?_
            · have h1 : ws2.length ≤ mu bs2 ws2 := by unfold mu; omega
              have h2 : mu bs ws' < mu bs (ws' ++ [c]) := mu_pop
              rw [List.length_map]
              omega
            · subst e
              refine ⟨bs2.set y true, ws2 ++ [y], _, _, _, rfl, ?_, ?_, ?_, J.push hy hbf, Nat.le_trans (Nat.le_of_lt (J.mu_push hbf)) hm⟩
              · refine Kp.mut (Kp.trans ((k8.trans (Kp.of (s9.trans (s10.trans s11)))).mut (p := pr) (by simp)) (Kp.of s12)) (by simp)
              · rw [upd_ne npw]
                rw [s12 pr _ upd_same, List.map_set]
              · rw [upd_same]; simp
          · have hbt : bs2[y]? = some true := by rw [List.getElem?_eq_getElem hyn]; simpa using hb
            exact ⟨bs2, ws2, _, _, _, rfl, k8.trans (Kp.of s9), s9 pr _ g8, s9 pw _ g9, J.skip hy hbt, hm⟩
        · rintro σ' H8 ⟨bs2, ws2, c3, c6, c7, rfl, k8, g8, g9, J, hm⟩
          refine ⟨mu bs2 ws2, Nat.lt_of_le_of_lt hm mu_pop, bs2, ws2, _, _, _, _, rfl, rfl, ?_, g8, g9, J.done, ?_⟩
          · exact Same.kp (sC.trans s7) k8 (by simp [np, nw0])
          · have h2 : mu bs ws' < mu bs (ws' ++ [c]) := mu_pop
            omega
      · -- the end
        have e0 : ws = [] := by simpa using hb
        subst e0
        have hl : D.length = bs.length := I.len.symm
        refine s_ret (P := as (rL rN) M (((List.range D.length).filter fun x => bs.getD x false).map id)) (ev_lcR (q := rN) (M := M) (d.same (sH.trans s5)) (fun x => bs.getD x false) id (ev_len (ev_var rfl (Rep.same (sH.trans s5) h1))) (by omega) (fun _ => rfl) (fun M' H6 i up hi => ?_) (fun M' H6 i up hi _ => ev_var rfl rfl)) fun v H6 s6 hv => ?_
        · have hib : i < bs.length := by rw [I.len]; exact hi
          have hv : (bs.map V.bl)[i]? = some (.bl (bs.getD i false)) := by rw [getD_lt hib]; simp [hib]
          exact et_B (M := []) (ev_ixO (n := i) (M := []) (ev_ref rfl) (up.same pr _ (s5 pr _ hr')) (ev_var rfl (r := rN) rfl) hv)
        · rw [List.map_id] at hv
          exact k v H6 _ ((sH.trans s5).trans s6) hv I.told.1 I.told.2
end
end K80

namespace K80
open PySem PySem.Spec PyProof.Rows L2 Rp
def spMatched : Sp := fun vs H Q _ => ∃ (v1 v2 v3 : V) (A B : List Nat) (RR : List (List Bool)) (n : Nat), vs = [v1, v2, v3] ∧ rL rN [] H v1 A ∧ rL rN [] H v2 B ∧ rL (rL rB) [] H v3 RR ∧ Sq n RR ∧ (∀ x ∈ A, x < n) ∧ (∀ x ∈ B, x < n) ∧
  A.length ≤ 1000 ∧ B.length ≤ 1000 ∧ ∀ H2, Same H H2 → Q (.bl (matched RR A B)) H2
section
variable {P : Program} {w : World} {K : PySem.W.Frag} {mg : Str → Option Value} {base : Heap}
abbrev NAreMatched : List Str := ["first", "second", "related", "one", "other"]
theorem scAreMatched : FnScope NAreMatched ["first", "second", "related"] (defScope sAreMatched) := ⟨rfl, rfl, rfl, by decide +kernel, rfl, by decide +kernel, by decide +kernel⟩
theorem ok_matched {f : Addr} {fd : FuncData} (F : FD K "are_matched" sAreMatched f fd) (T : Tx K mg) : FnOk P w K mg base CX0 1 f fd ["first", "second", "related"] spMatched := by
  refine F.ok scAreMatched (fun vs H Q E h => ?_) (fun cdv A outer s H vs Q E hr h => ?_)
  · obtain ⟨_, _, _, _, _, _, _, rfl, _⟩ := h
    rfl
  · obtain ⟨v1, v2, v3, A, B, RR, n, rfl, h1, h2, h3, hq, hA, hB, lA, lB, k⟩ := h
    have nd := scAreMatched.nd
    refine ⟨_, PSs.nox (pss_cons (ps_for PassesOwn.never rfl (pil K (pv 0)) (pg_name (i := 3) nd rfl (by first | exact Or.inl rfl | exact Or.inr rfl)) (pss_one (ps_if (pt_not (pt_val (pe_callB (cany K) rfl T.f_any (by decide +kernel) (pa_cons (pe_lc rfl nd (pil K (pv 1)) (blkOk_by (own := [("other", 4)]) (N := NAreMatched) (sc := defScope sAreMatched) (by decide +kernel)) (fun _ _ _ _ _ => (pg_name (i := 4) nd rfl (by first | exact Or.inl rfl | exact Or.inr rfl))) (fun _ _ _ _ _ => pts_nil) (fun _ _ _ _ _ => (pe_ix (ixl K) (pe_ix (ixl K) (pv 2) (pv 3) (fun _ _ => rfl)) (pv 4) (fun _ _ => rfl)))) pa_nil)))) (pss_one (ps_ret pe_bl)) pss_nil)))
      (pss_cons (ps_for PassesOwn.never rfl (pil K (pv 1)) (pg_name (i := 4) nd rfl (by first | exact Or.inl rfl | exact Or.inr rfl)) (pss_one (ps_if (pt_not (pt_val (pe_callB (cany K) rfl T.f_any (by decide +kernel) (pa_cons (pe_lc rfl nd (pil K (pv 0)) (blkOk_by (own := [("one", 3)]) (N := NAreMatched) (sc := defScope sAreMatched) (by decide +kernel)) (fun _ _ _ _ _ => (pg_name (i := 3) nd rfl (by first | exact Or.inl rfl | exact Or.inr rfl))) (fun _ _ _ _ _ => pts_nil) (fun _ _ _ _ _ => (pe_ix (ixl K) (pe_ix (ixl K) (pv 2) (pv 3) (fun _ _ => rfl)) (pv 4) (fun _ _ => rfl)))) pa_nil)))) (pss_one (ps_ret pe_bl)) pss_nil)))
      (pss_one (ps_ret pe_bl)))), ?_⟩
    refine q_forL (r := rN) (L := []) (M := []) (xs := A) (ev_var rfl h1) (by simp) fun H1 s1 => ?_
    refine ⟨fun i σ' H' => ∃ c3, σ' = [some v1, some v2, some v3, c3, none] ∧ Same H1 H' ∧ ∀ x ∈ A.take i, (B.any fun y => rel RR x y) = true, ⟨none, rfl, Same.refl _, by simp⟩, fun i σ' H' ⟨_, _, z, _⟩ => Kp.of z, ?_, ?_⟩
    · rintro i v x σ' H' hx rfl ⟨c3, rfl, s2, hp⟩
      have hxn : x < n := hA x (List.mem_of_getElem? hx)
      have s3 := s1.trans s2
      refine s_when (b := !(B.any fun y => rel RR x y)) (et_not ((et_B (M := []) (ev_any (ev_lcM (r := rN) (q := rB) (M := []) (xs := B) Old.nil (fun y => rel RR x y) (ev_var rfl (Rep.same s3 h2)) (by omega) (fun _ => rfl) (fun M' H4 v y up hy rv => ?_)))).is ?_)) (fun hb H5 s5 => ?_) (fun hb H5 s5 => ?_)
      · exact ev_ixL (r := rB) (n := y) (ev_ixL (r := rL rB) (n := x) (ev_var rfl (up.lift (Rep.same s3 h3))) (ev_var (r := rN) rfl rfl) (hq.row hxn)) (ev_var rfl rv) (hq.at hxn (hB y hy))
      · rw [List.any_map]; rfl
      · have e : matched RR A B = false := by
          unfold matched
          rw [Bool.and_eq_false_iff]
          refine .inl (List.all_eq_false.mpr ⟨x, List.mem_of_getElem? hx, by simpa using hb⟩)
        refine s_ret (P := as rB [] false) ev_bl fun v H6 s6 hv => ?_
        obtain rfl : v = .bl false := hv
        rw [← e]
        exact k H6 ((s3.trans s5).trans s6)
      · refine ⟨_, rfl, s2.trans s5, fun z hz => ?_⟩
        rcases (by rw [List.take_add_one, hx] at hz; simpa using hz : z ∈ A.take i ∨ z = x) with hz | e
        · exact hp z hz
        · subst e; simpa using hb
    · rintro σ' H' ⟨c3, rfl, s2, hp⟩
      have s3 := s1.trans s2
      rw [List.take_length] at hp
      refine q_forL (r := rN) (L := []) (M := []) (xs := B) (ev_var rfl (Rep.same s3 h2)) (by simp) fun H1 s1 => ?_
      refine ⟨fun i σ' H' => ∃ c3 c4, σ' = [some v1, some v2, some v3, c3, c4] ∧ Same H1 H' ∧ ∀ y ∈ B.take i, (A.any fun x => rel RR x y) = true, ⟨c3, none, rfl, Same.refl _, by simp⟩, fun i σ' H' ⟨_, _, _, z, _⟩ => Kp.of z, ?_, ?_⟩
      · rintro i v y σ' H' hy rfl ⟨c3, c4, rfl, s2, hp2⟩
        have hyn : y < n := hB y (List.mem_of_getElem? hy)
        have s4 := (s3.trans s1).trans s2
        refine s_when (b := !(A.any fun x => rel RR x y)) (et_not ((et_B (M := []) (ev_any (ev_lcM (r := rN) (q := rB) (M := []) (xs := A) Old.nil (fun x => rel RR x y) (ev_var rfl (Rep.same s4 h1)) (by omega) (fun _ => rfl) (fun M' H5 v x up hx rv => ?_)))).is ?_)) (fun hb H5 s5 => ?_) (fun hb H5 s5 => ?_)
        · exact ev_ixL (r := rB) (n := y) (ev_ixL (r := rL rB) (n := x) (ev_var rfl (up.lift (Rep.same s4 h3))) (ev_var rfl rv) (hq.row (hA x hx))) (ev_var (r := rN) rfl rfl) (hq.at (hA x hx) hyn)
        · rw [List.any_map]; rfl
        · have e : matched RR A B = false := by
            unfold matched
            rw [Bool.and_eq_false_iff]
            refine .inr (List.all_eq_false.mpr ⟨y, List.mem_of_getElem? hy, by simpa using hb⟩)
          refine s_ret (P := as rB [] false) ev_bl fun v H6 s6 hv => ?_
          obtain rfl : v = .bl false := hv
          rw [← e]
          exact k H6 ((s4.trans s5).trans s6)
        · refine ⟨_, _, rfl, s2.trans s5, fun z hz => ?_⟩
          rcases (by rw [List.take_add_one, hy] at hz; simpa using hz : z ∈ B.take i ∨ z = y) with hz | e
          · exact hp2 z hz
          · subst e; simpa using hb
      · rintro σ' H' ⟨c3, c4, rfl, s2, hp2⟩
        rw [List.take_length] at hp2
        have e : matched RR A B = true := by
          unfold matched
          rw [Bool.and_eq_true, List.all_eq_true, List.all_eq_true]
          exact ⟨hp, hp2⟩
        show tRet (tC (V.bl true)) { nx := fun _ H' => Q .non H', rt := Q } [some v1, some v2, some v3, c3, c4] H'
        refine s_ret (P := as rB [] true) ev_bl fun v H6 s6 hv => ?_
        obtain rfl : v = .bl true := hv
        rw [← e]
        exact k H6 (((s3.trans s1).trans s2).trans s6)
end
end K80

namespace K80
open PySem PySem.Spec PyProof.Rows L2 Rp
def spGreatest : Sp := fun vs H Q _ => ∃ (M : List Addr) (v1 v2 : V) (D : List (List Nat)), vs = [v1, v2] ∧ Old M H ∧ rN M H v1 D.length ∧ rD M H v2 D ∧ Good D ∧ D.length ≤ 100 ∧
  ∀ v H2 RR, Same H H2 → rL (rL rB) M H2 v RR → Sq D.length RR → (∀ i j, i < D.length → j < D.length → (rel RR i j = true ↔ Bis D i j)) → Q v H2
section
variable {P : Program} {w : World} {K : PySem.W.Frag} {mg : Str → Option Value} {base : Heap}
abbrev NGreatestLikeness : List Str := ["count", "rows", "groups", "place", "row", "bares", "related", "other", "one", "pairs", "g", "h", "fallen", "first", "second"]
theorem scGreatestLikeness : FnScope NGreatestLikeness ["count", "rows"] (defScope sGreatestLikeness) := ⟨rfl, rfl, rfl, by decide +kernel, rfl, by decide +kernel, by decide +kernel⟩
theorem ok_greatest {f : Addr} {fd : FuncData} (F : FD K "greatest_likeness" sGreatestLikeness f fd) (T : Tx K mg) (Care_matched : Fn P w K mg base "are_matched" ["first", "second", "related"] 1 spMatched []) : FnOk P w K mg base CX0 2 f fd ["count", "rows"] spGreatest := by
  refine F.ok scGreatestLikeness (fun vs H Q E h => ?_) (fun cdv A outer s H vs Q E hr h => ?_)
  · obtain ⟨_, _, _, _, rfl, _⟩ := h
    rfl
  · obtain ⟨M, v1, v2, D, rfl, d, h1, h2, hD, hn, k⟩ := h
    obtain rfl : v1 = .int (D.length : Int) := h1
    have nd := scGreatestLikeness.nd
    refine ⟨_, PSs.nox (pss_cons (ps_setLc (i := 2) rfl nd rfl rfl (sw_true rfl rfl rfl (by decide +kernel)) (pil K (pe_slice (sll K) (pv 1) po_none (po_some (pv 0)))) (blkOk_by (own := [("row", 4)]) (N := NGreatestLikeness) (sc := defScope sGreatestLikeness) (by decide +kernel)) (fun _ _ _ _ _ => (pg_name (i := 4) nd rfl (by first | exact Or.inl rfl | exact Or.inr rfl))) (fun _ _ _ _ _ => pts_nil) (fun _ _ _ _ _ => (pe_lc rfl nd (pil K (pv 4)) (blkOk_by (own := [("place", 3)]) (by with_unfolding_all rfl)) (fun _ _ _ _ _ => (pg_name (i := 3) nd rfl (by first | exact Or.inl rfl | exact Or.inr rfl))) (fun _ _ _ _ _ => pts_one (pt_cmpR op_lt (pv 3) (pv 0) (nomark _))) (fun _ _ _ _ _ => (pv 3)))))
      (pss_cons (ps_set (i := 5) nd rfl (by first | exact Or.inl rfl | exact Or.inr rfl) (pe_lc rfl nd (pil K (pe_slice (sll K) (pv 1) po_none (po_some (pv 0)))) (blkOk_by (own := [("row", 4)]) (N := NGreatestLikeness) (sc := defScope sGreatestLikeness) (by decide +kernel)) (fun _ _ _ _ _ => (pg_name (i := 4) nd rfl (by first | exact Or.inl rfl | exact Or.inr rfl))) (fun _ _ _ _ _ => pts_nil) (fun _ _ _ _ _ => (pe_lc rfl nd (pil K (pv 4)) (blkOk_by (own := [("place", 3)]) (by with_unfolding_all rfl)) (fun _ _ _ _ _ => (pg_name (i := 3) nd rfl (by first | exact Or.inl rfl | exact Or.inr rfl))) (fun _ _ _ _ _ => pts_one (pt_cmpR op_ge (pv 3) (pv 0) (nomark _))) (fun _ _ _ _ _ => (pv 3))))))
      (pss_cons (ps_set (i := 6) nd rfl (by first | exact Or.inl rfl | exact Or.inr rfl) (pe_lc rfl nd (pil K (pv 5)) (blkOk_by (own := [("one", 8)]) (N := NGreatestLikeness) (sc := defScope sGreatestLikeness) (by decide +kernel)) (fun _ _ _ _ _ => (pg_name (i := 8) nd rfl (by first | exact Or.inl rfl | exact Or.inr rfl))) (fun _ _ _ _ _ => pts_nil) (fun _ _ _ _ _ => (pe_lc rfl nd (pil K (pv 5)) (blkOk_by (own := [("other", 7)]) (by with_unfolding_all rfl)) (fun _ _ _ _ _ => (pg_name (i := 7) nd rfl (by first | exact Or.inl rfl | exact Or.inr rfl))) (fun _ _ _ _ _ => pts_nil) (fun _ _ _ _ _ => (pe_cmpR (oeqD K hr.units) (pv 8) (pv 7) (nomark _)))))))
      (pss_cons (ps_setLc2 (i := 9) rfl nd rfl rfl (sw_true rfl rfl rfl (by decide +kernel)) (pi_range1 rfl T.f_range (pa_cons (pv 0) pa_nil)) (blkOk_by (own := [("g", 10), ("h", 11)]) (N := NGreatestLikeness) (sc := defScope sGreatestLikeness) (by decide +kernel)) (vs1 := [11]) (by decide) (fun _ _ _ _ _ => (pg_name (i := 10) nd rfl (by first | exact Or.inl rfl | exact Or.inr rfl))) (fun _ _ _ _ _ => pts_nil) (fun _ _ _ _ _ => (pi_range1 rfl T.f_range (pa_cons (pv 0) pa_nil))) (fun _ _ _ _ _ => (pg_name (i := 11) nd rfl (by first | exact Or.inl rfl | exact Or.inr rfl))) (fun _ _ _ _ _ => pts_one (pt_val (pe_ix (ixl K) (pe_ix (ixl K) (pv 6) (pv 10) (fun _ _ => rfl)) (pv 11) (fun _ _ => rfl)))) (fun _ _ _ _ _ => (pe_tup (pa_cons (pv 10) (pa_cons (pv 11) pa_nil)))))
      (pss_cons (ps_set (i := 12) nd rfl (by first | exact Or.inl rfl | exact Or.inr rfl) pe_bl)
      (pss_cons (ps_while PassesOwn.never (pt_val (pv 12)) (pss_cons (ps_set (i := 12) nd rfl (by first | exact Or.inl rfl | exact Or.inr rfl) pe_bl)
      (pss_one (ps_for PassesOwn.never rfl (pil K (pv 9)) (pgt K (pgs_cons (pg_name (i := 13) nd rfl (by first | exact Or.inl rfl | exact Or.inr rfl)) (pgs_cons (pg_name (i := 14) nd rfl (by first | exact Or.inl rfl | exact Or.inr rfl)) pgs_nil))) (pss_one (ps_if (PW.pt (pw_and (pt_val (pe_ix (ixl K) (pe_ix (ixl K) (pv 6) (pv 13) (fun _ _ => rfl)) (pv 14) (fun _ _ => rfl))) (pw_and1 (pt_not (pt_val (pe_fn Care_matched hr rfl (pa_cons (pe_ix (ixl K) (pv 2) (pv 13) (fun _ _ => rfl)) (pa_cons (pe_ix (ixl K) (pv 2) (pv 14) (fun _ _ => rfl)) (pa_cons (pv 6) pa_nil))))))))) (pss_cons (ps_asg pe_bl (pg_sub (pe_ix (ixl K) (pv 6) (pv 13) (fun _ _ => rfl)) (pv 14) set_list))
      (pss_one (ps_set (i := 12) nd rfl (by first | exact Or.inl rfl | exact Or.inr rfl) pe_bl))) pss_nil))))))
      (pss_one (ps_ret (pv 6))))))))), ?_⟩
    have hrow : ∀ row ∈ D, row.length ≤ 100 := fun row hr => Nat.le_trans (asc_len (hD row hr).1 (hD row hr).2) hn
    -- groups
    refine q_asg (P := as rD M D) (Ev.to (ev_lcM (r := rL rN) (q := rL rN) (xs := D.take D.length) d (fun row => (row.filter fun x => decide (x < D.length)).map id) (ev_upto d (ev_var rfl h2) (ev_var (r := rN) rfl rfl)) (by rw [List.take_length]; omega) (fun _ => rfl) (fun M' H1 v row up hx rv => ?_)) ?_) fun v3 H1 s1 h3 => ?_
    · rw [List.take_length] at hx
      exact ev_lcL (r := rN) (q := rN) (xs := row) up.old (fun x => decide (x < D.length)) id (ev_var rfl rv) (by have := hrow row hx; omega) (fun _ => rfl) (fun M2 H2 v x up2 hx2 rv2 => et_val (ev_ltN (M := []) (ev_var rfl (r := rN) (M := []) rv2) (ev_var (r := rN) rfl rfl))) (fun M2 H2 v x up2 hx2 rv2 _ => ev_var rfl rv2)
    · rw [List.take_length]
      conv => rhs; rw [← List.map_id D]
      refine List.map_congr_left fun row hr => ?_
      rw [List.map_id, List.filter_eq_self.mpr fun x hx => by simpa using (hD row hr).2 x hx]
      rfl
    -- bares
    have d1 := d.same s1
    refine q_asg (P := as rD M (D.map fun _ => [])) (Ev.to (ev_lcM (r := rL rN) (q := rL rN) (xs := D.take D.length) d1 (fun row => (row.filter fun x => decide (D.length ≤ x)).map id) (ev_upto d1 (ev_var rfl (Rep.same s1 h2)) (ev_var (r := rN) rfl rfl)) (by rw [List.take_length]; omega) (fun _ => rfl) (fun M' H1 v row up hx rv => ?_)) ?_) fun v5 H2 s2 h5 => ?_
    · rw [List.take_length] at hx
      exact ev_lcL (r := rN) (q := rN) (xs := row) up.old (fun x => decide (D.length ≤ x)) id (ev_var rfl rv) (by have := hrow row hx; omega) (fun _ => rfl) (fun M2 H2 v x up2 hx2 rv2 => et_val (ev_geN (M := []) (ev_var rfl (r := rN) (M := []) rv2) (ev_var (r := rN) rfl rfl))) (fun M2 H2 v x up2 hx2 rv2 _ => ev_var rfl rv2)
    · rw [List.take_length]
      refine List.map_congr_left fun row hr => ?_
      rw [List.filter_eq_nil_iff.mpr fun x hx => by have := (hD row hr).2 x hx; simpa using this]
      rfl
    -- related
    have d2 := d1.same s2
    refine q_asg (P := newMat V.bl H2 (List.replicate D.length (List.replicate D.length true))) ?_ fun v6 H3 s3 ⟨a, bs, e, na, nbs, mat⟩ => ?_
    · have e1 : (D.map fun _ => ([] : List Nat)).map (fun one => (D.map fun _ => ([] : List Nat)).map fun other => decide (one = other)) = List.replicate D.length (List.replicate D.length true) := by
        rw [List.map_map]
        have : ∀ (β : Type) (c : β) (l : List (List Nat)) (f : List Nat → β), (∀ x ∈ l, f x = c) → l.map f = List.replicate l.length c := fun β c l f h => by
          rw [List.eq_replicate_iff]
          refine ⟨by simp, fun b hb => ?_⟩
          obtain ⟨x, hx, e⟩ := List.mem_map.mp hb
          rw [← e, h x hx]
        refine this _ (List.replicate D.length true) D _ fun x hx => ?_
        show (D.map fun _ => ([] : List Nat)).map (fun other => decide (([] : List Nat) = other)) = List.replicate D.length true
        rw [List.map_map]
        exact this _ true D _ fun y hy => rfl
      rw [← e1]
      refine ev_mat (r := rL rN) d2 (fun one => (D.map fun _ => ([] : List Nat)).map fun other => decide (one = other)) (ev_var rfl h5) (by simp; omega) (fun _ => rfl) (fun M' H1 v one up hx rv => ?_)
      refine newB (M := M') (ev_lcMn (r := rL rN) (q := rB) up.old (fun other => decide (one = other)) (ev_var rfl (up.lift h5)) (by simp; omega) (fun _ => rfl) (fun M2 H2 v other up2 hx2 rv2 => ?_))
      exact ev_eqD (ha := ev_var rfl (up2.lift rv)) (hb := ev_var rfl rv2)
    subst e
    have hbM : ∀ b ∈ bs, b ∈ bs ++ M := fun b h => List.mem_append_left _ h
    have s03 : Same H H3 := (s1.trans s2).trans s3
    have dM : Old (bs ++ M) H3 := (d2.same s3).app mat.old
    have hD3 : rD (bs ++ M) H3 v3 D := Rep.same s3 (Rep.newL nbs (Rep.same s2 h3))
    have R0 : rL (rL rB) [] H3 (.ref a) (List.replicate D.length (List.replicate D.length true)) := mat.rep encB (by simp) (by simp)
    -- pairs
    refine q_asg (Ev.own dM (ev_lc2R (q := rP rN rN) (lo := fun _ => 0) (m := fun _ => D.length) dM (fun g h => rel (List.replicate D.length (List.replicate D.length true)) g h) (fun g h => (g, h)) (ev_var (r := rN) rfl rfl) (by omega) (fun _ => by omega) (fun _ => rfl) (fun _ _ => rfl)
      (fun M' H4 g up hg => ei_r1 (ev_var (r := rN) (M := []) rfl rfl) (by omega))
      (fun M' H4 g i up hg hi => et_B (M := []) ?_)
      (fun M' H4 g i up hg hi _ => ev_tup2 up.old (ev_var (r := rN) rfl rfl) (ev_var (r := rN) rfl rfl)))) fun v9 H4 s4 h9 => ?_
    · rw [Nat.zero_add]
      exact ev_ixL (r := rB) (n := i) (ev_ixL (r := rL rB) (n := g) (ev_var rfl (Rep.same up.same R0)) (ev_var (r := rN) rfl rfl) ((Sq.all _).row hg)) (ev_var (r := rN) rfl rfl) ((Sq.all _).at hg hi)
    generalize hps : (List.range D.length).flatMap (fun g => (((List.range D.length).map (0 + ·)).filter (fun h => rel (List.replicate D.length (List.replicate D.length true)) g h)).map (fun h => (g, h))) = ps at h9
    have hpm : ∀ g h, (g, h) ∈ ps ↔ g < D.length ∧ h < D.length := fun g h => by
      rw [← hps, List.mem_flatMap]
      constructor
      · rintro ⟨g', hg', hm⟩
        obtain ⟨h', hh', e⟩ := List.mem_map.mp hm
        cases e
        have := (List.mem_filter.mp hh').1
        simp at this
        exact ⟨List.mem_range.mp hg', this⟩
      · rintro ⟨hg, hh⟩
        exact ⟨g, List.mem_range.mpr hg, List.mem_map.mpr ⟨h, List.mem_filter.mpr ⟨by simpa using hh, rel_all hg hh⟩, rfl⟩⟩
    refine q_asg (P := as rB [] true) ev_bl fun v12 H5 s5 e12 => ?_
    obtain rfl : v12 = .bl true := e12
    have s45 := s4.trans s5
    have mat5 := mat.same s45
    refine q_while ⟨fun m σ' H' => ∃ RR fallen c13 c14, m = 2 * trues RR + (if fallen = true then 1 else 0) ∧ σ' = [some (.int (D.length : Int)), some v2, some v3, none, none, some v5, some (.ref a), none, none, some v9, none, none, some (.bl fallen), c13, c14] ∧ Kp bs H5 H' ∧ Mat V.bl H' a bs RR ∧ GI D RR ∧
      (fallen = false → ∀ i j, i < D.length → j < D.length → rel RR i j = true → matched RR (rowOf D i) (rowOf D j) = true), ⟨_, _, true, none, none, rfl, rfl, Kp.refl _ _, mat5, GI.start, fun z => by cases z⟩, ?_⟩
    rintro m σ' H' ⟨RR, fallen, c13, c14, rfl, rfl, k5, mt, I, hend⟩
    refine ⟨fallen, et_B (M := []) (ev_var (r := rB) rfl rfl), fun hb H6 s6 => ?_, fun hb H6 s6 => ?_⟩
    · subst hb
      refine q_asg (P := as rB [] false) ev_bl fun v12 H7 s7 e12 => ?_
      obtain rfl : v12 = .bl false := e12
      have s67 := s6.trans s7
      have h97 : rL (rP rN rN) (bs ++ M) H7 v9 ps := Rep.same s67 (Rep.mono (k5.sub hbM) (Rep.same s5 h9))
      have hD7 : rD (bs ++ M) H7 v3 D := Rep.same s67 (Rep.mono (k5.sub hbM) (Rep.same s45 hD3))
      refine s_forL (r := rP rN rN) (L := bs) (M := bs ++ M) (xs := ps) (ev_var rfl h97) hbM fun H8 s8 => ?_
      have mt8 := (mt.same s67).same s8
      refine ⟨fun i σ' H' => ∃ R2 fallen c13 c14, σ' = [some (.int (D.length : Int)), some v2, some v3, none, none, some v5, some (.ref a), none, none, some v9, none, none, some (.bl fallen), c13, c14] ∧ Kp bs H8 H' ∧ Mat V.bl H' a bs R2 ∧ GP D RR ps i R2 fallen, ⟨RR, false, c13, c14, rfl, Kp.refl _ _, mt8, GP.start I⟩, fun i σ' H' ⟨_, _, _, _, _, z, _⟩ => z, ?_, ?_⟩
      · rintro i v ⟨g, h⟩ σ' H9 hp rv ⟨R2, fallen, c13, c14, rfl, k9, mt9, G⟩
        have hgh := (hpm g h).mp (List.mem_of_getElem? hp)
        refine g_pair rv fun w1 w2 e1 e2 => ?_
        obtain rfl : w1 = .int (g : Int) := e1
        obtain rfl : w2 = .int (h : Int) := e2
        have hD9 : rD (bs ++ M) H9 v3 D := Rep.mono (k9.sub hbM) (Rep.same s8 hD7)
        have RR9 : rL (rL rB) [] H9 (.ref a) R2 := mt9.rep encB (by simp) (by simp)
        have sq := G.inv.sq
        refine s_when (b := rel R2 g h && !matched R2 (rowOf D g) (rowOf D h)) (et_and (et_B (M := []) (ev_ixL (r := rB) (n := h) (ev_ixL (r := rL rB) (n := g) (ev_var rfl RR9) (ev_var (r := rN) rfl rfl) (sq.row hgh.1)) (ev_var (r := rN) rfl rfl) (sq.at hgh.1 hgh.2))) fun _ => et_not (et_B (M := []) ?_)) (fun hb H10 s10 => ?_) (fun hb H10 s10 => ?_)
        · have hD9' : rD [] H9 v3 D := Rep.sub (by simp) hD9
          refine ev_call (ea_cons (P := as (rL rN) [] (rowOf D g)) (ev_ixL (ev_var rfl hD9') (ev_var (r := rN) rfl rfl) (rowOf_get hgh.1)) (fun _ _ _ s z => Rep.same s z) (ea_2r (r := rL rN) (q := rL (rL rB)) (M := []) (ev_ixL (ev_var rfl hD9') (ev_var (r := rN) rfl rfl) (rowOf_get hgh.2)) (ev_var rfl RR9))) ?_
          rintro H10 vs s10 ⟨w1, ws, rfl, p1, w2, w3, rfl, p2, p3⟩ Q k
          exact ⟨w1, w2, w3, rowOf D g, rowOf D h, R2, D.length, rfl, p1, p2, p3, sq, fun x hx => (hD.lt hx).1, fun x hx => (hD.lt hx).1, by have := hrow _ (rowOf_mem hgh.1); omega, by have := hrow _ (rowOf_mem hgh.2); omega, fun H2 s => k _ H2 s rfl⟩
        · rw [Bool.and_eq_true] at hb
          obtain ⟨b, hbg, gb⟩ := (mt9.same s10).at (sq.row hgh.1)
          have hlh : h < (R2.getD g []).length := by rw [sq.len hgh.1]; exact hgh.2
          refine q_setL (n := h) (M := []) (P := as rB [] false) ev_bl (ev_ixO (M := []) (n := g) (ev_ref rfl) (mt9.same s10).top (ev_var (r := rN) rfl rfl) (by rw [List.getElem?_map, hbg]; rfl)) gb (ev_var (r := rN) rfl rfl) (by simpa using hlh) fun v H11 H12 s11 e s12 => ?_
          obtain rfl : v = .bl false := e
          refine s_asg (P := as rB [] true) ev_bl fun v H13 s13 e => ?_
          obtain rfl : v = .bl true := e
          refine ⟨fell R2 g h, true, _, _, rfl, ?_, ?_, G.fall hD hgh.1 hgh.2 hb.1 (by simpa using hb.2)⟩
          · exact ((k9.trans (Kp.of (s10.trans (s11.trans s12)))).mut (List.mem_of_getElem? hbg)).trans (Kp.of s13)
          · have m2 := (((mt9.same s10).same (s11.trans s12)).set hbg (zs := (R2.getD g []).set h false)).same (H' := H13) (by
              rw [List.map_set]; exact s13)
            exact m2
        · refine ⟨R2, fallen, _, _, rfl, k9.trans (Kp.of s10), mt9.same s10, G.stay hp fun hr => ?_⟩
          rw [hr] at hb
          simpa using hb
      · rintro σ' H9 ⟨R2, fallen, c13, c14, rfl, k9, mt9, G⟩
        have kk : Kp bs H5 H9 := (k5.trans (Kp.of (s67.trans s8))).trans k9
        refine ⟨2 * trues R2 + (if fallen = true then 1 else 0), ?_, R2, fallen, _, _, rfl, rfl, kk, mt9, G.inv, fun hf i j hi hj hr => ?_⟩
        · cases fallen with
          | true => have := G.less rfl; simp; omega
          | false => have := G.le; simp; omega
        · obtain ⟨e, h2⟩ := G.same hf
          subst e
          refine h2 (i, j) ?_ hr
          rw [List.take_length]
          exact (hpm i j).mpr ⟨hi, hj⟩
    · refine s_ret (P := fun _ w => w = .ref a) (ev_ref rfl) fun v H7 s7 e => ?_
      subst e
      have m7 := (mt.same s6).same s7
      have nb2 : ∀ b ∈ bs, H b = none := fun b hb => (s1.trans s2).free (nbs b hb)
      refine k _ H7 RR (Same.kp (s03.trans s45) (k5.trans (Kp.of (s6.trans s7))) nb2) (m7.rep encB (d2.fresh na) (fun b hb => d2.fresh (nbs b hb))) I.sq (fun i j hi hj => I.told hD (hend hb) hi hj)
end
end K80

namespace K80
open PySem PySem.Spec PyProof.Rows L2 Rp
/-- no two groups are alike, in the world told -/
def Apart (b : Bool) (D : List (List Nat)) : Prop := ∀ g h, g < h → h < D.length → if b = true then ¬ Bis D g h else rowOf D g ≠ rowOf D h
def spPairs : Sp := fun vs H Q _ => ∃ (M : List Addr) (v1 v2 : V) (b : Bool) (D : List (List Nat)), vs = [v1, v2, .bl b] ∧ Old M H ∧ rN M H v1 D.length ∧ rD M H v2 D ∧ Good D ∧ D.length ≤ 100 ∧
  ∀ v H2 L, Same H H2 → rL (rP rN rN) M H2 v L → (L = [] ↔ Apart b D) → Q v H2
def prs (n : Nat) : List (Nat × Nat) := (List.range n).flatMap fun g => (((List.range (n - (g + 1))).map (g + 1 + ·)).filter fun _ => true).map fun h => (g, h)
theorem mem_prs {n g h : Nat} : (g, h) ∈ prs n ↔ g < h ∧ h < n := by
  unfold prs
  rw [List.mem_flatMap]
  constructor
  · rintro ⟨g', hg', hm⟩
    obtain ⟨h', hh', e⟩ := List.mem_map.mp hm
    cases e
    have := (List.mem_filter.mp hh').1
    obtain ⟨i, hi, e⟩ := List.mem_map.mp this
    have := List.mem_range.mp hi
    omega
  · rintro ⟨h1, h2⟩
    refine ⟨g, List.mem_range.mpr (by omega), List.mem_map.mpr ⟨h, List.mem_filter.mpr ⟨List.mem_map.mpr ⟨h - (g + 1), List.mem_range.mpr (by omega), by omega⟩, rfl⟩, rfl⟩⟩
theorem prs_len {n : Nat} (h : n ≤ 100) : (prs n).length ≤ 1000000 := by
  unfold prs
  rw [List.length_flatMap]
  have key : ∀ (l : List Nat) (f : Nat → Nat), (∀ x ∈ l, f x ≤ 100) → (l.map f).sum ≤ 100 * l.length := by
    intro l f hf
    induction l with
    | nil => simp
    | cons x xs ih =>
      have h1 := hf x (by simp)
      have h2 := ih fun y hy => hf y (by simp [hy])
      simp only [List.map_cons, List.sum_cons, List.length_cons]
      omega
  have := key (List.range n) (fun g => ((((List.range (n - (g + 1))).map (g + 1 + ·)).filter fun _ => true).map fun h => (g, h)).length) (fun g hg => by
    rw [List.length_map, List.filter_eq_self.mpr fun _ _ => rfl, List.length_map, List.length_range]
    omega)
  rw [List.length_range] at this
  omega
section
variable {P : Program} {w : World} {K : PySem.W.Frag} {mg : Str → Option Value} {base : Heap}
abbrev NPairsAlike : List Str := ["count", "rows", "rings", "pairs", "g", "h", "related"]
theorem scPairsAlike : FnScope NPairsAlike ["count", "rows", "rings"] (defScope sPairsAlike) := ⟨rfl, rfl, rfl, by decide +kernel, rfl, by decide +kernel, by decide +kernel⟩
theorem ok_pairs {f : Addr} {fd : FuncData} (F : FR K "pairs_alike" sPairsAlike f fd) (T : Tx K mg) (Cgreatest_likeness : Fn P w K mg base "greatest_likeness" ["count", "rows"] 2 spGreatest []) : FnOk P w K mg base CX0 3 f fd ["count", "rows", "rings"] spPairs := by
  refine F.ok scPairsAlike (fun vs H Q E h => ?_) (fun cdv A outer s H vs Q E hr h => ?_)
  · obtain ⟨_, _, _, _, _, rfl, _⟩ := h
    rfl
  · obtain ⟨M, v1, v2, b, D, rfl, d, h1, h2, hD, hn, k⟩ := h
    obtain rfl : v1 = .int (D.length : Int) := h1
    have nd := scPairsAlike.nd
    refine ⟨_, PSs.nox (pss_cons (ps_setLc2 (i := 3) rfl nd rfl rfl (sw_true rfl rfl rfl (by decide +kernel)) (pi_range1 rfl T.f_range (pa_cons (pv 0) pa_nil)) (blkOk_by (own := [("g", 4), ("h", 5)]) (N := NPairsAlike) (sc := defScope sPairsAlike) (by decide +kernel)) (vs1 := [5]) (by decide) (fun _ _ _ _ _ => (pg_name (i := 4) nd rfl (by first | exact Or.inl rfl | exact Or.inr rfl))) (fun _ _ _ _ _ => pts_nil) (fun _ _ _ _ _ => (pi_range2 rfl T.f_range (pa_cons (pe_op op_add (pv 4) pe_int) (pa_cons (pv 0) pa_nil)))) (fun _ _ _ _ _ => (pg_name (i := 5) nd rfl (by first | exact Or.inl rfl | exact Or.inr rfl))) (fun _ _ _ _ _ => pts_nil) (fun _ _ _ _ _ => (pe_tup (pa_cons (pv 4) (pa_cons (pv 5) pa_nil)))))
      (pss_cons (ps_if (pt_val (pv 2)) (pss_cons (ps_set (i := 6) nd rfl (by first | exact Or.inl rfl | exact Or.inr rfl) (pe_fn Cgreatest_likeness hr rfl (pa_cons (pv 0) (pa_cons (pv 1) pa_nil))))
      (pss_one (ps_ret (pe_lc rfl nd (pil K (pv 3)) (blkOk_by (own := [("g", 4), ("h", 5)]) (N := NPairsAlike) (sc := defScope sPairsAlike) (by decide +kernel)) (fun _ _ _ _ _ => (pgt K (n := 2) (pgs_cons (pg_name (i := 4) nd rfl (by first | exact Or.inl rfl | exact Or.inr rfl)) (pgs_cons (pg_name (i := 5) nd rfl (by first | exact Or.inl rfl | exact Or.inr rfl)) pgs_nil)))) (fun _ _ _ _ _ => pts_one (pt_val (pe_ix (ixl K) (pe_ix (ixl K) (pv 6) (pv 4) (fun _ _ => rfl)) (pv 5) (fun _ _ => rfl)))) (fun _ _ _ _ _ => (pe_tup (pa_cons (pv 4) (pa_cons (pv 5) pa_nil)))))))) pss_nil)
      (pss_one (ps_ret (pe_lc rfl nd (pil K (pv 3)) (blkOk_by (own := [("g", 4), ("h", 5)]) (N := NPairsAlike) (sc := defScope sPairsAlike) (by decide +kernel)) (fun _ _ _ _ _ => (pgt K (n := 2) (pgs_cons (pg_name (i := 4) nd rfl (by first | exact Or.inl rfl | exact Or.inr rfl)) (pgs_cons (pg_name (i := 5) nd rfl (by first | exact Or.inl rfl | exact Or.inr rfl)) pgs_nil)))) (fun _ _ _ _ _ => pts_one (pt_cmpR (oeqD K hr.units) (pe_ix (ixl K) (pv 1) (pv 4) (fun _ _ => rfl)) (pe_ix (ixl K) (pv 1) (pv 5) (fun _ _ => rfl)) (nomark _))) (fun _ _ _ _ _ => (pe_tup (pa_cons (pv 4) (pa_cons (pv 5) pa_nil))))))))), ?_⟩
    refine q_asg (P := as (rL (rP rN rN)) M (prs D.length)) (Ev.own d (ev_lc2R (q := rP rN rN) (lo := fun g => g + 1) (m := fun g => D.length - (g + 1)) d (fun g h => true) (fun g h => (g, h)) (ev_var (r := rN) rfl rfl) (by omega) (fun _ => by omega) (fun _ => rfl) (fun _ _ => rfl)
      (fun M' H4 g up hg => ei_r2 (M := []) (ev_addN (M := []) (ev_var (r := rN) rfl rfl) ev_nat) (ev_var (r := rN) (M := []) rfl rfl) (by omega) (by omega))
      (fun M' H4 g i up hg hi H5 s5 Q k => k H5 (Same.refl _))
      (fun M' H4 g i up hg hi _ => ev_tup2 up.old (ev_var (r := rN) rfl rfl) (ev_var (r := rN) rfl rfl)))) fun v3 H1 s1 h3 => ?_
    have d1 := d.same s1
    have hlt : ∀ p ∈ prs D.length, p.1 < D.length ∧ p.2 < D.length := fun p hp => by
      have := mem_prs.mp (show (p.1, p.2) ∈ prs D.length from hp)
      omega
    refine q_when (b := b) (et_B (M := []) (ev_var (r := rB) rfl rfl)) (fun hb H2 s2 => ?_) (fun hb H2 s2 => ?_)
    · subst hb
      refine q_asg (P := fun H1 v => ∃ RR, rL (rL rB) M H1 v RR ∧ Sq D.length RR ∧ ∀ i j, i < D.length → j < D.length → (rel RR i j = true ↔ Bis D i j)) (ev_call (ea_2r (r := rN) (q := rL (rL rN)) (M := M) (ev_var (r := rN) rfl rfl) (ev_var rfl (Rep.same (s1.trans s2) h2))) ?_) fun v4 H3 s3 ⟨RR, h4, sq, hR⟩ => ?_
      · rintro H3 vs s3 ⟨w1, w2, rfl, p1, p2⟩ Q k
        exact ⟨M, w1, w2, D, rfl, d1.same (s2.trans s3), p1, p2, hD, hn, fun v H4 RR s4 h4 sq hR => k v H4 s4 ⟨RR, h4, sq, hR⟩⟩
      · have s13 := s2.trans s3
        refine s_ret (P := as (rL (rP rN rN)) M (((prs D.length).filter fun p => rel RR p.1 p.2).map id)) (Ev.own (d1.same s13) (ev_lcPn (q := rP rN rN) (d1.same s13) (fun p => rel RR p.1 p.2) id (ev_var rfl (Rep.same s13 h3)) (prs_len hn) (fun _ _ => rfl)
          (fun M' H4 v w x up hx p1 p2 => et_B (M := M') (ev_ixL (r := rB) (n := x.2) (ev_ixL (r := rL rB) (n := x.1) (ev_var rfl (up.lift h4)) (ev_var rfl p1) (sq.row (hlt x hx).1)) (ev_var rfl p2) (sq.at (hlt x hx).1 (hlt x hx).2)))
          (fun M' H4 v w x up hx p1 p2 _ => ev_tup2 up.old (ev_var rfl p1) (ev_var rfl p2)))) fun v H4 s4 hv => ?_
        refine k v H4 _ (s1.trans (s13.trans s4)) hv ?_
        rw [List.map_id, List.filter_eq_nil_iff]
        constructor
        · intro h g hh h1 h2
          rw [if_pos rfl]
          intro b
          exact h (g, hh) (mem_prs.mpr ⟨h1, h2⟩) ((hR g hh (by omega) h2).mpr b)
        · rintro h ⟨g, hh⟩ hm hr
          obtain ⟨h1, h2⟩ := mem_prs.mp hm
          have := h g hh h1 h2
          rw [if_pos rfl] at this
          exact this ((hR g hh (by omega) h2).mp hr)
    · subst hb
      refine s_ret (P := as (rL (rP rN rN)) M (((prs D.length).filter fun p => decide (rowOf D p.1 = rowOf D p.2)).map id)) (Ev.own (d1.same s2) (ev_lcPn (q := rP rN rN) (d1.same s2) (fun p => decide (rowOf D p.1 = rowOf D p.2)) id (ev_var rfl (Rep.same s2 h3)) (prs_len hn) (fun _ _ => rfl)
          (fun M' H4 v w x up hx p1 p2 => et_val (M := M') (ev_eqD (r := rL rN) (ha := ev_ixL (n := x.1) (ev_var rfl (up.lift (Rep.same (s1.trans s2) h2))) (ev_var rfl p1) (rowOf_get (hlt x hx).1)) (hb := ev_ixL (n := x.2) (ev_var rfl (up.lift (Rep.same (s1.trans s2) h2))) (ev_var rfl p2) (rowOf_get (hlt x hx).2))))
          (fun M' H4 v w x up hx p1 p2 _ => ev_tup2 up.old (ev_var rfl p1) (ev_var rfl p2)))) fun v H4 s4 hv => ?_
      refine k v H4 _ (s1.trans (s2.trans s4)) hv ?_
      rw [List.map_id, List.filter_eq_nil_iff]
      constructor
      · intro h g hh h1 h2
        rw [if_neg (by decide)]
        intro e
        exact h (g, hh) (mem_prs.mpr ⟨h1, h2⟩) (by simpa using e)
      · rintro h ⟨g, hh⟩ hm hr
        obtain ⟨h1, h2⟩ := mem_prs.mp hm
        have := h g hh h1 h2
        rw [if_neg (by decide)] at this
        exact this (by simpa using hr)
end
end K80

namespace K80
open PySem PySem.Spec PyProof.Rows L2 Rp
def spSettled : Sp := fun vs H Q _ => ∃ (M : List Addr) (v1 : V) (D : List (List Nat)), vs = [v1] ∧ Old M H ∧ rD M H v1 D ∧ Good D ∧ D.length ≤ 100 ∧
  ∀ v H2 L, Same H H2 → rL rN M H2 v L → L.Nodup → (∀ x, x ∈ L ↔ x < D.length ∧ Sttl D x) → Q v H2
theorem zip_filter {α : Type} (l : List α) (d : α) (f : α → Bool) : ((l.zipIdx).filter fun p => f p.1).map (fun p => p.2) = (List.range l.length).filter fun i => f (l.getD i d) := by
  have e : l.zipIdx = (List.range l.length).map fun i => (l.getD i d, i) := by
    refine List.ext_getElem? fun i => ?_
    rw [List.getElem?_zipIdx, List.getElem?_map]
    by_cases h : i < l.length
    · rw [List.getElem?_range h, List.getElem?_eq_getElem h]
      simp [List.getD_eq_getElem?_getD, h]
    · rw [List.getElem?_eq_none (Nat.le_of_not_lt h), List.getElem?_eq_none (by simpa using h)]
      rfl
  rw [e, List.filter_map, List.map_map]
  simp [Function.comp_def]
abbrev nV (n : Nat) : V := .int (n : Int)
theorem hold_len {D : List (List Nat)} {p x : Nat} : (hold D p x).length ≤ p := by
  unfold hold
  exact Nat.le_trans (List.length_filter_le _ _) (by simp)
section
variable {P : Program} {w : World} {K : PySem.W.Frag} {mg : Str → Option Value} {base : Heap}
abbrev NSettledPlaces : List Str := ["rows", "holders", "row", "missing", "place", "held", "settled", "at", "lower", "holder"]
theorem scSettledPlaces : FnScope NSettledPlaces ["rows"] (defScope sSettledPlaces) := ⟨rfl, rfl, rfl, by decide +kernel, rfl, by decide +kernel, by decide +kernel⟩
theorem ok_settled {f : Addr} {fd : FuncData} (F : FD K "settled_places" sSettledPlaces f fd) (T : Tx K mg) : FnOk P w K mg base CX0 1 f fd ["rows"] spSettled := by
  refine F.ok scSettledPlaces (fun vs H Q E h => ?_) (fun cdv A outer s H vs Q E hr h => ?_)
  · obtain ⟨_, _, _, rfl, _⟩ := h
    rfl
  · obtain ⟨M, v1, D, rfl, d, h1, hD, hn, k⟩ := h
    have nd := scSettledPlaces.nd
    refine ⟨_, PSs.nox (pss_cons (ps_setLc (i := 1) rfl nd rfl rfl (sw_true rfl rfl rfl (by decide +kernel)) (pil K (pv 0)) (blkOk_by (own := [("row", 2)]) (N := NSettledPlaces) (sc := defScope sSettledPlaces) (by decide +kernel)) (fun _ _ _ _ _ => (pg_name (i := 2) nd rfl (by first | exact Or.inl rfl | exact Or.inr rfl))) (fun _ _ _ _ _ => pts_nil) (fun _ _ _ _ _ => (pe_lst pa_nil)))
      (pss_cons (ps_setLc (i := 3) rfl nd rfl rfl (sw_true rfl rfl rfl (by decide +kernel)) (pil K (pv 0)) (blkOk_by (own := [("row", 2)]) (N := NSettledPlaces) (sc := defScope sSettledPlaces) (by decide +kernel)) (fun _ _ _ _ _ => (pg_name (i := 2) nd rfl (by first | exact Or.inl rfl | exact Or.inr rfl))) (fun _ _ _ _ _ => pts_nil) (fun _ _ _ _ _ => (pe_callB (clen K) rfl T.f_len boot_len (pa_cons (pv 2) pa_nil))))
      (pss_cons (ps_for PassesOwn.never rfl (pienum K (by rfl) T.f_enumerate (pa_cons (pv 0) pa_nil)) (pgt K (n := 2) (pgs_cons (pg_name (i := 4) nd rfl (by first | exact Or.inl rfl | exact Or.inr rfl)) (pgs_cons (pg_name (i := 2) nd rfl (by first | exact Or.inl rfl | exact Or.inr rfl)) pgs_nil))) (pss_one (ps_for PassesOwn.never rfl (pil K (pv 2)) (pg_name (i := 5) nd rfl (by first | exact Or.inl rfl | exact Or.inr rfl)) (pss_one (ps_expr (pbm K PySem.F.plainAttrs_list PySem.F.slot_list_append PySem.F.type_list_append mt_append (pe_ix (ixl K) (pv 1) (pv 5) (fun _ _ => rfl)) (pa_cons (pv 4) pa_nil)))))))
      (pss_cons (ps_setLc (i := 6) rfl nd rfl rfl (sw_true rfl rfl rfl (by decide +kernel)) (pienum K (by rfl) T.f_enumerate (pa_cons (pv 0) pa_nil)) (blkOk_by (own := [("place", 4), ("row", 2)]) (N := NSettledPlaces) (sc := defScope sSettledPlaces) (by decide +kernel)) (fun _ _ _ _ _ => (pgt K (n := 2) (pgs_cons (pg_name (i := 4) nd rfl (by first | exact Or.inl rfl | exact Or.inr rfl)) (pgs_cons (pg_name (i := 2) nd rfl (by first | exact Or.inl rfl | exact Or.inr rfl)) pgs_nil)))) (fun _ _ _ _ _ => pts_one (pt_cmpR (oeqD K hr.units) (pv 2) (pe_lst pa_nil) (nomark _))) (fun _ _ _ _ _ => (pv 4)))
      (pss_cons (ps_set (i := 7) nd rfl (by first | exact Or.inl rfl | exact Or.inr rfl) pe_int)
      (pss_cons (ps_while PassesOwn.never (pt_cmpR op_lt (pv 7) (pe_callB (clen K) rfl T.f_len boot_len (pa_cons (pv 6) pa_nil)) (nomark _)) (pss_cons (ps_set (i := 8) nd rfl (by first | exact Or.inl rfl | exact Or.inr rfl) (pe_ix (ixl K) (pv 6) (pv 7) (fun _ _ => rfl)))
      (pss_cons (ps_for PassesOwn.never rfl (pil K (pe_ix (ixl K) (pv 1) (pv 8) (fun _ _ => rfl))) (pg_name (i := 9) nd rfl (by first | exact Or.inl rfl | exact Or.inr rfl)) (pss_cons (ps_augS (pv 3) (pv 9) (getl K) pe_int ip_sub set_list)
      (pss_one (ps_if (pt_cmpR op_eq (pe_ix (ixl K) (pv 3) (pv 9) (fun _ _ => rfl)) pe_int (nomark _)) (pss_one (ps_expr (pbm K PySem.F.plainAttrs_list PySem.F.slot_list_append PySem.F.type_list_append mt_append (pv 6) (pa_cons (pv 9) pa_nil)))) pss_nil))))
      (pss_one (ps_aug (i := 7) nd rfl (by first | exact Or.inl rfl | exact Or.inr rfl) pe_int ip_add)))))
      (pss_one (ps_ret (pv 6))))))))), ?_⟩
    -- holders
    refine q_asg (P := newMat nV H (D.map fun _ => [])) (ev_mat (r := rL rN) d (fun _ => []) (ev_var rfl h1) (by omega) (fun _ => rfl) (fun M' H1 v one up hx rv => new0)) fun v2 H1 s1 ⟨a, bs, e, na, nbs, mat⟩ => ?_
    subst e
    -- missing
    refine q_asg (P := newF nV H1 (D.map fun row => row.length)) (newN (M := M) (ev_lcMn (r := rL rN) (q := rN) (d.same s1) (fun row => row.length) (ev_var rfl (Rep.same s1 h1)) (by omega) (fun _ => rfl) (fun M' H1 v one up hx rv => ev_len (ev_var rfl rv)))) fun v3 H2 s2 ⟨pm, e, npm, gpm⟩ => ?_
    subst e
    have s12 := s1.trans s2
    have nba : ∀ b ∈ bs, b ≠ pm := fun b hb => by obtain ⟨o, e⟩ := mat.old b hb; exact ne_of_none e npm
    have napm : a ≠ pm := ne_of_none mat.top npm
    have h1n : rD (bs ++ M) H2 v1 D := Rep.same s12 (Rep.newL nbs h1)
    refine q_forE (r := rL rN) (L := bs) (M := bs ++ M) (xs := D) (ev_var rfl h1n) (fun b hb => List.mem_append_left _ hb) fun H3 s3 => ?_
    have mat3 := (mat.same s2).same s3
    refine ⟨fun i σ' H' => ∃ HH c2 c4 c5, σ' = [some v1, some (.ref a), c2, some (.ref pm), c4, c5, none, none, none, none] ∧ Kp bs H3 H' ∧ Mat nV H' a bs HH ∧ HI D i 0 HH, ⟨_, none, none, none, rfl, Kp.refl _ _, mat3, HI.start⟩, fun i σ' H' ⟨_, _, _, _, _, z, _⟩ => z, ?_, ?_⟩
    · rintro i TT v row σ' H4 hrow rv ⟨HH, c2, c4, c5, rfl, k4, m4, hi⟩ nT
      refine g_pairT ?_
      have sT : Same H4 (upd H4 TT (.tup [.int (i : Int), v])) := Same.new (Same.refl _) nT
      have hil : i < D.length := (List.getElem?_eq_some_iff.mp hrow).1
      have hre : rowOf D i = row := by
        rw [rowOf_get hil] at hrow
        exact Option.some.inj hrow
      refine s_forL (r := rN) (L := bs) (M := bs ++ M) (xs := row) (ev_var rfl (Rep.same sT rv)) (fun b hb => List.mem_append_left _ hb) fun H5 s5 => ?_
      refine ⟨fun j σ' H' => ∃ HH c5, σ' = [some v1, some (.ref a), some v, some (.ref pm), some (.int (i : Int)), c5, none, none, none, none] ∧ Kp bs H5 H' ∧ Mat nV H' a bs HH ∧ HI D i j HH, ⟨HH, c5, rfl, Kp.refl _ _, (m4.same sT).same s5, hi⟩, fun i σ' H' ⟨_, _, _, z, _⟩ => z, ?_, ?_⟩
      · rintro j w x σ' H6 hx rfl ⟨HH, c5, rfl, k6, m6, hj⟩
        have hx' : (rowOf D i)[j]? = some x := by rw [hre]; exact hx
        have hxl : x < D.length := (hD.lt (List.mem_of_getElem? hx')).1
        have hxh : x < HH.length := by rw [hj.len]; exact hxl
        have eH : HH[x]? = some (HH.getD x []) := by rw [List.getElem?_eq_getElem hxh, getD_lt hxh]
        obtain ⟨b, hb, gb⟩ := m6.at eH
        refine s_app (P := fun _ w => w = .int (i : Int)) (ev_ixO (M := []) (n := x) (ev_ref rfl) m6.top (ev_var (r := rN) rfl rfl) (by rw [List.getElem?_map, hb]; rfl)) gb (ev_ref rfl) ?_ fun v7 H7 s7 e => ?_
        · have := hj.get x hxl
          rw [eH] at this
          have e2 := Option.some.inj this
          rw [e2, List.length_map, List.length_append]
          have l1 := hold_len (D := D) (p := i) (x := x)
          have l2 : (if x ∈ (rowOf D i).take j then [i] else []).length ≤ 1 := by split <;> simp
          omega
        · subst e
          refine ⟨HH.set x (HH.getD x [] ++ [i]), _, rfl, (k6.trans (Kp.of s7)).mut (List.mem_of_getElem? hb), ?_, hj.put hD hx'⟩
          have := (m6.same s7).set hb (zs := HH.getD x [] ++ [i])
          rw [List.map_append] at this
          exact this
      · rintro σ' H6 ⟨HH, c5, rfl, k6, m6, hj⟩
        refine ⟨HH, _, _, _, rfl, (k4.trans (Kp.of (sT.trans s5))).trans k6, m6, HI.next ?_⟩
        rw [hre]
        exact hj
    rintro σ' H4 ⟨HH, c2, c4, c5, rfl, k4, m4, hi⟩
    have hi2 : ∀ x, x < D.length → HH[x]? = some (hold D D.length x) := fun x hx => by rw [hi.get x hx]; simp
    have sH4 : Same H H4 := Same.kp (s12.trans s3) k4 nbs
    have h14 : rD M H4 v1 D := Rep.same sH4 h1
    have d4 := d.same sH4
    have gm4 : H4 pm = some (.lst ((D.map fun row => row.length).map nV)) := k4 _ _ (fun q => nba pm q rfl) (s3 _ _ gpm)
    -- settled
    refine q_asg (P := newF nV H4 ((List.range D.length).filter fun p => decide (rowOf D p = []))) (newN (M := M) ((zip_filter D ([] : List Nat) fun row => decide (row = [])) ▸ ev_lcEn (r := rL rN) (q := rN) d4 (fun _ row => decide (row = [])) (fun i _ => i) (ev_var rfl h14) (by omega) (fun _ _ => rfl) (fun M' H1 v i x up hx rv => et_val (M := M') (ev_eqD (r := rL rN) (ha := ev_var rfl rv) (hb := ev_nil up.old))) (fun M' H1 v i x up hx rv _ => ev_var (r := rN) rfl rfl))) fun v6 H5 s5 ⟨ps, e, nps, gps⟩ => ?_
    subst e
    refine q_asg (P := as rN [] 0) ev_nat fun v7 H6 s6 e => ?_
    obtain rfl : v7 = nV 0 := e
    have s56 := s5.trans s6
    have m6 := m4.same s56
    have pms : pm ≠ ps := ne_of_none gm4 nps
    have aps : a ≠ ps := ne_of_none m4.top nps
    have bps : ∀ b ∈ bs, b ≠ ps := fun b hb => by obtain ⟨o, e⟩ := m4.old b hb; exact ne_of_none e nps
    have nH : ∀ q ∈ [pm, ps], H q = none := fun q hq => by
      rcases List.mem_cons.mp hq with e | hq
      · subst e; exact s1.free npm
      · have : q = ps := by simpa using hq
        subst this
        exact sH4.free nps
    refine q_while ⟨fun m σ' H' => ∃ at_ st mm c2 c4 c5 c8 c9, m = D.length - at_ ∧ σ' = [some v1, some (.ref a), c2, some (.ref pm), c4, c5, some (.ref ps), some (nV at_), c8, c9] ∧ Kp [pm, ps] H6 H' ∧ H' pm = some (.lst (mm.map nV)) ∧ H' ps = some (.lst (st.map nV)) ∧ KI D at_ st mm, ⟨_, 0, _, _, _, _, _, none, none, rfl, rfl, Kp.refl _ _, s56 _ _ gm4, s6 _ _ gps, KI.start⟩, ?_⟩
    rintro m σ' H' ⟨at_, st, mm, c2, c4, c5, c8, c9, rfl, rfl, k7, g1, g2, I⟩
    have hst : st.length ≤ D.length := nodup_lt_len I.nd I.lt
    refine ⟨decide (at_ < st.length), et_val (M := []) (ev_ltN (M := []) (ev_var (r := rN) rfl rfl) ((ev_lenO (M := []) (ev_ref rfl) g2).to (by rw [List.length_map]))), fun hb H7 s7 => ?_, fun hb H7 s7 => ?_⟩
    · have hlt : at_ < st.length := by simpa using hb
      have hc : st[at_]? = some st[at_] := List.getElem?_eq_getElem hlt
      generalize st[at_] = c at hc
      have hcn : c < D.length := I.lt c (List.mem_of_getElem? hc)
      refine q_asg (P := fun _ w => w = nV c) (ev_ixO (M := []) (n := at_) (ev_ref rfl) (s7 _ _ g2) (ev_var (r := rN) rfl rfl) (by rw [List.getElem?_map, hc]; rfl)) fun v8 H8 s8 e => ?_
      subst e
      have m8 : Mat nV H8 a bs HH := ((m6.kp k7 (by simp [napm, aps]) (fun b hb => by simp [nba b hb, bps b hb])).same s7).same s8
      obtain ⟨b, hb, gb⟩ := m8.at (hi2 c hcn)
      have hbm := List.mem_of_getElem? hb
      have s78 := s7.trans s8
      refine q_forL (r := rN) (L := [pm, ps]) (M := [pm, ps]) (xs := hold D D.length c) ((ev_ixO (M := []) (n := c) (ev_ref rfl) m8.top (ev_var (r := rN) rfl rfl) (by rw [List.getElem?_map, hb]; rfl)).imp fun H9 v s9 e => by
        subst e
        exact ⟨b, _, rfl, by simp [nba b hbm, bps b hbm], s9 _ _ gb, rN.F2⟩) (by simp) fun H9 s9 => ?_
      have s79 := s78.trans s9
      refine ⟨fun i σ' H' => ∃ st mm c9, σ' = [some v1, some (.ref a), c2, some (.ref pm), c4, c5, some (.ref ps), some (nV at_), some (nV c), c9] ∧ Kp [pm, ps] H9 H' ∧ H' pm = some (.lst (mm.map nV)) ∧ H' ps = some (.lst (st.map nV)) ∧ KJ D at_ c i st mm, ⟨st, mm, c9, rfl, Kp.refl _ _, s79 _ _ g1, s79 _ _ g2, I.turn hc⟩, fun i σ' H' ⟨_, _, _, _, z, _⟩ => z, ?_, ?_⟩
      · rintro i w p σ' H10 hp rfl ⟨st, mm, c9, rfl, k10, g3, g4, J⟩
        obtain ⟨m, hm, hps, j1, j2⟩ := J.dec hD hp
        have hst : st.length ≤ D.length := nodup_lt_len J.nd J.lt
        have hpl : p < mm.length := (List.getElem?_eq_some_iff.mp hm).1
        refine q_augL (M := []) (n := p) (z := ((m + 1 : Nat) : Int)) (e := 1) (ev_ref rfl) g3 (ev_var (r := rN) rfl rfl) (by rw [List.getElem?_map, hm]; rfl) ev_int fun H11 s11 => ?_
        have e1 : ((mm.map nV).set p (.int (((m + 1 : Nat) : Int) - 1))) = (mm.set p m).map nV := by
          rw [List.map_set]
          congr 2
          omega
        rw [e1]
        have k11 : Kp [pm, ps] H9 (upd H11 pm (.lst ((mm.set p m).map nV))) := (k10.trans (Kp.of s11)).mut (by simp)
        have g5 : (upd H11 pm (.lst ((mm.set p m).map nV))) ps = some (.lst (st.map nV)) := by rw [upd_ne (Ne.symm pms)]; exact s11 _ _ g4
        refine s_when (b := decide (m = 0)) (et_val (M := []) (ev_eqN (M := []) ((ev_ixO (M := []) (n := p) (v := nV m) (ev_ref rfl) upd_same (ev_var (r := rN) rfl rfl) (by rw [List.getElem?_map, List.getElem?_set_self hpl]; rfl)).imp fun _ v _ e => e) ev_nat)) (fun hb H12 s12 => ?_) (fun hb H12 s12 => ?_)
        · refine s_app (P := fun _ w => w = nV p) (ev_ref rfl) (s12 _ _ g5) (ev_ref rfl) (by rw [List.length_map]; omega) fun v13 H13 s13 e => ?_
          subst e
          refine ⟨st ++ [p], mm.set p m, _, rfl, ((k11.trans (Kp.of s12)).trans (Kp.of s13)).mut (by simp), ?_, by rw [upd_same]; simp, j2 (by simpa using hb)⟩
          rw [upd_ne pms]
          exact (s12.trans s13) _ _ upd_same
        · exact ⟨st, mm.set p m, _, rfl, k11.trans (Kp.of s12), s12 _ _ upd_same, s12 _ _ g5, j1 (by simpa using hb)⟩
      · rintro σ' H10 ⟨st2, mm2, c9, rfl, k10, g3, g4, J⟩
        refine s_augN (n := 1) (M := []) rfl ev_nat fun H11 s11 => ?_
        refine ⟨D.length - (at_ + 1), by omega, at_ + 1, st2, mm2, _, _, _, _, _, rfl, rfl, ((k7.trans (Kp.of s79)).trans k10).trans (Kp.of s11), s11 _ _ g3, s11 _ _ g4, J.done⟩
    · have hge : ¬ at_ < st.length := by simpa using hb
      have e0 : at_ = st.length := by have := I.al; omega
      subst e0
      refine s_ret (P := fun _ w => w = .ref ps) (ev_ref rfl) fun v H8 s8 e => ?_
      subst e
      have s78 := s7.trans s8
      obtain ⟨t1, t2⟩ := I.told hD
      exact k _ H8 st (Same.kp (sH4.trans s56) (k7.trans (Kp.of s78)) nH) ⟨ps, _, rfl, d4.fresh nps, s78 _ _ g2, rN.F2⟩ t1 t2
end
end K80

namespace K80
open PySem PySem.Spec PyProof.Rows L2 Rp
/-- the rows stand as a sketch -/
def Stands (b : Bool) (D : List (List Nat)) : Prop := Apart b D ∧ (b = false → ∀ x, x < D.length → Sttl D x)
def spStands : Sp := fun vs H Q _ => ∃ (M : List Addr) (v1 v2 : V) (b : Bool) (D : List (List Nat)), vs = [v1, v2, .bl b] ∧ Old M H ∧ rN M H v1 D.length ∧ rD M H v2 D ∧ Good D ∧ D.length ≤ 100 ∧
  ∀ (r : Bool) H2, Same H H2 → (r = true ↔ Stands b D) → Q (.bl r) H2
def spBuild : Sp := fun vs H Q _ => ∃ (M : List Addr) (v1 v2 : V) (b : Bool) (D : List (List Nat)), vs = [v1, v2, .bl b] ∧ Old M H ∧ rN M H v1 D.length ∧ rD M H v2 D ∧ Good D ∧ D.length ≤ 100 ∧ 0 < D.length ∧ Stands b D ∧
  ∀ v H2, Same H H2 → rD M H2 v D → Q v H2
section
variable {P : Program} {w : World} {K : PySem.W.Frag} {mg : Str → Option Value} {base : Heap}
abbrev NSketchStands : List Str := ["count", "rows", "rings"]
theorem scSketchStands : FnScope NSketchStands ["count", "rows", "rings"] (defScope sSketchStands) := ⟨rfl, rfl, rfl, by decide +kernel, rfl, by decide +kernel, by decide +kernel⟩
theorem ok_stands {f : Addr} {fd : FuncData} (F : FR K "sketch_stands" sSketchStands f fd) (T : Tx K mg) (Cpairs_alike : FnK P w K mg base "pairs_alike" ["count", "rows", "rings"] ["rings"] 2 3 spPairs (fun vs zs => vs ++ zs))
    (Csettled_places : Fn P w K mg base "settled_places" ["rows"] 1 spSettled []) : FnOk P w K mg base CX0 4 f fd ["count", "rows", "rings"] spStands := by
  classical
  refine F.ok scSketchStands (fun vs H Q E h => ?_) (fun cdv A outer s H vs Q E hr h => ?_)
  · obtain ⟨_, _, _, _, _, rfl, _⟩ := h
    rfl
  · obtain ⟨M, v1, v2, b, D, rfl, d, h1, h2, hD, hn, k⟩ := h
    obtain rfl : v1 = .int (D.length : Int) := h1
    have nd := scSketchStands.nd
    refine ⟨_, PSs.nox (pss_cons (ps_if (pt_cmpR (oneD K hr.units) (pe_fnK Cpairs_alike hr rfl (pa_cons (pv 0) (pa_cons (pv 1) pa_nil)) (pk_cons (pv 2) pk_nil)) (pe_lst pa_nil) (nomark _)) (pss_one (ps_ret pe_bl)) pss_nil)
      (pss_cons (ps_if (pt_val (pv 2)) (pss_one (ps_ret pe_bl)) pss_nil)
      (pss_one (ps_ret (pe_cmpR op_eq (pe_callB (clen K) rfl T.f_len boot_len (pa_cons (pe_fn Csettled_places hr rfl (pa_cons (pv 1) pa_nil)) pa_nil)) (pe_callB (clen K) rfl T.f_len boot_len (pa_cons (pv 1) pa_nil)) (nomark _)))))), ?_⟩
    have ha : EvA (tCons (tVar 0) (tCons (tVar 1) tNil)) (L2.start NSketchStands [V.int ↑D.length, v2, V.bl b]) H (fun H vs => ∃ v w, vs = [v, w] ∧ rN M H v D.length ∧ rD M H w D) := ea_2r (r := rN) (q := rD) (ev_var rfl rfl) (ev_var rfl h2)
    refine q_when (b := !decide (Apart b D)) (et_val (M := M) (ev_op (P1 := fun H v => ∃ L : List (Nat × Nat), rL (rP rN rN) M H v L ∧ (L = [] ↔ Apart b D)) (P2 := as (rL (rP rN rN)) M []) (ev_callN1 ha (fun H1 H2 vs s ⟨v, w, e, p1, p2⟩ => ⟨v, w, e, Rep.same s p1, Rep.same s p2⟩) (ev_var (r := rB) (M := M) rfl rfl) ?_) (fun H1 H2 v s ⟨L, p, e⟩ => ⟨L, Rep.same s p, e⟩) (ev_nil d) ?_)) (fun hb H1 s1 => ?_) (fun hb H1 s1 => ?_)
    · rintro H1 vs z s1 ⟨v, w, rfl, p1, p2⟩ rfl
      refine ⟨rfl, fun Q k => ⟨M, v, w, b, D, rfl, d.same s1, p1, p2, hD, hn, fun v H2 L s2 hv hL => k v H2 s2 ⟨L, hv, hL⟩⟩⟩
    · rintro H1 v w s1 ⟨L, p, e⟩ p2 Q k
      refine neD_run (r := rL (rP rN rN)) (ha := p) (hb := p2) (k := fun H2 s2 => k _ H2 s2 ?_)
      show V.bl _ = V.bl _
      congr 2
      rw [decide_eq_decide]
      exact e
    · refine s_ret (P := as rB M false) ev_bl fun v H2 s2 e => ?_
      obtain rfl : v = _ := e
      refine k false H2 (s1.trans s2) (Iff.intro (fun z => Bool.noConfusion z) fun z => ?_)
      rw [Bool.not_eq_true', decide_eq_false_iff_not] at hb
      exact absurd z.1 hb
    · have hA : Apart b D := by
        rw [Bool.not_eq_false', decide_eq_true_eq] at hb
        exact hb
      refine q_when (b := b) (et_B (M := []) (ev_var (r := rB) rfl rfl)) (fun hb2 H2 s2 => ?_) (fun hb2 H2 s2 => ?_)
      · refine s_ret (P := as rB M true) ev_bl fun v H3 s3 e => ?_
        obtain rfl : v = _ := e
        refine k true H3 ((s1.trans s2).trans s3) ⟨fun _ => ⟨hA, fun z => ?_⟩, fun _ => rfl⟩
        rw [hb2] at z
        cases z
      · have s12 := s1.trans s2
        refine s_ret (P := as rB M (decide (∀ x, x < D.length → Sttl D x))) ?_ fun v H3 s3 e => ?_
        · refine ev_op (P1 := fun H v => ∃ n : Nat, v = .int (n : Int) ∧ (n = D.length ↔ ∀ x, x < D.length → Sttl D x)) (P2 := as rN M D.length) (ev_cb1 (P1 := fun H v => ∃ L : List Nat, rL rN M H v L ∧ L.Nodup ∧ (∀ x, x ∈ L ↔ x < D.length ∧ Sttl D x)) (ev_call (ea_1 (ev_var (r := rD) rfl (Rep.same s12 h2))) ?_) ?_) (fun _ _ _ _ z => z) (ev_len (ev_var rfl (Rep.same s12 h2))) ?_
          · rintro H3 vs s3 ⟨w, rfl, p⟩ Q k
            exact ⟨M, w, D, rfl, d.same (s12.trans s3), p, hD, hn, fun v H4 L s4 hv nd hL => k v H4 s4 ⟨L, hv, nd, hL⟩⟩
          · rintro H3 v s3 ⟨L, ⟨a, ws, rfl, _, g, f⟩, nd, hL⟩ Q k
            refine ⟨a, ws, rfl, .inl (SqL.of g), k _ H3 (Same.refl _) ⟨L.length, by rw [f.length], all_settled nd hL⟩⟩
          · rintro H3 v w s3 ⟨n, rfl, e⟩ rfl Q k
            refine ⟨rfl, k _ H3 (Same.refl _) ?_⟩
            show V.bl _ = V.bl _
            congr 1
            rw [decide_eq_decide, V.int.injEq, ← e]
            omega
        · obtain rfl : v = _ := e
          refine k _ H3 (s12.trans s3) ?_
          rw [decide_eq_true_eq]
          exact ⟨fun z => ⟨hA, fun _ => z⟩, fun z => z.2 hb2⟩
abbrev NBuildDrawing : List Str := ["count", "rows", "rings", "drawing", "row", "bare", "first_mark", "zero", "index", "wraps"]
theorem scBuildDrawing : FnScope NBuildDrawing ["count", "rows", "rings"] (defScope sBuildDrawing) := ⟨rfl, rfl, rfl, by decide +kernel, rfl, by decide +kernel, by decide +kernel⟩
theorem ok_build {f : Addr} {fd : FuncData} (F : FR K "build_drawing" sBuildDrawing f fd) (T : Tx K mg) (Csketch_stands : FnK P w K mg base "sketch_stands" ["count", "rows", "rings"] ["rings"] 2 4 spStands (fun vs zs => vs ++ zs)) :
    FnOk P w K mg base CX0 5 f fd ["count", "rows", "rings"] spBuild := by
  refine F.ok scBuildDrawing (fun vs H Q E h => ?_) (fun cdv A outer s H vs Q E hr h => ?_)
  · obtain ⟨_, _, _, _, _, rfl, _⟩ := h
    rfl
  · obtain ⟨M, v1, v2, b, D, rfl, d, h1, h2, hD, hn, hpos, hS, k⟩ := h
    obtain rfl : v1 = .int (D.length : Int) := h1
    have nd := scBuildDrawing.nd
    refine ⟨_, PSs.nox (pss_cons (ps_if (pt_not (pt_val (pe_fnK Csketch_stands hr rfl (pa_cons (pv 0) (pa_cons (pv 1) pa_nil)) (pk_cons (pv 2) pk_nil)))) (pss_one ps_never) pss_nil)
      (pss_cons (ps_setLc (i := 3) rfl nd rfl rfl (sw_true rfl rfl rfl (by decide +kernel)) (pil K (pv 1)) (blkOk_by (own := [("row", 4)]) (N := NBuildDrawing) (sc := defScope sBuildDrawing) (by decide +kernel)) (fun _ _ _ _ _ => (pg_name (i := 4) nd rfl (by first | exact Or.inl rfl | exact Or.inr rfl))) (fun _ _ _ _ _ => pts_nil) (fun _ _ _ _ _ => (pe_callTy (clist K) rfl T.f_list (by decide +kernel) (pa_cons (pv 4) pa_nil))))
      (pss_cons (ps_set (i := 5) nd rfl (by first | exact Or.inl rfl | exact Or.inr rfl) (pe_op op_sub (pe_callB (clen K) rfl T.f_len boot_len (pa_cons (pv 1) pa_nil)) (pv 0)))
      (pss_cons (ps_if (PW.pt (pw_and (pt_cmpR op_eq (pv 5) pe_int (nomark _)) (pw_and1 (pt_cmpR op_gt (pv 0) pe_int (nomark _))))) (pss_one (ps_ret (pv 3))) pss_nil)
      (pss_cons (ps_set (i := 6) nd rfl (by first | exact Or.inl rfl | exact Or.inr rfl) (pe_callB (clen K) rfl T.f_len boot_len (pa_cons (pv 1) pa_nil)))
      (pss_cons (ps_set (i := 7) nd rfl (by first | exact Or.inl rfl | exact Or.inr rfl) (pe_op op_add (pv 6) (pv 5)))
      (pss_cons (ps_for PassesOwn.never rfl (pi_range1 rfl T.f_range (pa_cons (pv 5) pa_nil)) (pg_name (i := 8) nd rfl (by first | exact Or.inl rfl | exact Or.inr rfl)) (pss_cons (ps_expr (pbm K PySem.F.plainAttrs_list PySem.F.slot_list_append PySem.F.type_list_append mt_append (pe_ix (ixl K) (pv 3) (pe_op op_add (pv 0) (pv 8)) (fun _ _ => rfl)) (pa_cons (pe_op op_add (pv 6) (pv 8)) pa_nil)))
      (pss_one (ps_expr (pbm K PySem.F.plainAttrs_list PySem.F.slot_list_append PySem.F.type_list_append mt_append (pv 3) (pa_cons (pe_lst (pa_cons (pv 7) (pa_cons (pe_op op_add (pe_op op_add (pe_op op_add (pv 7) (pv 0)) pe_int) (pv 8)) pa_nil))) pa_nil))))))
      (pss_cons (ps_expr (pbm K PySem.F.plainAttrs_list PySem.F.slot_list_append PySem.F.type_list_append mt_append (pv 3) (pa_cons (pe_lst pa_nil) pa_nil)))
      (pss_cons (ps_for PassesOwn.never rfl (pi_range1 rfl T.f_range (pa_cons (pe_op op_add (pv 0) (pv 5)) pa_nil)) (pg_name (i := 9) nd rfl (by first | exact Or.inl rfl | exact Or.inr rfl)) (pss_one (ps_expr (pbm K PySem.F.plainAttrs_list PySem.F.slot_list_append PySem.F.type_list_append mt_append (pv 3) (pa_cons (pe_lst (pa_cons (pe_op op_add (pv 7) (pv 9)) pa_nil)) pa_nil)))))
      (pss_one (ps_ret (pv 3)))))))))))), ?_⟩
    have ha : EvA (tCons (tVar 0) (tCons (tVar 1) tNil)) (L2.start NBuildDrawing [V.int ↑D.length, v2, V.bl b]) H (fun H vs => ∃ v w, vs = [v, w] ∧ rN M H v D.length ∧ rD M H w D) := ea_2r (r := rN) (q := rD) (ev_var rfl rfl) (ev_var rfl h2)
    refine q_when (b := false) (et_not (b := true) (et_B (M := M) (ev_callN1 ha (fun H1 H2 vs s ⟨v, w, e, p1, p2⟩ => ⟨v, w, e, Rep.same s p1, Rep.same s p2⟩) (ev_var (r := rB) (M := M) rfl rfl) ?_))) (fun hb H1 s1 => by cases hb) (fun hb H1 s1 => ?_)
    · rintro H1 vs z s1 ⟨v, w, rfl, p1, p2⟩ rfl
      refine ⟨rfl, fun Q k => ⟨M, v, w, b, D, rfl, d.same s1, p1, p2, hD, hn, fun r H2 s2 hr => k _ H2 s2 ?_⟩⟩
      show V.bl _ = V.bl _
      congr 1
      exact hr.mpr hS
    refine q_asg (P := as rD M D) (Ev.to (ev_lcM (r := rL rN) (q := rL rN) (d.same s1) id (ev_var rfl (Rep.same s1 h2)) (by omega) (fun _ => rfl) (fun M' H1 v row up hx rv => ev_listS up.old (ev_var rfl rv))) (List.map_id D)) fun v3 H2 s2 h3 => ?_
    have s12 := s1.trans s2
    refine q_asg (P := as rN M 0) (Ev.to (ev_subN (ev_len (ev_var rfl (Rep.same s12 h2))) (ev_var (r := rN) rfl rfl) (Nat.le_refl _)) (Nat.sub_self _)) fun v4 H3 s3 e => ?_
    obtain rfl : v4 = .int 0 := e
    refine q_when (b := true && true) (et_and (et_val (M := M) (Ev.to (ev_eqN (m := 0) (n := 0) (M := M) (ev_var (r := rN) rfl rfl) ev_nat) (by decide))) fun _ => et_val (M := M) (Ev.to (ev_gtN (m := D.length) (n := 0) (M := M) (ev_var (r := rN) rfl rfl) ev_nat) (by simpa using hpos))) (fun _ H4 s4 => ?_) (fun hb => by cases hb)
    refine s_ret (P := as rD M D) (ev_var rfl (Rep.same (s3.trans s4) h3)) fun v H5 s5 hv => ?_
    exact k v H5 (((s12.trans s3).trans s4).trans s5) hv
end
end K80

namespace K80
open PySem PySem.Spec PyProof.Rows L2 Rp
/-- the numbers that a row holds -/
def held (ns : List Nat) (row : List Nat) : List Nat := asc (row.map fun x => ns.getD x 0)
def spHeld : Sp := fun vs H Q _ => ∃ (M : List Addr) (v1 v2 : V) (row ns : List Nat), vs = [v1, v2] ∧ Old M H ∧ rL rN M H v1 row ∧ rL rN M H v2 ns ∧ (∀ x ∈ row, x < ns.length) ∧ row.length < 64 ∧
  ∀ v H2, Same H H2 → rT rN M H2 v (held ns row) → Q v H2
def spRanks : Sp := fun vs H Q _ => ∃ (M : List Addr) (v1 : V) (xs : List K2), vs = [v1] ∧ Old M H ∧ rL rK2 M H v1 xs ∧ xs.length < 64 ∧
  ∀ v H2 (ys : List K2), Same H H2 → ys.Nodup → (∀ k, k ∈ ys ↔ k ∈ xs) → rL rN M H2 v (xs.map fun k => ys.idxOf k) → Q v H2
section
variable {P : Program} {w : World} {K : PySem.W.Frag} {mg : Str → Option Value} {base : Heap}
abbrev NNumbersHeld : List Str := ["row", "numbers", "held"]
theorem scNumbersHeld : FnScope NNumbersHeld ["row", "numbers"] (defScope sNumbersHeld) := ⟨rfl, rfl, rfl, by decide +kernel, rfl, by decide +kernel, by decide +kernel⟩
theorem ok_held {f : Addr} {fd : FuncData} (F : FD K "numbers_held" sNumbersHeld f fd) (T : Tx K mg) : FnOk P w K mg base CX0 1 f fd ["row", "numbers"] spHeld := by
  refine F.ok scNumbersHeld (fun vs H Q E h => ?_) (fun cdv A outer s H vs Q E hr h => ?_)
  · obtain ⟨_, _, _, _, _, rfl, _⟩ := h
    rfl
  · obtain ⟨M, v1, v2, row, ns, rfl, d, h1, h2, hx, hz, k⟩ := h
    have nd := scNumbersHeld.nd
    refine ⟨_, PSs.nox (pss_one (ps_ret (pe_callTy (ctup K) rfl T.f_tuple (by decide +kernel) (pa_cons (pe_callB (csortset w) rfl T.f_sorted (by decide +kernel) (pa_cons (pe_scG (bornI rfl) (fun _ _ _ => addI_ok rfl) rfl nd (pil K (pv 0)) (blkOk_by (own := [("held", 2)]) (N := NNumbersHeld) (sc := defScope sNumbersHeld) (by decide +kernel)) (fun _ _ _ => (pg_name (i := 2) nd rfl (by first | exact Or.inl rfl | exact Or.inr rfl))) (fun _ _ _ => pts_nil) (fun _ _ _ => (pe_ix (ixl K) (pv 1) (pv 2) (fun _ _ => rfl)))) pa_nil)) pa_nil)))), ?_⟩
    refine s_ret (P := as (rT rN) M (held ns row)) (ev_tupS d (Ev.own d (ev_sortset (ev_scI (r := rN) d (fun x => ns.getD x 0) (ev_var rfl h1) (by omega) (fun _ => rfl) fun M' H1 v x up hm rv => ?_) (by simpa using hz)))) fun v H1 s1 hv => k v H1 s1 hv
    refine ev_ixL (n := x) (ev_var rfl (up.lift h2)) (ev_var rfl rv) ?_
    have := hx x hm
    rw [getD_lt this, List.getElem?_eq_getElem this]
abbrev NRanksOf : List Str := ["pairs", "rank", "at", "pair"]
theorem scRanksOf : FnScope NRanksOf ["pairs"] (defScope sRanksOf) := ⟨rfl, rfl, rfl, by decide +kernel, rfl, by decide +kernel, by decide +kernel⟩
theorem ok_ranks {f : Addr} {fd : FuncData} (F : FD K "ranks_of" sRanksOf f fd) (T : Tx K mg) : FnOk P w K mg base CX0 1 f fd ["pairs"] spRanks := by
  refine F.ok scRanksOf (fun vs H Q E h => ?_) (fun cdv A outer s H vs Q E hr h => ?_)
  · obtain ⟨_, _, _, rfl, _⟩ := h
    rfl
  · obtain ⟨M, v1, xs, rfl, d, h1, hz, k⟩ := h
    have nd := scRanksOf.nd
    refine ⟨_, PSs.nox (pss_cons (ps_set (i := 1) nd rfl (by first | exact Or.inl rfl | exact Or.inr rfl) (pe_dcG (bornK rfl rfl) (fun _ _ _ => putK2_ok hr.units rfl rfl) rfl nd (pienum K (by rfl) T.f_enumerate (pa_cons (pe_callB (cr_sortK P w hr.units) rfl T.f_sorted (by decide +kernel) (pa_cons (pe_callTy (cr_setK K P w hr.units) rfl T.f_set (by decide +kernel) (pa_cons (pv 0) pa_nil)) pa_nil)) pa_nil)) (blkOk_by (own := [("at", 2), ("pair", 3)]) (N := NRanksOf) (sc := defScope sRanksOf) (by decide +kernel)) (fun _ _ _ => (pgt K (n := 2) (pgs_cons (pg_name (i := 2) nd rfl (by first | exact Or.inl rfl | exact Or.inr rfl)) (pgs_cons (pg_name (i := 3) nd rfl (by first | exact Or.inl rfl | exact Or.inr rfl)) pgs_nil)))) (fun _ _ _ => pts_nil) (fun _ _ _ => (pv 3)) (fun _ _ _ => (pv 2))))
      (pss_one (ps_ret (pe_lc rfl nd (pil K (pv 0)) (blkOk_by (own := [("pair", 3)]) (N := NRanksOf) (sc := defScope sRanksOf) (by decide +kernel)) (fun _ _ _ _ _ => (pg_name (i := 3) nd rfl (by first | exact Or.inl rfl | exact Or.inr rfl))) (fun _ _ _ _ _ => pts_nil) (fun _ _ _ _ _ => (pe_ix (ixK P w hr.units) (pv 1) (pv 3) (fun _ _ => rfl))))))), ?_⟩
    refine q_asg (P := fun H1 v => ∃ ys : List K2, (∀ k, k ∈ ys ↔ k ∈ xs) ∧ ys.Nodup ∧ rankP P w H ys H1 v) (ev_dcK (Pl := fun _ ys => ∀ k, k ∈ ys ↔ k ∈ xs) d ((ev_sortK d (ev_var rfl h1) hz).imp fun H1 v _ ⟨ys, e1, e2, e3, e4⟩ => ⟨ys, e2, e1, e3, e4⟩) (fun _ _ => rfl) (fun _ _ => rfl) (fun _ _ => rfl)) fun v H1 s1 ⟨ys, hm, hn, hr'⟩ => ?_
    refine s_ret (P := as (rL rN) M (xs.map fun k => ys.idxOf k)) (ev_lcM (r := rK2) (q := rN) (d.same s1) (fun k => ys.idxOf k) (ev_var rfl (Rep.same s1 h1)) (by omega) (fun _ => rfl) fun M' H2 v2 k up hk rv => ?_) fun v2 H2 s2 hv => k v2 H2 ys (s1.trans s2) hn hm hv
    exact ev_ixK hn ((hm k).mpr hk) (ev_varP rfl fun H3 s3 => ⟨H, rankP.same (up.same.trans s3) hr'⟩) (fun H3 H4 v s ⟨H0, p⟩ => ⟨H0, rankP.same s p⟩) (ev_var rfl rv)
end
end K80

namespace Rp
open PySem PySem.Spec PyProof.Rows L2
theorem ev_max {K : PySem.W.Frag} {σ : L2.St} {H : Hp} {M : List Addr} {ta : TE} {L : List Nat} (hne : L ≠ []) (ha : Ev ta σ H (as (rL rN) M L)) : Ev (tCB (rMax K) (tCons ta tNil)) σ H (as rN M (L.foldr max 0)) :=
  ev_cb1 ha fun H1 v s ⟨a, vs, e, n, g, f⟩ Q k => ⟨a, zs L, by rw [e], by rw [zs_V, ← rN.map f]; exact SqL.of g, by rw [List.length_map]; exact List.length_pos_iff.mpr hne, fun m hm hb => k _ H1 (Same.refl _) (by
    show V.int _ = V.int _
    congr 1
    obtain ⟨x, hx, e⟩ := List.mem_map.mp hm
    have h1 := hb _ (List.mem_map.mpr ⟨_, K80.fold_mem hne, rfl⟩)
    have h2 := le_fold hx
    omega)⟩
end Rp
namespace K80
open PySem PySem.Spec PyProof.Rows L2 Rp
def spLike : Sp := fun vs H Q _ => ∃ (M : List Addr) (v1 : V) (D : List (List Nat)), vs = [v1] ∧ Old M H ∧ rD M H v1 D ∧ Good D ∧ 0 < D.length ∧ D.length < 64 ∧
  ∀ v H2 (N : List Nat), Same H H2 → rL rN M H2 v N → Lk D N → Q v H2
section
variable {P : Program} {w : World} {K : PySem.W.Frag} {mg : Str → Option Value} {base : Heap}
abbrev NLikenessOf : List Str := ["drawing", "numbers", "row", "count", "number"]
theorem scLikenessOf : FnScope NLikenessOf ["drawing"] (defScope sLikenessOf) := ⟨rfl, rfl, rfl, by decide +kernel, rfl, by decide +kernel, by decide +kernel⟩
theorem ok_like {f : Addr} {fd : FuncData} (F : FD K "likeness_of" sLikenessOf f fd) (T : Tx K mg) (Cnumbers_held : Fn P w K mg base "numbers_held" ["row", "numbers"] 1 spHeld []) (Cranks_of : Fn P w K mg base "ranks_of" ["pairs"] 1 spRanks []) : FnOk P w K mg base CX0 2 f fd ["drawing"] spLike := by
  refine F.ok scLikenessOf (fun vs H Q E h => ?_) (fun cdv A outer s H vs Q E hr h => ?_)
  · obtain ⟨_, _, _, rfl, _⟩ := h
    rfl
  · obtain ⟨M, v1, D, rfl, d, h1, hD, hpos, hz, k⟩ := h
    have nd := scLikenessOf.nd
    refine ⟨_, PSs.nox (pss_cons (ps_set (i := 1) nd rfl (by first | exact Or.inl rfl | exact Or.inr rfl) (pe_lc rfl nd (pil K (pv 0)) (blkOk_by (own := [("row", 2)]) (N := NLikenessOf) (sc := defScope sLikenessOf) (by decide +kernel)) (fun _ _ _ _ _ => (pg_name (i := 2) nd rfl (by first | exact Or.inl rfl | exact Or.inr rfl))) (fun _ _ _ _ _ => pts_nil) (fun _ _ _ _ _ => pe_int)))
      (pss_cons (ps_set (i := 3) nd rfl (by first | exact Or.inl rfl | exact Or.inr rfl) pe_int)
      (pss_cons (ps_while PassesOwn.never (pt_cmpR op_gt (pe_op op_add (pe_callB (cmax K) rfl T.f_max (by decide +kernel) (pa_cons (pv 1) pa_nil)) pe_int) (pv 3) (nomark _)) (pss_cons (ps_set (i := 3) nd rfl (by first | exact Or.inl rfl | exact Or.inr rfl) (pe_op op_add (pe_callB (cmax K) rfl T.f_max (by decide +kernel) (pa_cons (pv 1) pa_nil)) pe_int))
      (pss_one (ps_set (i := 1) nd rfl (by first | exact Or.inl rfl | exact Or.inr rfl) (pe_fn Cranks_of hr rfl (pa_cons (pe_lc rfl nd (pizip K (by rfl) T.f_zip (pa_cons (pv 1) (pa_cons (pv 0) pa_nil))) (blkOk_by (own := [("number", 4), ("row", 2)]) (N := NLikenessOf) (sc := defScope sLikenessOf) (by decide +kernel)) (fun _ _ _ _ _ => (pgt K (n := 2) (pgs_cons (pg_name (i := 4) nd rfl (by first | exact Or.inl rfl | exact Or.inr rfl)) (pgs_cons (pg_name (i := 2) nd rfl (by first | exact Or.inl rfl | exact Or.inr rfl)) pgs_nil)))) (fun _ _ _ _ _ => pts_nil) (fun _ _ _ _ _ => (pe_tup (pa_cons (pv 4) (pa_cons (pe_fn Cnumbers_held hr rfl (pa_cons (pv 2) (pa_cons (pv 1) pa_nil))) pa_nil))))) pa_nil))))))
      (pss_one (ps_ret (pv 1)))))), ?_⟩
    have hrow : ∀ row ∈ D, row.length < 64 := fun row hr => Nat.lt_of_le_of_lt (asc_len (hD row hr).1 (hD row hr).2) hz
    refine q_asg (P := as (rL rN) M (D.map fun _ => 0)) (ev_lcM (r := rL rN) (q := rN) d (fun _ => 0) (ev_var rfl h1) (by omega) (fun _ => rfl) fun M' H1 v x up hx rv => ev_nat) fun v2 H1 s1 h2 => ?_
    refine q_asg (P := as rN M 0) ev_nat fun v3 H2 s2 e => ?_
    obtain rfl : v3 = .int ((0 : Nat) : Int) := e
    refine q_while ⟨fun m σ' H' => ∃ (N : List Nat) (c : Nat) (v2 : V) (c2 c4 : Option V), m = D.length - c ∧ c ≤ D.length ∧ σ' = [some v1, some v2, c2, some (.int (c : Int)), c4] ∧ Same H H' ∧ rL rN M H' v2 N ∧ KL D N ∧ (c = 0 ∨ ∃ Np, KL D Np ∧ Stp D Np N ∧ c = tops Np), ⟨_, _, 0, v2, none, none, rfl, Nat.zero_le _, rfl, s1.trans s2, Rep.same s2 h2, KL.start hpos, .inl rfl⟩, ?_⟩
    rintro m σ' H' ⟨N, c, v2, c2, c4, rfl, hc, rfl, sH, hN, I, hp⟩
    have hne : N ≠ [] := by intro z; have := I.len; rw [z] at this; simp at this; omega
    refine ⟨decide (c < tops N), et_val (M := M) (ev_gtN (ev_addN (ev_max hne (ev_var rfl hN)) ev_nat) (ev_var (r := rN) rfl rfl)), fun hb H3 s3 => ?_, fun hb H3 s3 => ?_⟩
    · have hlt : c < tops N := by simpa using hb
      refine q_asg (P := as rN M (tops N)) (ev_addN (ev_max hne (ev_var rfl (Rep.same s3 hN))) ev_nat) fun v4 H4 s4 e => ?_
      obtain rfl : v4 = .int ((tops N : Nat) : Int) := e
      have s34 := s3.trans s4
      have d4 := d.same (sH.trans s34)
      refine s_asg (P := fun H1 v => ∃ ys : List K2, ys.Nodup ∧ (∀ k, k ∈ ys ↔ k ∈ sigs D N) ∧ rL rN M H1 v ((sigs D N).map fun k => ys.idxOf k)) (ev_call (ea_1 (P := as (rL rK2) M (sigs D N)) (ev_lcZM (r := rN) (r2 := rL rN) (q := rK2) d4 (fun p => (p.1, heldN N p.2)) (ev_var rfl (Rep.same s34 hN)) (ev_var rfl (Rep.same (sH.trans s34) h1)) I.len (by rw [I.len]; omega) (fun _ _ => rfl) fun M' H5 v w x up hx p1 p2 => ?_)) ?_) fun v5 H5 s5 ⟨ys, nd', hm, h5⟩ => ?_
      · have hxD : x.2 ∈ D := (List.of_mem_zip hx).2
        refine ev_tup2 up.old (ev_var rfl p1) (ev_call (ea_2r (r := rL rN) (q := rL rN) (M := M') (ev_var rfl p2) (ev_var rfl (up.lift (Rep.same s34 hN)))) ?_)
        rintro H6 vs s6 ⟨w1, w2, rfl, q1, q2⟩ Q k
        exact ⟨M', w1, w2, x.2, N, rfl, up.old.same s6, q1, q2, fun y hy => by rw [I.len]; exact (hD _ hxD).2 y hy, hrow _ hxD, fun v H7 s7 hv => k v H7 s7 hv⟩
      · rintro H6 vs s6 ⟨w1, rfl, q1⟩ Q k
        exact ⟨M, w1, _, rfl, d4.same s6, q1, by rw [sigs_len I.len]; exact hz, fun v H7 ys s7 e1 e2 hv => k v H7 s7 ⟨ys, e1, e2, hv⟩⟩
      · obtain ⟨I2, st⟩ := I.step hD hpos nd' hm
        have ht := tops_le I
        exact ⟨D.length - tops N, by omega, _, tops N, v5, _, _, rfl, ht, rfl, (sH.trans s34).trans s5, h5, I2, .inr ⟨N, I, st, rfl⟩⟩
    · have hge : ¬ c < tops N := by simpa using hb
      rcases hp with e | ⟨Np, I0, st, e⟩
      · unfold tops at hge; omega
      · refine s_ret (P := as (rL rN) M N) (ev_var rfl (Rep.same s3 hN)) fun v4 H4 s4 hv => k v4 H4 N ((sH.trans s3).trans s4) hv (Lk.of I I0 hD st (by omega))
end
end K80

namespace K80
open PySem PySem.Spec PyProof.Rows L2 Rp
def spLeast : Sp := fun vs H Q _ => ∃ (M : List Addr) (v1 v2 : V) (D : List (List Nat)) (p : Nat), vs = [v1, v2] ∧ Old M H ∧ rD M H v1 D ∧ rN M H v2 p ∧ Good D ∧ p < D.length ∧ D.length < 64 ∧
  ∀ v H2 (rows : List (List Nat)) (n : Nat), Same H H2 → rP rD rN M H2 v (rows, n) → Least D p rows → Q v H2
section
variable {P : Program} {w : World} {K : PySem.W.Frag} {mg : Str → Option Value} {base : Heap}
abbrev NLeastDrawing : List Str := ["drawing", "place", "places", "index", "new", "old", "own", "held", "numbers", "rows", "number", "row"]
theorem scLeastDrawing : FnScope NLeastDrawing ["drawing", "place"] (defScope sLeastDrawing) := ⟨rfl, rfl, rfl, by decide +kernel, rfl, by decide +kernel, by decide +kernel⟩
theorem ok_least {f : Addr} {fd : FuncData} (F : FD K "least_drawing" sLeastDrawing f fd) (T : Tx K mg) (Creachable : Fn P w K mg base "reachable" ["drawing", "place"] 1 spReachable []) (Clikeness_of : Fn P w K mg base "likeness_of" ["drawing"] 2 spLike [])
    (Cnumbers_held : Fn P w K mg base "numbers_held" ["row", "numbers"] 1 spHeld []) : FnOk P w K mg base CX0 3 f fd ["drawing", "place"] spLeast := by
  refine F.ok scLeastDrawing (fun vs H Q E h => ?_) (fun cdv A outer s H vs Q E hr h => ?_)
  · obtain ⟨_, _, _, _, _, rfl, _⟩ := h
    rfl
  · obtain ⟨M, v1, v2, D, p, rfl, d, h1, h2, hD, hp, hz, k⟩ := h
    obtain rfl : v2 = .int (p : Int) := h2
    have nd := scLeastDrawing.nd
    refine ⟨_, PSs.nox (pss_cons (ps_set (i := 2) nd rfl (by first | exact Or.inl rfl | exact Or.inr rfl) (pe_fn Creachable hr rfl (pa_cons (pv 0) (pa_cons (pv 1) pa_nil))))
      (pss_cons (ps_set (i := 3) nd rfl (by first | exact Or.inl rfl | exact Or.inr rfl) (pe_dc rfl nd (pienum K (by rfl) T.f_enumerate (pa_cons (pv 2) pa_nil)) (blkOk_by (own := [("new", 4), ("old", 5)]) (N := NLeastDrawing) (sc := defScope sLeastDrawing) (by decide +kernel)) (fun _ _ _ _ _ => (pgt K (n := 2) (pgs_cons (pg_name (i := 4) nd rfl (by first | exact Or.inl rfl | exact Or.inr rfl)) (pgs_cons (pg_name (i := 5) nd rfl (by first | exact Or.inl rfl | exact Or.inr rfl)) pgs_nil)))) (fun _ _ _ _ _ => pts_nil) (fun _ _ _ _ _ => (pv 5)) (fun _ _ _ _ _ => (pv 4))))
      (pss_cons (ps_setLc (i := 6) rfl nd rfl rfl (sw_true rfl rfl rfl (by decide +kernel)) (pil K (pv 2)) (blkOk_by (own := [("old", 5)]) (N := NLeastDrawing) (sc := defScope sLeastDrawing) (by decide +kernel)) (fun _ _ _ _ _ => (pg_name (i := 5) nd rfl (by first | exact Or.inl rfl | exact Or.inr rfl))) (fun _ _ _ _ _ => pts_nil) (fun _ _ _ _ _ => (pe_lc rfl nd (pil K (pe_ix (ixl K) (pv 0) (pv 5) (fun _ _ => rfl))) (blkOk_by (own := [("held", 7)]) (by with_unfolding_all rfl)) (fun _ _ _ _ _ => (pg_name (i := 7) nd rfl (by first | exact Or.inl rfl | exact Or.inr rfl))) (fun _ _ _ _ _ => pts_nil) (fun _ _ _ _ _ => (pe_dget (Nat.lt_of_le_of_lt (Nat.add_le_add_left (by decide) _) hr.units) (pv 3) (pv 7) (fun _ _ => rfl))))))
      (pss_cons (ps_set (i := 8) nd rfl (by first | exact Or.inl rfl | exact Or.inr rfl) (pe_fn Clikeness_of hr rfl (pa_cons (pv 6) pa_nil)))
      (pss_cons (ps_set (i := 9) nd rfl (by first | exact Or.inl rfl | exact Or.inr rfl) (pe_lst pa_nil))
      (pss_cons (ps_for PassesOwn.never rfl (pi_range1 rfl T.f_range (pa_cons (pe_op op_add (pe_callB (cmax K) rfl T.f_max (by decide +kernel) (pa_cons (pv 8) pa_nil)) pe_int) pa_nil)) (pg_name (i := 10) nd rfl (by first | exact Or.inl rfl | exact Or.inr rfl)) (pss_cons (ps_set (i := 11) nd rfl (by first | exact Or.inl rfl | exact Or.inr rfl) (pe_ix (ixl K) (pv 6) (pbm K PySem.F.plainAttrs_list PySem.F.slot_list_index PySem.F.type_list_index (mindex K) (pv 8) (pa_cons (pv 10) pa_nil)) (fun _ _ => rfl)))
      (pss_one (ps_expr (pbm K PySem.F.plainAttrs_list PySem.F.slot_list_append PySem.F.type_list_append mt_append (pv 9) (pa_cons (pe_callTy (clist K) rfl T.f_list (by decide +kernel) (pa_cons (pe_fn Cnumbers_held hr rfl (pa_cons (pv 11) (pa_cons (pv 8) pa_nil))) pa_nil)) pa_nil))))))
      (pss_one (ps_ret (pe_tup (pa_cons (pv 9) (pa_cons (pe_ix (ixl K) (pv 8) (pe_dget (Nat.lt_of_le_of_lt (Nat.add_le_add_left (by decide) _) hr.units) (pv 3) (pv 1) (fun _ _ => rfl)) (fun _ _ => rfl)) pa_nil))))))))))), ?_⟩
    -- places
    refine q_asg (P := fun H1 v => ∃ L : List Nat, rL rN M H1 v L ∧ L.Pairwise (· < ·) ∧ ∀ x, x ∈ L ↔ Reach D p x) (ev_call (ea_2r (r := rD) (q := rN) (M := M) (ev_var rfl h1) (ev_var rfl rfl)) ?_) fun v3 H1 s1 ⟨L, h3, ha, hL⟩ => ?_
    · rintro H1 vs s1 ⟨w1, w2, rfl, q1, q2⟩ Q k
      exact ⟨M, w1, w2, D, p, rfl, d.same s1, q1, q2, hD, hp, by omega, fun v H2 L s2 hv e1 e2 => k v H2 s2 ⟨L, hv, e1, e2⟩⟩
    have hLlt : ∀ x ∈ L, x < D.length := fun x hx => ((hL x).mp hx).lt hD hp
    have hLlen : L.length ≤ D.length := asc_len ha hLlt
    have hLnd : L.Nodup := ha.imp fun q => Nat.ne_of_lt q
    have hpL : p ∈ L := (hL p).mpr .refl
    have getL : ∀ y ∈ L, L[L.idxOf y]? = some y := fun y hy => by
      have h := List.idxOf_lt_length_iff.mpr hy
      rw [List.getElem?_eq_getElem h, List.getElem_idxOf]
    have d1 := d.same s1
    -- index
    refine q_asg (P := indexP H1 L) (ev_dcN d1 hLnd (ev_var rfl h3) (by omega) (fun _ _ => rfl) (fun _ _ => rfl) (fun _ _ => rfl)) fun v4 H2 s2 h4 => ?_
    have s12 := s1.trans s2
    have d2 := d.same s12
    have hrow : ∀ x, (rowOf D x).length < 64 := fun x => Nat.lt_of_le_of_lt (asc_len (hD.asc x) fun y hy => (hD.lt hy).1) hz
    -- own
    refine q_asg (P := as rD M (part D L)) (ev_lcM (r := rN) (q := rL rN) d2 (fun old => (rowOf D old).map fun x => L.idxOf x) (ev_var rfl (Rep.same s2 h3)) (by omega) (fun _ => rfl) fun M' H3 v old up ho rv => ?_) fun v5 H3 s3 h5 => ?_
    · refine ev_lcM (r := rN) (q := rN) up.old (fun x => L.idxOf x) (ev_ixL (n := old) (ev_var rfl (up.lift (Rep.same s12 h1))) (ev_var rfl rv) (rowOf_get (hLlt _ ho))) (by have := hrow old; omega) (fun _ => rfl) fun M'' H4 v x up2 hx rv2 => ?_
      have hxL : x ∈ L := (hL x).mpr (.step ((hL old).mp ho) hx)
      exact ev_dget (xs := L) (getL x hxL) (ev_varP rfl fun H5 s5 => ⟨H1, indexP.same ((up.same.trans up2.same).trans s5) h4⟩) (ev_var rfl rv2)
    have gO := part_good hD ha hL
    have s13 := s12.trans s3
    have d3 := d.same s13
    have hLpos : 0 < L.length := List.length_pos_iff.mpr (List.ne_nil_of_mem hpL)
    -- numbers
    refine q_asg (P := fun H1 v => ∃ N : List Nat, rL rN M H1 v N ∧ Lk (part D L) N) (ev_call (ea_1 (ev_var (r := rD) rfl h5)) ?_) fun v6 H4 s4 ⟨N, h6, lk⟩ => ?_
    · rintro H4 vs s4 ⟨w1, rfl, q1⟩ Q k
      exact ⟨M, w1, part D L, rfl, d3.same s4, q1, gO, by rw [part_len]; exact hLpos, by rw [part_len]; omega, fun v H5 N s5 hv hl => k v H5 s5 ⟨N, hv, hl⟩⟩
    have hNlen : N.length = L.length := by rw [lk.len, part_len]
    have hne : N ≠ [] := by intro z; rw [z] at hNlen; simp at hNlen; omega
    refine q_new fun a na => ?_
    have s14 := s13.trans s4
    have sA : Same H4 (upd H4 a (.lst [])) := Same.new (Same.refl _) na
    have sHA := s14.trans sA
    have nH : H a = none := s14.free na
    have dA : Old (a :: M) (upd H4 a (.lst [])) := (d.same sHA).cons upd_same
    have h6A : rL rN (a :: M) (upd H4 a (.lst [])) v6 N := Rep.same sA (Rep.new na h6)
    have h5A : rD (a :: M) (upd H4 a (.lst [])) v5 (part D L) := Rep.same sA (Rep.new na (Rep.same s4 h5))
    refine q_forR1 (n := tops N) (M := M) (ev_addN (ev_max hne (ev_var rfl (Rep.sub (fun x hx => List.mem_cons_of_mem _ hx) h6A))) ev_nat) (by have := top_leL lk; rw [part_len] at this; omega) fun H5 s5 => ?_
    refine ⟨fun i σ' H' => ∃ (c7 c10 c11 : Option V) (vs : List V), σ' = [some v1, some (.int (p : Int)), some v3, some v4, none, none, some v5, c7, some v6, some (.ref a), c10, c11] ∧ Kp [a] H5 H' ∧ H' a = some (.lst vs) ∧ vs.length = i ∧ F2 (rL rN (a :: M) H') vs ((List.range i).map fun m => heldN N (rowOf (part D L) (N.idxOf m))),
      ⟨none, none, none, [], rfl, Kp.refl _ _, s5 _ _ upd_same, rfl, .nil⟩, ?_, ?_⟩
    · rintro m σ' H6 hm ⟨c7, c10, c11, vs, rfl, k6, g6, hlen, f6⟩
      rw [Nat.zero_add] at hm ⊢
      have dA6 : Old (a :: M) H6 := fun b hb => by
        rcases List.mem_cons.mp hb with e | hb
        · subst e; exact ⟨_, g6⟩
        · obtain ⟨o, e⟩ := (dA.same s5) b (List.mem_cons_of_mem _ hb)
          by_cases q : b = a
          · subst q; exact ⟨_, g6⟩
          · exact ⟨o, k6 b o (by simpa using q) e⟩
      have kA : Kp (a :: M) H5 H6 := k6.sub (by simp)
      have h66 : rL rN (a :: M) H6 v6 N := Rep.mono kA (Rep.same s5 h6A)
      have h56 : rD (a :: M) H6 v5 (part D L) := Rep.mono kA (Rep.same s5 h5A)
      obtain ⟨i1, i2⟩ := idx_nb lk hm
      have hmN : m ∈ N := by
        obtain ⟨j, hj, e⟩ := lk.onto m hm
        have hjl : j < N.length := by rw [lk.len]; exact hj
        rw [← e, show nb N j = N[j] from getD_lt hjl]
        exact List.getElem_mem hjl
      refine q_asg (P := as (rL rN) (a :: M) (rowOf (part D L) (N.idxOf m))) (ev_ixL (n := N.idxOf m) (ev_var rfl h56) (ev_index hmN (ev_var rfl h66) (ev_var rfl rfl)) (rowOf_get i1)) fun v11 H7 s7 h11 => ?_
      refine s_app (P := as (rL rN) (a :: M) (heldN N (rowOf (part D L) (N.idxOf m)))) (ev_ref rfl) (s7 _ _ g6) (ev_listT (dA6.same s7) (ev_call (ea_2r (r := rL rN) (q := rL rN) (M := a :: M) (ev_var rfl h11) (ev_var rfl (Rep.same s7 h66))) ?_)) (by have := top_leL lk; rw [part_len] at this; omega) fun v8 H8 s8 h8 => ?_
      · rintro H8 vs s8 ⟨w1, w2, rfl, q1, q2⟩ Q k
        refine ⟨a :: M, w1, w2, _, N, rfl, (dA6.same s7).same s8, q1, q2, fun x hx => by rw [lk.len]; exact (gO.lt hx).1, ?_, fun v H9 s9 hv => k v H9 s9 hv⟩
        refine Nat.lt_of_le_of_lt (asc_len (gO.asc _) fun y hy => (gO.lt hy).1) ?_
        rw [part_len]
        omega
      · have s78 := s7.trans s8
        have km : Kp (a :: M) H6 (upd H8 a (.lst (vs ++ [v8]))) := (Kp.of s78).mut (by simp)
        have km2 : Kp (a :: M) H8 (upd H8 a (.lst (vs ++ [v8]))) := (Kp.refl _ _).mut (by simp)
        refine ⟨_, _, _, vs ++ [v8], rfl, (k6.trans (Kp.of s78)).mut (by simp), upd_same, by simp [hlen], ?_⟩
        rw [List.range_succ, List.map_append]
        exact (F2.mono km f6).snoc (Rep.mono km2 h8)
    · rintro σ' H6 ⟨c7, c10, c11, vs, rfl, k6, g6, hlen, f6⟩
      rw [Nat.sub_zero] at hlen f6
      have kA : Kp (a :: M) H5 H6 := k6.sub (by simp)
      have sH6 : Same H H6 := Same.kp (sHA.trans s5) k6 (by simp [nH])
      have dM6 : Old M H6 := d.same sH6
      have h66 : rL rN M H6 v6 N := Rep.sub (fun x hx => List.mem_cons_of_mem _ hx) (Rep.mono kA (Rep.same s5 h6A))
      have h46 : indexP H1 L H6 v4 := by
        obtain ⟨Dd, kvs, e, n, g, hk⟩ := h4
        have g5 : H5 Dd = some (.dK kvs) := s5 _ _ (sA _ _ (s4 _ _ (s3 _ _ g)))
        have ne : Dd ∉ [a] := by
          intro q
          have q : Dd = a := by simpa using q
          subst q
          have := s4 _ _ (s3 _ _ g)
          rw [na] at this
          cases this
        exact ⟨Dd, kvs, e, n, k6 _ _ ne g5, hk⟩
      have hRows : rD M H6 (.ref a) (leastR (part D L) N) := rL.own g6 ((d.same s14).fresh na) f6
      have hip := List.idxOf_lt_length_iff.mpr hpL
      refine s_ret (P := as (rP rD rN) M (leastR (part D L) N, nb N (L.idxOf p))) (ev_tup2 dM6 (ev_var rfl hRows) (ev_ixL (n := L.idxOf p) (ev_var rfl h66) (ev_dget (xs := L) (getL p hpL) (ev_varP rfl fun H7 s7 => ⟨H1, indexP.same s7 h46⟩) (ev_var (r := rN) rfl rfl)) ?_)) fun v H7 s7 hv => k v H7 _ _ (sH6.trans s7) hv (least_of hD ha hL hp lk)
      have hlt : L.idxOf p < N.length := by rw [hNlen]; exact hip
      rw [List.getElem?_eq_getElem hlt, show nb N (L.idxOf p) = N[L.idxOf p] from getD_lt hlt]
end
end K80

namespace Rp
open PySem PySem.Spec PyProof.Rows L2
theorem SqL.same {K : PySem.W.Frag} {H H' : Hp} {a : Addr} {xs : List V} (h : SqL K H a xs) (s : Same H H') : SqL K H' a xs := by
  rcases h with (h | ⟨o, h⟩) | h
  · exact .inl (.inl (s _ _ h))
  · exact .inl (.inr ⟨o, s _ _ h⟩)
  · exact .inr h
section
variable {K : PySem.W.Frag} {σ : L2.St} {H H' : Hp} {M : List Addr} {ta tb te tl : TE} {P P' : Pr} {v : V} {i j : Nat}
theorem ev_abs {i : Int} (ha : Ev ta σ H (as rI M i)) : Ev (tCB (fun xs H Q => ∃ i, xs = [V.int i] ∧ Q (.int (if i < 0 then -i else i)) H) (tCons ta tNil)) σ H (as rI M (if i < 0 then -i else i)) :=
  ev_cb1 ha fun H1 v s e Q k => by
    obtain rfl : v = _ := e
    exact ⟨i, rfl, k _ H1 (Same.refl _) rfl⟩
theorem ev_int1 {i : Int} (ha : Ev ta σ H (as rI M i)) : Ev (tCB (fun xs H Q => (∃ i, xs = [V.int i] ∧ Q (.int i) H) ∨ ∃ k, xs = [V.bl k] ∧ Q (.int (if k then 1 else 0)) H) (tCons ta tNil)) σ H (as rI M i) :=
  ev_cb1 ha fun H1 v s e Q k => by
    obtain rfl : v = _ := e
    exact .inl ⟨i, rfl, k _ H1 (Same.refl _) rfl⟩
theorem ev_addI {i j : Int} (ha : Ev ta σ H (as rI M i)) (hb : Ev tb σ H (as rI M j)) : Ev (tOp (rI0 fun i j => .int (i + j)) ta tb) σ H (as rI M (i + j)) := ev_I0 ha hb
theorem ev_subI {i j : Int} (ha : Ev ta σ H (as rI M i)) (hb : Ev tb σ H (as rI M j)) : Ev (tOp (rI0 fun i j => .int (i - j)) ta tb) σ H (as rI M (i - j)) := ev_I0 ha hb
theorem ev_mulI {i j : Int} (ha : Ev ta σ H (as rI M i)) (hb : Ev tb σ H (as rI M j)) (hc : CMul i j) : Ev (tOp (L2.rI CMul fun i j => .int (i * j)) ta tb) σ H (as rI M (i * j)) := ev_IC ha hb hc
theorem ev_modI {i j : Int} (ha : Ev ta σ H (as rI M i)) (hb : Ev tb σ H (as rI M j)) (hc : 0 < j) : Ev (tOp (L2.rI (fun _ j => 0 < j) fun i j => .int (i % j)) ta tb) σ H (as rI M (i % j)) := ev_IC ha hb hc
theorem ev_divI {i j : Int} (ha : Ev ta σ H (as rI M i)) (hb : Ev tb σ H (as rI M j)) (hc : CDiv i j) : Ev (tOp (L2.rI CDiv fun i j => .int (i / j)) ta tb) σ H (as rI M (i / j)) := ev_IC ha hb hc
theorem ev_geI {i j : Int} (ha : Ev ta σ H (as rI M i)) (hb : Ev tb σ H (as rI M j)) : Ev (tOp (rI0 fun i j => .bl (decide (j ≤ i))) ta tb) σ H (as rB M (decide (j ≤ i))) := ev_I0 (g := fun i j => .bl (decide (j ≤ i))) ha hb
theorem ev_eqI {m n : Int} (ha : Ev ta σ H (as rI M m)) (hb : Ev tb σ H (as rI M n)) : Ev (tOp rEq ta tb) σ H (as rB M (decide (m = n))) :=
  ev_op2 ha hb fun H1 a b _ e1 e2 Q k => by
    obtain rfl : a = _ := e1
    obtain rfl : b = _ := e2
    exact ⟨rfl, k _ H1 (Same.refl _) (by show V.bl _ = V.bl _; congr 1; rw [decide_eq_decide, V.int.injEq])⟩
end
end Rp
namespace K80
open PySem PySem.Spec PyProof.Rows L2 Rp
/-- the state of the draws at p -/
def DS (p g : Addr) (H : Hp) : Prop := p ≠ g ∧ ∃ (gs : List Int) (a : Nat) (m c : Int), H p = some (.lst [.ref g, .int (a : Int), .int m, .int c]) ∧ H g = some (.lst (gs.map V.int))
theorem DS.kp {p g : Addr} {H H' : Hp} {L : List Addr} (h : DS p g H) (k : Kp L H H') (h1 : p ∉ L) (h2 : g ∉ L) : DS p g H' := by
  obtain ⟨ne, gs, a, m, c, e1, e2⟩ := h
  exact ⟨ne, gs, a, m, c, k _ _ h1 e1, k _ _ h2 e2⟩
theorem DS.same {p g : Addr} {H H' : Hp} (h : DS p g H) (s : Same H H') : DS p g H' := h.kp (L := []) (Kp.of s) (by simp) (by simp)
def spStart (K : PySem.W.Frag) : Sp := fun vs H Q _ => ∃ (a : Addr) (ns : List Int), vs = [.ref a] ∧ SqL K H a (ns.map V.int) ∧ ns.length ≤ 1000 ∧ ∀ p g H2, Same H H2 → H p = none → H g = none → DS p g H2 → Q (.ref p) H2
def spDraw : Sp := fun vs H Q _ => ∃ (p g : Addr) (many : Nat), vs = [.ref p, .int (many : Int)] ∧ DS p g H ∧ 0 < many ∧ many ≤ 1000 ∧ ∀ (r : Nat) H2, r < many → Kp [p, g] H H2 → DS p g H2 → Q (.int (r : Int)) H2
section
variable {P : Program} {w : World} {K : PySem.W.Frag} {mg : Str → Option Value} {base : Heap}
abbrev NLawStart : List Str := ["script", "great", "mixed", "cell"]
theorem scLawStart : FnScope NLawStart ["script"] (defScope sLawStart) := ⟨rfl, rfl, rfl, by decide +kernel, rfl, by decide +kernel, by decide +kernel⟩
theorem ok_start {f : Addr} {fd : FuncData} (F : FD K "_law_start" sLawStart f fd) (T : Tx K mg) : FnOk P w K mg base CX0 1 f fd ["script"] (spStart K) := by
  refine F.ok scLawStart (fun vs H Q E h => ?_) (fun cdv A outer s H vs Q E hr h => ?_)
  · obtain ⟨_, _, rfl, _⟩ := h
    rfl
  · obtain ⟨a, ns, rfl, h1, hz, k⟩ := h
    have nd := scLawStart.nd
    refine ⟨_, PSs.nox (pss_cons (ps_set (i := 1) nd rfl (by first | exact Or.inl rfl | exact Or.inr rfl) (pe_lst pa_nil))
      (pss_cons (ps_set (i := 2) nd rfl (by first | exact Or.inl rfl | exact Or.inr rfl) pe_int)
      (pss_cons (ps_for PassesOwn.never rfl (pil K (pv 0)) (pg_name (i := 3) nd rfl (by first | exact Or.inl rfl | exact Or.inr rfl)) (pss_cons (ps_if (pt_cmpR op_ge (pe_callB call_abs rfl T.f_abs (by decide +kernel) (pa_cons (pv 3) pa_nil)) (pe_op op_pow pe_int pe_int) (nomark _)) (pss_one (ps_expr (pbm K PySem.F.plainAttrs_list PySem.F.slot_list_append PySem.F.type_list_append mt_append (pv 1) (pa_cons (pe_callB call_abs rfl T.f_abs (by decide +kernel) (pa_cons (pv 3) pa_nil)) pa_nil)))) pss_nil)
      (pss_one (ps_set (i := 2) nd rfl (by first | exact Or.inl rfl | exact Or.inr rfl) (pe_op op_mod (pe_callTy call_int1 rfl T.f_int (by decide +kernel) (pa_cons (pe_op op_add (pe_op op_add (pe_op op_mul (pv 2) pe_int) (pe_callB call_abs rfl T.f_abs (by decide +kernel) (pa_cons (pv 3) pa_nil))) pe_int) pa_nil)) pe_int)))))
      (pss_one (ps_ret (pe_lst (pa_cons (pv 1) (pa_cons pe_int (pa_cons (pv 2) (pa_cons pe_int pa_nil)))))))))), ?_⟩
    refine q_new fun g ng => ?_
    have sg : Same H (upd H g (.lst [])) := Same.new (Same.refl _) ng
    refine q_asg (P := as rI [] 1) ev_int fun v H1 s1 e => ?_
    obtain rfl : v = .int 1 := e
    have h11 : SqL K H1 a (ns.map V.int) := SqL.same h1 (sg.trans s1)
    have hS : ∀ H', Kp [g] H1 H' → Same H H' := fun H' k1 => Same.kp (sg.trans s1) k1 (by simp [ng])
    refine ⟨_, rfl, a, rfl, ⟨_, h11⟩, ?_⟩
    refine for_list (xs := ns.map V.int) (fun i σ' H' => ∃ (gs : List Int) (m : Int) (c3 : Option V), σ' = [some (.ref a), some (.ref g), some (.int m), c3] ∧ Kp [g] H1 H' ∧ H' g = some (.lst (gs.map V.int)) ∧ gs.length ≤ i) ⟨[], 1, none, rfl, Kp.refl _ _, s1 _ _ upd_same, Nat.le_refl _⟩ (fun i σ' H' _ ⟨_, _, _, _, k1, _⟩ => SqL.same h1 (hS H' k1)) (fun i x σ' H' hx ⟨gs, m, c3, e, k1, g1, hl⟩ => ?_) (fun σ' H' ⟨gs, m, c3, e, k1, g1, hl⟩ => ?_)
    · subst e
      rw [List.getElem?_map] at hx
      obtain ⟨n, hn, rfl⟩ := Option.map_eq_some_iff.mp hx
      have hil : i < ns.length := (List.getElem?_eq_some_iff.mp hn).1
      refine q_when (b := decide ((10 : Int) ^ 18 ≤ if n < 0 then -n else n)) (et_val (M := []) (ev_geI (ev_abs (ev_var (r := rI) rfl rfl)) (ev_IC (C := CPow) (g := fun i j => .int (i ^ j.toNat)) (i := 10) (j := 18) (M := []) ev_int ev_int ⟨by decide, by decide, by decide⟩))) (fun hb H2 s2 => ?_) (fun hb H2 s2 => ?_)
      · refine s_app (P := as rI [] (if n < 0 then -n else n)) (ev_ref rfl) (s2 _ _ g1) (ev_abs (ev_var (r := rI) rfl rfl)) (by rw [List.length_map]; omega) fun v H3 s3 e => ?_
        obtain rfl : v = .int (if n < 0 then -n else n) := e
        refine s_asg (P := as rI [] ((m * 1103515245 + (if n < 0 then -n else n) + 12345) % 2147483647)) (ev_modI (ev_int1 (ev_addI (ev_addI (ev_mulI (ev_var (r := rI) rfl rfl) ev_int (.inr (by decide))) (ev_abs (ev_var (r := rI) rfl rfl))) ev_int)) ev_int (by decide)) fun v H4 s4 e => ?_
        obtain rfl : v = .int _ := e
        exact ⟨gs ++ [if n < 0 then -n else n], _, _, rfl, ((k1.trans (Kp.of (s2.trans s3))).mut (by simp)).trans (Kp.of s4), by rw [s4 _ _ upd_same]; simp, by simp; omega⟩
      · refine s_asg (P := as rI [] ((m * 1103515245 + (if n < 0 then -n else n) + 12345) % 2147483647)) (ev_modI (ev_int1 (ev_addI (ev_addI (ev_mulI (ev_var (r := rI) rfl rfl) ev_int (.inr (by decide))) (ev_abs (ev_var (r := rI) rfl rfl))) ev_int)) ev_int (by decide)) fun v H4 s4 e => ?_
        obtain rfl : v = .int _ := e
        exact ⟨gs, _, _, rfl, (k1.trans (Kp.of s2)).trans (Kp.of s4), (s2.trans s4) _ _ g1, by omega⟩
    · subst e
      have hea : EvA (tCons (tVar 1) (tCons (tC (.int 0)) (tCons (tVar 2) (tCons (tC (.int 0)) tNil)))) [some (.ref a), some (.ref g), some (.int m), c3] H' (fun _ vs => vs = [.ref g, .int 0, .int m, .int 0]) := fun H2 s2 Q kk => ⟨_, rfl, _, rfl, kk _ H2 (Same.refl _) rfl⟩
      show tCons (tVar 1) (tCons (tC (.int 0)) (tCons (tVar 2) (tCons (tC (.int 0)) tNil))) [some (.ref a), some (.ref g), some (.int m), c3] H' fun vs H1 => vs.length ≤ sizeLine ∧ ∀ l, H1 l = none → Q (.ref l) (upd H1 l (.lst vs))
      refine hea H' (Same.refl _) _ fun vs H2 s2 e => ?_
      subst e
      · refine ⟨by show 4 ≤ sizeLine; decide, fun p hp => ?_⟩
        have sH := (hS H' k1).trans s2
        have npg : p ≠ g := fun q => by subst q; rw [s2 _ _ g1] at hp; cases hp
        exact k p g _ (Same.new sH hp) (sH.free hp) ng ⟨npg, gs, 0, m, 0, upd_same, by rw [upd_ne npg.symm]; exact s2 _ _ g1⟩
abbrev NLawDraw : List Str := ["state", "many", "rest", "one", "two", "three"]
theorem scLawDraw : FnScope NLawDraw ["state", "many"] (defScope sLawDraw) := ⟨rfl, rfl, rfl, by decide +kernel, rfl, by decide +kernel, by decide +kernel⟩
theorem ok_draw {f : Addr} {fd : FuncData} (F : FD K "_law_draw" sLawDraw f fd) (T : Tx K mg) : FnOk P w K mg base CX0 1 f fd ["state", "many"] spDraw := by
  refine F.ok scLawDraw (fun vs H Q E h => ?_) (fun cdv A outer s H vs Q E hr h => ?_)
  · obtain ⟨_, _, _, rfl, _⟩ := h
    rfl
  · obtain ⟨p, g, many, rfl, ds, h0, h1, k⟩ := h
    have nd := scLawDraw.nd
    refine ⟨_, PSs.nox (pss_cons (ps_if (pt_cmpR op_lt (pe_ix (ixl K) (pv 0) pe_int (fun _ _ => rfl)) (pe_callB (clen K) rfl T.f_len boot_len (pa_cons (pe_ix (ixl K) (pv 0) pe_int (fun _ _ => rfl)) pa_nil)) (nomark _)) (pss_cons (ps_set (i := 2) nd rfl (by first | exact Or.inl rfl | exact Or.inr rfl) (pe_ix (ixl K) (pe_ix (ixl K) (pv 0) pe_int (fun _ _ => rfl)) (pe_ix (ixl K) (pv 0) pe_int (fun _ _ => rfl)) (fun _ _ => rfl)))
      (pss_cons (ps_asg (pe_op op_fdiv (pv 2) (pv 1)) (pg_sub (pe_ix (ixl K) (pv 0) pe_int (fun _ _ => rfl)) (pe_ix (ixl K) (pv 0) pe_int (fun _ _ => rfl)) set_list))
      (pss_cons (ps_if (pt_cmpR op_eq (pe_op op_fdiv (pv 2) (pv 1)) pe_int (nomark _)) (pss_one (ps_asg (pe_op op_add (pe_ix (ixl K) (pv 0) pe_int (fun _ _ => rfl)) pe_int) (pg_sub (pv 0) pe_int set_list))) pss_nil)
      (pss_one (ps_ret (pe_op op_mod (pe_callTy call_int1 rfl T.f_int (by decide +kernel) (pa_cons (pv 2) pa_nil)) (pv 1))))))) pss_nil)
      (pss_cons (ps_asg (pe_op op_add (pe_ix (ixl K) (pv 0) pe_int (fun _ _ => rfl)) pe_int) (pg_sub (pv 0) pe_int set_list))
      (pss_cons (ps_set (i := 3) nd rfl (by first | exact Or.inl rfl | exact Or.inr rfl) (pe_op op_mod (pe_callTy call_int1 rfl T.f_int (by decide +kernel) (pa_cons (pe_op op_add (pe_ix (ixl K) (pv 0) pe_int (fun _ _ => rfl)) (pe_op op_mul (pe_ix (ixl K) (pv 0) pe_int (fun _ _ => rfl)) pe_int)) pa_nil)) pe_int))
      (pss_cons (ps_set (i := 4) nd rfl (by first | exact Or.inl rfl | exact Or.inr rfl) (pe_op op_mod (pe_callTy call_int1 rfl T.f_int (by decide +kernel) (pa_cons (pe_op op_add (pe_op op_mul (pv 3) (pv 3)) (pe_op op_mul (pe_ix (ixl K) (pv 0) pe_int (fun _ _ => rfl)) pe_int)) pa_nil)) pe_int))
      (pss_cons (ps_set (i := 5) nd rfl (by first | exact Or.inl rfl | exact Or.inr rfl) (pe_op op_mod (pe_callTy call_int1 rfl T.f_int (by decide +kernel) (pa_cons (pe_op op_add (pe_op op_mul (pv 4) (pv 4)) (pv 3)) pa_nil)) pe_int))
      (pss_one (ps_ret (pe_op op_mod (pe_callTy call_int1 rfl T.f_int (by decide +kernel) (pa_cons (pe_op op_fdiv (pv 5) pe_int) pa_nil)) (pv 1))))))))), ?_⟩
    obtain ⟨ne, gs, a, m, c, e1, e2⟩ := ds
    have hm : CDiv (0 : Int) (many : Int) := ⟨by omega, by omega⟩
    refine q_when (b := decide (a < gs.length)) (et_val (M := []) (ev_ltN (M := []) (ev_ixO (M := []) (n := 1) (v := .int (a : Int)) (ev_ref rfl) e1 ev_nat rfl) ((ev_lenO (M := []) (ev_ixO (M := []) (n := 0) (v := .ref g) (ev_ref rfl) e1 ev_nat rfl) e2).to (by rw [List.length_map])))) (fun hb H1 s1 => ?_) (fun hb H1 s1 => ?_)
    · have hlt : a < gs.length := by simpa using hb
      have hx : (gs.map V.int)[a]? = some (.int gs[a]) := by simp [hlt]
      generalize gs[a] = r at hx
      refine q_asg (P := fun _ w => w = .int r) (ev_ixO (M := []) (n := a) (ev_ixO (M := []) (n := 0) (v := .ref g) (ev_ref rfl) (s1 _ _ e1) ev_nat rfl) (s1 _ _ e2) (ev_ixO (M := []) (n := 1) (v := .int (a : Int)) (ev_ref rfl) (s1 _ _ e1) ev_nat rfl) hx) fun v H2 s2 e => ?_
      subst e
      have s12 := s1.trans s2
      refine q_setL (n := a) (M := []) (P := as rI [] (r / (many : Int))) (ev_divI (M := []) (ev_var (r := rI) rfl rfl) (ev_var (r := rI) rfl rfl) ⟨by omega, by omega⟩) (ev_ixO (M := []) (n := 0) (v := .ref g) (ev_ref rfl) (s12 _ _ e1) ev_nat rfl) (s12 _ _ e2) (ev_ixO (M := []) (n := 1) (v := .int (a : Int)) (ev_ref rfl) (s12 _ _ e1) ev_nat rfl) (by simpa using hlt) fun v H3 H4 s3 e s4 => ?_
      obtain rfl : v = .int (r / (many : Int)) := e
      have sA : Same H H4 := (s12.trans s3).trans s4
      have kA : Kp [p, g] H (upd H4 g (.lst ((gs.map V.int).set a (.int (r / (many : Int)))))) := (Kp.of sA).mut (by simp)
      have ep : (upd H4 g (.lst ((gs.map V.int).set a (.int (r / (many : Int)))))) p = some (.lst [.ref g, .int (a : Int), .int m, .int c]) := by rw [upd_ne ne]; exact sA _ _ e1
      have eg : (upd H4 g (.lst ((gs.map V.int).set a (.int (r / (many : Int)))))) g = some (.lst ((gs.set a (r / (many : Int))).map V.int)) := by rw [upd_same, List.map_set]
      have out : ∀ H5, Kp [p, g] H H5 → DS p g H5 → tRet (tOp (L2.rI (fun _ j => 0 < j) fun i j => .int (i % j)) (tCB (fun xs H Q => (∃ i, xs = [V.int i] ∧ Q (.int i) H) ∨ ∃ k, xs = [V.bl k] ∧ Q (.int (if k then 1 else 0)) H) (tCons (tVar 2) tNil)) (tVar 1)) { nx := fun _ H' => Q .non H', rt := Q } [some (.ref p), some (.int (many : Int)), some (.int r), none, none, none] H5 := fun H5 k5 d5 => by
        refine s_ret (P := as rI [] (r % (many : Int))) (ev_modI (ev_int1 (ev_var (r := rI) rfl rfl)) (ev_var (r := rI) rfl rfl) (by omega)) fun v H6 s6 e => ?_
        obtain rfl : v = .int (r % (many : Int)) := e
        have h1 := Int.emod_nonneg r (show (many : Int) ≠ 0 by omega)
        have h2 := Int.emod_lt_of_pos r (show (0 : Int) < many by omega)
        have h3 : r % (many : Int) = ((r % (many : Int)).toNat : Int) := by omega
        show Q (.int (r % (many : Int))) H6
        rw [h3]
        exact k _ H6 (by omega) (k5.trans (Kp.of s6)) (d5.same s6)
      refine q_when (b := decide (r / (many : Int) = 0)) (et_val (M := []) (ev_eqI (ev_divI (M := []) (ev_var (r := rI) rfl rfl) (ev_var (r := rI) rfl rfl) ⟨by omega, by omega⟩) ev_int)) (fun hb H5 s5 => ?_) (fun hb H5 s5 => ?_)
      · refine s_setL (n := 1) (M := []) (P := as rN [] (a + 1)) (ev_addN (ev_ixO (M := []) (n := 1) (v := .int (a : Int)) (ev_ref rfl) (s5 _ _ ep) ev_nat rfl) ev_nat) (ev_ref rfl) (s5 _ _ ep) ev_nat (by show 1 < 4; decide) fun v H6 H7 s6 e s7 => ?_
        obtain rfl : v = .int ((a + 1 : Nat) : Int) := e
        refine out _ ((kA.trans (Kp.of (s5.trans (s6.trans s7)))).mut (by simp)) ⟨ne, gs.set a (r / (many : Int)), a + 1, m, c, upd_same, ?_⟩
        rw [upd_ne ne.symm]
        exact (s5.trans (s6.trans s7)) _ _ eg
      · exact out _ (kA.trans (Kp.of s5)) ⟨ne, gs.set a (r / (many : Int)), a, m, c, s5 _ _ ep, s5 _ _ eg⟩
    · refine q_setL (n := 3) (M := []) (P := as rI [] (c + 1)) (ev_addI (ev_ixO (M := []) (n := 3) (v := .int c) (ev_ref rfl) (s1 _ _ e1) ev_nat rfl) ev_int) (ev_ref rfl) (s1 _ _ e1) ev_nat (by show 3 < 4; decide) fun v H2 H3 s2 e s3 => ?_
      obtain rfl : v = .int (c + 1) := e
      have sA : Same H H3 := (s1.trans s2).trans s3
      have ep : (upd H3 p (.lst [.ref g, .int (a : Int), .int m, .int (c + 1)])) p = some (.lst [.ref g, .int (a : Int), .int m, .int (c + 1)]) := upd_same
      have eg : (upd H3 p (.lst [.ref g, .int (a : Int), .int m, .int (c + 1)])) g = some (.lst (gs.map V.int)) := by rw [upd_ne ne.symm]; exact sA _ _ e2
      have kA : Kp [p, g] H (upd H3 p (.lst [.ref g, .int (a : Int), .int m, .int (c + 1)])) := (Kp.of sA).mut (by simp)
      refine q_asg (P := as rI [] ((m + (c + 1) * 7368787) % 2147483647)) (ev_modI (ev_int1 (ev_addI (ev_ixO (M := []) (n := 2) (v := .int m) (ev_ref rfl) ep ev_nat rfl) (ev_mulI (ev_ixO (M := []) (n := 3) (v := .int (c + 1)) (ev_ref rfl) ep ev_nat rfl) ev_int (.inr (by decide))))) ev_int (by decide)) fun v H4 s4 e => ?_
      obtain rfl : v = .int ((m + (c + 1) * 7368787) % 2147483647) := e
      have b1 := Int.emod_nonneg (m + (c + 1) * 7368787) (show (2147483647 : Int) ≠ 0 by decide)
      have b2 := Int.emod_lt_of_pos (m + (c + 1) * 7368787) (show (0 : Int) < 2147483647 by decide)
      generalize (m + (c + 1) * 7368787) % 2147483647 = one at b1 b2
      refine q_asg (P := as rI [] ((one * one + (c + 1) * 40503) % 1000000007)) (ev_modI (ev_int1 (ev_addI (ev_mulI (ev_var (r := rI) rfl rfl) (ev_var (r := rI) rfl rfl) (.inl ⟨by omega, by omega⟩)) (ev_mulI (ev_ixO (M := []) (n := 3) (v := .int (c + 1)) (ev_ref rfl) (s4 _ _ ep) ev_nat rfl) ev_int (.inr (by decide))))) ev_int (by decide)) fun v H5 s5 e => ?_
      obtain rfl : v = .int ((one * one + (c + 1) * 40503) % 1000000007) := e
      have b3 := Int.emod_nonneg (one * one + (c + 1) * 40503) (show (1000000007 : Int) ≠ 0 by decide)
      have b4 := Int.emod_lt_of_pos (one * one + (c + 1) * 40503) (show (0 : Int) < 1000000007 by decide)
      generalize (one * one + (c + 1) * 40503) % 1000000007 = two at b3 b4
      refine q_asg (P := as rI [] ((two * two + one) % 998244353)) (ev_modI (ev_int1 (ev_addI (ev_mulI (ev_var (r := rI) rfl rfl) (ev_var (r := rI) rfl rfl) (.inl ⟨by omega, by omega⟩)) (ev_var (r := rI) rfl rfl))) ev_int (by decide)) fun v H6 s6 e => ?_
      obtain rfl : v = .int ((two * two + one) % 998244353) := e
      generalize (two * two + one) % 998244353 = three
      refine s_ret (P := as rI [] (three / 11 % (many : Int))) (ev_modI (ev_int1 (ev_divI (ev_var (r := rI) rfl rfl) ev_int ⟨by decide, by decide⟩)) (ev_var (r := rI) rfl rfl) (by omega)) fun v H7 s7 e => ?_
      obtain rfl : v = .int (three / 11 % (many : Int)) := e
      have h1 := Int.emod_nonneg (three / 11) (show (many : Int) ≠ 0 by omega)
      have h2 := Int.emod_lt_of_pos (three / 11) (show (0 : Int) < many by omega)
      have h3 : three / 11 % (many : Int) = ((three / 11 % (many : Int)).toNat : Int) := by omega
      show Q (.int (three / 11 % (many : Int))) H7
      rw [h3]
      have s47 := ((s4.trans s5).trans s6).trans s7
      exact k _ H7 (by omega) (kA.trans (Kp.of s47)) ⟨ne, gs, a, m, c + 1, s47 _ _ ep, s47 _ _ eg⟩
end
end K80

namespace K80
open PySem PySem.Spec PyProof.Rows L2 Rp
/-- an expression that may draw: only the state of the draws changes -/
abbrev EvS (p g : Addr) (te : TE) (σ : L2.St) (H : Hp) (P : Pr) : Prop := DS p g H → ∀ Q : VK, (∀ v H2, Kp [p, g] H H2 → DS p g H2 → P H2 v → Q v H2) → te σ H Q
abbrev EvTS (p g : Addr) (tt : TT) (σ : L2.St) (H : Hp) : Prop := DS p g H → ∀ Q : Bool → Hp → Prop, (∀ b H2, Kp [p, g] H H2 → DS p g H2 → Q b H2) → tt σ H Q
theorem DS.out {p g a : Addr} {H : Hp} (d : DS p g H) (h : H a = none) : a ∉ [p, g] := by
  obtain ⟨_, gs, _, _, _, e1, e2⟩ := d
  intro q
  rcases List.mem_cons.mp q with e | q
  · subst e; rw [e1] at h; cases h
  · rw [List.mem_singleton.mp q, e2] at h; cases h
theorem DS.old {p g : Addr} {H : Hp} (d : DS p g H) : Old [p, g] H := by
  obtain ⟨_, gs, _, _, _, e1, e2⟩ := d
  intro a h
  rcases List.mem_cons.mp h with e | h
  · subst e; exact ⟨_, e1⟩
  · rw [List.mem_singleton.mp h]; exact ⟨_, e2⟩
/-- a thing made by the way stands beside the draws -/
theorem DS.mut {p g a : Addr} {o : HO} {H H' : Hp} (d : DS p g H') (n : a ∉ [p, g]) : DS p g (upd H' a o) := d.kp (L := [a]) ((Kp.refl _ _).mut (by simp)) (fun q => n (by rw [List.mem_singleton.mp q]; simp)) (fun q => n (by rw [List.mem_singleton.mp q]; simp))
section
variable {p g : Addr} {σ : L2.St} {H H' : Hp} {ta tb te tn : TE} {tt t u : TT} {P P' : Pr} {j k many n : Nat}
theorem es_of (h : Ev te σ H P) : EvS p g te σ H P := fun d Q q => h H (Same.refl _) Q fun v H2 s pv => q v H2 (Kp.of s) (d.same s) pv
abbrev drawP (lo many : Nat) : Pr := fun _ v => ∃ r : Nat, r < many ∧ v = nV (lo + r)
theorem es_draw (ha : Ev ta σ H (fun _ v => v = .ref p)) (hb : Ev tb σ H (as rN [] many)) (h0 : 0 < many) (h1 : many ≤ 1000) : EvS p g (tCall spDraw [] E0 (tCons ta (tCons tb tNil))) σ H (drawP 0 many) := fun d Q q =>
  ea_2 ha (fun _ _ _ _ z => z) hb H (Same.refl _) _ fun vs H1 s1 ⟨v, w, e, e1, e2⟩ => by
    subst e e1
    obtain rfl : w = .int ((many : Nat) : Int) := e2
    exact ⟨p, g, many, rfl, d.same s1, h0, h1, fun r H2 hr k2 d2 => q _ H2 ((Kp.of s1).trans k2) d2 ⟨r, hr, by rw [Nat.zero_add]⟩⟩
theorem es_add (h : EvS p g te σ H (drawP 0 many)) : EvS p g (tOp (rI0 fun i j => .int (i + j)) (tC (.int (k : Int))) te) σ H (drawP k many) := fun d Q q =>
  h d _ fun v H2 k2 d2 ⟨r, hr, e⟩ => by
    subst e
    refine ⟨(k : Int), ((0 + r : Nat) : Int), rfl, rfl, q _ H2 k2 d2 ⟨r, hr, ?_⟩⟩
    show V.int _ = V.int _
    congr 1
    omega
theorem ets_eq {lo : Nat} (h : EvS p g te σ H (drawP lo many)) : EvTS p g (tTest (tOp rEq te (tC (.int (k : Int))))) σ H := fun d Q q =>
  h d _ fun v H2 k2 d2 ⟨r, hr, e⟩ => by
    subst e
    exact ⟨rfl, _, rfl, q _ H2 k2 d2⟩
theorem ets_gt {lo : Nat} (h : EvS p g te σ H (drawP lo many)) : EvTS p g (tTest (tOp (rI0 fun i j => .bl (decide (j < i))) te (tC (.int (k : Int))))) σ H := fun d Q q =>
  h d _ fun v H2 k2 d2 ⟨r, hr, e⟩ => by
    subst e
    exact ⟨_, _, rfl, rfl, _, rfl, q _ H2 k2 d2⟩
theorem ets_of {b : Bool} (h : EvT tt σ H b) : EvTS p g tt σ H := fun d Q q => h H (Same.refl _) Q fun H2 s => q b H2 (Kp.of s) (d.same s)
theorem ets_and (h1 : EvTS p g t σ H) (h2 : ∀ H1, Kp [p, g] H H1 → DS p g H1 → EvTS p g u σ H1) : EvTS p g (tAnd t u) σ H := fun d Q q => h1 d _ fun b H1 k1 d1 => by
  cases b with
  | true => exact h2 H1 k1 d1 d1 Q fun b H2 k2 d2 => q b H2 (k1.trans k2) d2
  | false => exact q false H1 k1 d1
theorem ets_or (h1 : EvTS p g t σ H) (h2 : ∀ H1, Kp [p, g] H H1 → DS p g H1 → EvTS p g u σ H1) : EvTS p g (tOr t u) σ H := fun d Q q => h1 d _ fun b H1 k1 d1 => by
  cases b with
  | false => exact h2 H1 k1 d1 d1 Q fun b H2 k2 d2 => q b H2 (k1.trans k2) d2
  | true => exact q true H1 k1 d1
theorem q_asgS {D : Ends} {ts : TS} (h : EvS p g te σ H P) (d : DS p g H) (k : ∀ v H1, Kp [p, g] H H1 → DS p g H1 → P H1 v → ts D (σ.set j (some v)) H1) : tSeq (tAsg te (gName j)) ts D σ H := h d _ fun v H1 k1 d1 pv => k v H1 k1 d1 pv
theorem s_asgS {D : Ends} (h : EvS p g te σ H P) (d : DS p g H) (k : ∀ v H1, Kp [p, g] H H1 → DS p g H1 → P H1 v → D.nx (σ.set j (some v)) H1) : tAsg te (gName j) D σ H := h d _ fun v H1 k1 d1 pv => k v H1 k1 d1 pv
/-- a flat list just made, ascending, its numbers below n -/
abbrev flatS (H : Hp) (n : Nat) : Pr := fun H1 v => ∃ (b : Addr) (L : List Nat), v = .ref b ∧ H b = none ∧ H1 b = some (.lst (L.map nV)) ∧ L.Pairwise (· < ·) ∧ ∀ x ∈ L, x < n
/-- [k for k in range(n) if ..], the test draws -/
theorem es_lcT {vs : List Nat} (hn : Ev tn σ H (as rN [] n)) (hz : n ≤ 1000) (hw : ∀ x, wipe ((wipe σ vs).set j (some x)) vs = wipe σ vs) (hg : ∀ x, ((wipe σ vs).set j (some x))[j]? = some (some x))
    (ht : ∀ H1 i, i < n → EvTS p g tt ((wipe σ vs).set j (some (.int ((i : Nat) : Int)))) H1) : EvS p g (tLc (iRng1 (tCons tn tNil)) (gName j) tt (tVar j) vs) σ H (flatS H n) := fun d Q q =>
  hn H (Same.refl _) _ fun l H1 s1 e => by
    obtain rfl : l = _ := e
    have d1 := d.same s1
    refine ⟨(n : Int), rfl, by omega, by omega, fun Dl hD => ?_⟩
    have nD := d1.out hD
    refine lc_range (lo := 0) (n := ((n : Nat) : Int).toNat) (fun i H' => Kp [p, g] H1 H' ∧ DS p g H' ∧ ∃ L : List Nat, H' Dl = some (.lst (L.map nV)) ∧ L.length ≤ i ∧ L.Pairwise (· < ·) ∧ ∀ x ∈ L, x < i) ?_ (fun i H' hi c => ?_) (fun H' c => ?_)
    · exact ⟨(Kp.refl _ _).new hD, d1.mut nD (H := H1), [], upd_same, Nat.le_refl _, List.Pairwise.nil, by simp⟩
    · obtain ⟨kA, dA, L, gL, hl, pw, hb⟩ := c
      have hi' : i < n := by simpa using hi
      rw [Int.zero_add]
      refine ⟨hw _, ?_⟩
      refine ht H' i hi' dA _ fun b H2 k2 d2 => ?_
      cases b with
      | false =>
        rw [if_neg (by decide)]
        exact ⟨kA.trans k2, d2, L, k2 _ _ nD gL, by omega, pw, fun x hx => by have := hb x hx; omega⟩
      | true =>
        rw [if_pos rfl]
        refine ⟨_, hg _, L.map nV, k2 _ _ nD gL, Nat.lt_of_le_of_lt (show (L.map nV).length ≤ 1000 by rw [List.length_map]; omega) (by decide), fun c u n e => ?_, d2.mut nD (H := H1), L ++ [i], ?_, by simp; omega, ?_, fun x hx => ?_⟩
        · have z := (kA.trans k2) c u n e
          rw [upd_ne (ne_of_none e hD)]
          exact z
        · rw [upd_same]; simp
        · rw [List.pairwise_append]
          refine ⟨pw, by simp, fun x hx y hy => ?_⟩
          have h1 := hb x hx
          have h2 : y = i := by simpa using hy
          omega
        · rcases List.mem_append.mp hx with hx | hx
          · have := hb x hx; omega
          · have : x = i := by simpa using hx
            omega
    · rw [Int.toNat_natCast] at c
      obtain ⟨kA, dA, L, gL, hl, pw, hb⟩ := c
      exact q _ H' ((Kp.of s1).trans kA) dA ⟨Dl, L, rfl, s1.free hD, gL, pw, hb⟩
/-- a drawing just made, its rows and itself one's own -/
abbrev matS (H : Hp) (n m : Nat) : Pr := fun H2 v => ∃ (a : Addr) (bs : List Addr) (rows : List (List Nat)), v = .ref a ∧ H a = none ∧ (∀ b ∈ bs, H b = none) ∧ Mat nV H2 a bs rows ∧ rows.length = n ∧ ∀ row ∈ rows, row.Pairwise (· < ·) ∧ ∀ x ∈ row, x < m
theorem es_mat {vs : List Nat} {m : Nat} (hn : Ev tn σ H (as rN [] n)) (hz : n ≤ 1000) (hw : ∀ x, wipe ((wipe σ vs).set j (some x)) vs = wipe σ vs)
    (he : ∀ H1 i, i < n → EvS p g te ((wipe σ vs).set j (some (.int ((i : Nat) : Int)))) H1 (flatS H1 m)) : EvS p g (tLc (iRng1 (tCons tn tNil)) (gName j) tYes te vs) σ H (matS H n m) := fun d Q q =>
  hn H (Same.refl _) _ fun l H1 s1 e => by
    obtain rfl : l = _ := e
    have d1 := d.same s1
    refine ⟨(n : Int), rfl, by omega, by omega, fun Dl hD => ?_⟩
    have nD := d1.out hD
    refine lc_range (lo := 0) (n := ((n : Nat) : Int).toNat) (fun i H' => Kp [p, g] H1 H' ∧ DS p g H' ∧ ∃ (bs : List Addr) (rows : List (List Nat)), Mat nV H' Dl bs rows ∧ (∀ b ∈ bs, H1 b = none) ∧ rows.length = i ∧ ∀ row ∈ rows, row.Pairwise (· < ·) ∧ ∀ x ∈ row, x < m) ?_ (fun i H' hi c => ?_) (fun H' c => ?_)
    · exact ⟨(Kp.refl _ _).new hD, d1.mut nD (H := H1), [], [], ⟨upd_same, List.nodup_nil, by simp, rfl, fun i b ys h1 _ => by simp at h1⟩, by simp, rfl, by simp⟩
    · obtain ⟨kA, dA, bs, rows, mt, nb, hl, hr⟩ := c
      have hi' : i < n := by simpa using hi
      rw [Int.zero_add]
      refine ⟨hw _, ?_⟩
      refine tYes_if ?_
      refine he H' i hi' dA _ fun v H2 k2 d2 ⟨b, L, e, hb, gb, pw, hlt⟩ => ?_
      subst e
      have bD : b ≠ Dl := ne_of_none mt.top hb |>.symm
      have bbs : b ∉ bs := fun q => by
        obtain ⟨o, e⟩ := mt.old b q
        rw [hb] at e
        cases e
      have mt2 : Mat nV H2 Dl bs rows := mt.kp k2 nD fun c hc => d1.out (nb c hc)
      refine ⟨_, mt2.top, ?_, fun c u n e => ?_, d2.mut nD (H := H1), bs ++ [b], rows ++ [L], mt2.snoc gb bbs bD, fun c hc => ?_, by simp [hl], fun row hrow => ?_⟩
      · rw [List.length_map, mt2.len, hl]
        exact Nat.lt_of_le_of_lt (show i ≤ 1000 by omega) (by decide)
      · have z := (kA.trans k2) c u n e
        rw [upd_ne (ne_of_none e hD)]
        exact z
      · rcases List.mem_append.mp hc with hc | hc
        · exact nb c hc
        · have : c = b := by simpa using hc
          subst this
          exact kA.free (d1.out (kA.free (dA.out hb) hb)) hb
      · rcases List.mem_append.mp hrow with hrow | hrow
        · exact hr row hrow
        · have : row = L := by simpa using hrow
          subst this
          exact ⟨pw, hlt⟩
    · rw [Int.toNat_natCast] at c
      obtain ⟨kA, dA, bs, rows, mt, nb, hl, hr⟩ := c
      exact q _ H' ((Kp.of s1).trans kA) dA ⟨Dl, bs, rows, rfl, s1.free hD, fun b hb => s1.free (nb b hb), mt, hl, hr⟩
end
/-- a generator's promise: a drawing of at least one and at most most places -/
def spFree : Sp := fun vs H Q _ => ∃ (p g : Addr) (most : Nat), vs = [.ref p, .int (most : Int)] ∧ DS p g H ∧ 0 < most ∧ most ≤ 900 ∧
  ∀ v H2 (D : List (List Nat)), Kp [p, g] H H2 → DS p g H2 → rD [p, g] H2 v D → Good D → 0 < D.length → D.length ≤ most → Q v H2
theorem good_of {rows : List (List Nat)} {n : Nat} (hl : rows.length = n) (h : ∀ row ∈ rows, row.Pairwise (· < ·) ∧ ∀ x ∈ row, x < n) : Good rows := fun row hr => ⟨(h row hr).1, fun x hx => by rw [hl]; exact (h row hr).2 x hx⟩
section
variable {P : Program} {w : World} {K : PySem.W.Frag} {mg : Str → Option Value} {base : Heap}
abbrev NLawFree : List Str := ["state", "most", "size", "thin", "rows", "k", "at", "bare"]
theorem scLawFree : FnScope NLawFree ["state", "most"] (defScope sLawFree) := ⟨rfl, rfl, rfl, by decide +kernel, rfl, by decide +kernel, by decide +kernel⟩
theorem ok_free {f : Addr} {fd : FuncData} (F : FD K "_law_free" sLawFree f fd) (T : Tx K mg) (C_law_draw : Fn P w K mg base "_law_draw" ["state", "many"] 1 spDraw []) : FnOk P w K mg base CX0 2 f fd ["state", "most"] spFree := by
  refine F.ok scLawFree (fun vs H Q E h => ?_) (fun cdv A outer s H vs Q E hr h => ?_)
  · obtain ⟨_, _, _, rfl, _⟩ := h
    rfl
  · obtain ⟨p, g, most, rfl, d, h0, h1, k⟩ := h
    have nd := scLawFree.nd
    refine ⟨_, PSs.nox (pss_cons (ps_set (i := 2) nd rfl (by first | exact Or.inl rfl | exact Or.inr rfl) (pe_op op_add pe_int (pe_fn C_law_draw hr rfl (pa_cons (pv 0) (pa_cons (pv 1) pa_nil)))))
      (pss_cons (ps_set (i := 3) nd rfl (by first | exact Or.inl rfl | exact Or.inr rfl) (pe_op op_add pe_int (pe_fn C_law_draw hr rfl (pa_cons (pv 0) (pa_cons pe_int pa_nil)))))
      (pss_cons (ps_setLc (i := 4) rfl nd rfl rfl (sw_true rfl rfl rfl (by decide +kernel)) (pi_range1 rfl T.f_range (pa_cons (pv 2) pa_nil)) (blkOk_by (own := [("at", 6)]) (N := NLawFree) (sc := defScope sLawFree) (by decide +kernel)) (fun _ _ _ _ _ => (pg_name (i := 6) nd rfl (by first | exact Or.inl rfl | exact Or.inr rfl))) (fun _ _ _ _ _ => pts_nil) (fun _ _ _ _ _ => (pe_lc rfl nd (pi_range1 rfl T.f_range (pa_cons (pv 2) pa_nil)) (blkOk_by (own := [("k", 5)]) (by with_unfolding_all rfl)) (fun _ _ _ _ _ => (pg_name (i := 5) nd rfl (by first | exact Or.inl rfl | exact Or.inr rfl))) (fun _ _ _ _ _ => pts_one (pt_cmpR op_eq (pe_fn C_law_draw hr rfl (pa_cons (pv 0) (pa_cons (pv 3) pa_nil))) pe_int (nomark _))) (fun _ _ _ _ _ => (pv 5)))))
      (pss_cons (ps_set (i := 7) nd rfl (by first | exact Or.inl rfl | exact Or.inr rfl) (pe_fn C_law_draw hr rfl (pa_cons (pv 0) (pa_cons (pe_op op_add (pv 2) pe_int) pa_nil))))
      (pss_cons (ps_if (pt_cmpR op_lt (pv 7) (pv 2) (nomark _)) (pss_one (ps_asg (pe_lst pa_nil) (pg_sub (pv 4) (pv 7) set_list))) pss_nil)
      (pss_one (ps_ret (pv 4)))))))), ?_⟩
    refine q_asgS (p := p) (g := g) (es_add (k := 1) (es_draw (many := most) (ev_ref rfl) (ev_var (r := rN) rfl rfl) h0 (by omega))) d fun v H1 k1 d1 ⟨r, hr', e⟩ => ?_
    subst e
    refine q_asgS (p := p) (g := g) (es_add (k := 2) (es_draw (many := 3) (ev_ref rfl) ev_nat (by decide) (by decide))) d1 fun v H2 k2 d2 ⟨t, ht, e⟩ => ?_
    subst e
    refine q_asgS (p := p) (g := g) (es_mat (n := 1 + r) (m := 1 + r) (ev_var (r := rN) rfl rfl) (by omega) (fun _ => rfl) fun H3 i hi => es_lcT (n := 1 + r) (ev_var (r := rN) rfl rfl) (by omega) (fun _ => rfl) (fun _ => rfl) fun H4 i' hi' => ets_eq (k := 0) (es_draw (many := 2 + t) (ev_ref rfl) (ev_var (r := rN) rfl rfl) (by omega) (by omega))) d2 fun v H3 k3 d3 ⟨a, bs, rows, e, na, nbs, mt, hl, hrow⟩ => ?_
    subst e
    refine q_asgS (p := p) (g := g) (es_draw (many := 1 + r + 2) (ev_ref rfl) (ev_addN (ev_var (r := rN) rfl rfl) ev_nat) (by omega) (by omega)) d3 fun v H4 k4 d4 ⟨ba, hba, e⟩ => ?_
    subst e
    rw [Nat.zero_add]
    have mt4 : Mat nV H4 a bs rows := mt.kp k4 (d2.out na) fun c hc => d2.out (nbs c hc)
    have k04 := ((k1.trans k2).trans k3).trans k4
    have na0 : a ∉ [p, g] := d2.out na
    refine q_when (b := decide (ba < 1 + r)) (et_val (M := []) (ev_ltN (M := []) (ev_var (r := rN) rfl rfl) (ev_var (r := rN) rfl rfl))) (fun hb H5 s5 => ?_) (fun hb H5 s5 => ?_)
    · have hlt : ba < rows.length := by rw [hl]; simpa using hb
      have mt5 := mt4.same s5
      refine s_setL (n := ba) (M := []) (P := newF nV H5 ([] : List Nat)) new0 (ev_ref rfl) mt5.top (ev_var (r := rN) rfl rfl) (by rw [List.length_map, mt5.len]; exact hlt) fun v H6 H7 s6 ⟨b, e, nb, gb⟩ s7 => ?_
      subst e
      have mt7 := (mt5.same s6).same s7
      have hba' : b ≠ a := (ne_of_none mt5.top nb).symm
      have hbbs : b ∉ bs := fun q => by obtain ⟨o, e⟩ := mt5.old b q; rw [nb] at e; cases e
      have mt8 := mt7.swap (i := ba) (ys := []) (s7 _ _ gb) hbbs hba'
      have d7 := (((d4.same s5).same s6).same s7).mut na0 (a := a) (o := .lst ((bs.map V.ref).set ba (.ref b))) (H := H)
      have hbo : b ∉ [p, g] := (d4.same s5).out nb
      refine s_ret (P := as rD [p, g] (rows.set ba [])) (ev_var rfl (mt8.rep encN na0 fun c hc => ?_)) fun v H8 s8 hv => ?_
      · rcases List.mem_or_eq_of_mem_set hc with hc | hc
        · exact d2.out (nbs c hc)
        · rw [hc]; exact hbo
      · have kk : Kp [p, g] H (upd H7 a (.lst ((bs.map V.ref).set ba (.ref b)))) := fun c u n e => by
          have z := (k04.trans (Kp.of ((s5.trans s6).trans s7))) c u n e
          have hne : c ≠ a := fun q => by
            subst q
            have := (k1.trans k2) c u n e
            rw [na] at this
            cases this
          rw [upd_ne hne]
          exact z
        refine k v H8 _ (kk.trans (Kp.of s8)) (d7.same s8) hv (good_of (n := 1 + r) (by rw [List.length_set]; exact hl) fun row hr => ?_) (by rw [List.length_set, hl]; omega) (by rw [List.length_set, hl]; omega)
        rcases List.mem_or_eq_of_mem_set hr with hr | hr
        · exact hrow row hr
        · rw [hr]; exact ⟨List.Pairwise.nil, by simp⟩
    · refine s_ret (P := as rD [p, g] rows) (ev_var rfl ((mt4.same s5).rep encN na0 fun c hc => d2.out (nbs c hc))) fun v H8 s8 hv => ?_
      exact k v H8 _ ((k04.trans (Kp.of s5)).trans (Kp.of s8)) ((d4.same s5).same s8) hv (good_of hl hrow) (by omega) (by omega)
end
end K80

namespace K80
open PySem PySem.Spec PyProof.Rows L2 Rp
/-- xs.append(e) where e draws -/
theorem s_appS {K0 : PySem.W.Frag} {p g : Addr} {σ : L2.St} {H : Hp} {ta te : TE} {P : Hp → Pr} {D : Ends} {l : Addr} {vs : List V} (ha : Ev ta σ H (fun _ v => v = .ref l)) (hl : H l = some (.lst vs)) (hn : l ∉ [p, g]) (d : DS p g H) (h : ∀ H1, Same H H1 → EvS p g te σ H1 (P H1)) (hz : vs.length < 1000000)
    (k : ∀ v H1 H2, Same H H1 → Kp [p, g] H1 H2 → DS p g H2 → P H1 H2 v → D.nx σ (upd H2 l (.lst (vs ++ [v])))) : tDrop (tBM K0 "list" rAppend ta (tCons te tNil)) D σ H := ha H (Same.refl _) _ fun x H1 s1 e => by
  obtain rfl : x = _ := e
  refine ⟨Or.inl ⟨rfl, vs, SqL.of (s1 l _ hl)⟩, h H1 s1 (d.same s1) _ fun v H2 k2 d2 pv => ?_⟩
  exact ⟨l, vs, v, rfl, rfl, k2 l _ hn (s1 l _ hl), Nat.lt_of_lt_of_le hz (by decide), k v H1 H2 s1 k2 d2 pv⟩
/-- a drawing that grows, row by row -/
structure Gr (p g : Addr) (H0 H' : Hp) (a : Addr) (i m : Nat) : Prop where
  kp : Kp [p, g] H0 H'
  ds : DS p g H'
  mt : ∃ (bs : List Addr) (rows : List (List Nat)), Mat nV H' a bs rows ∧ (∀ b ∈ bs, H0 b = none) ∧ rows.length = i ∧ ∀ row ∈ rows, row.Pairwise (· < ·) ∧ ∀ x ∈ row, x < m
section
variable {p g a : Addr} {H0 H H' : Hp} {i m : Nat}
theorem Gr.start (d : DS p g H) (na : H a = none) : Gr p g H (upd H a (.lst [])) a 0 m :=
  ⟨(Kp.refl _ _).new na, d.mut (d.out na) (H := H), [], [], ⟨upd_same, List.nodup_nil, by simp, rfl, fun i b ys h1 _ => by simp at h1⟩, by simp, rfl, by simp⟩
theorem Gr.go (h : Gr p g H0 H a i m) (na : H0 a = none) (d0 : DS p g H0) (k : Kp [p, g] H H') (d : DS p g H') : Gr p g H0 H' a i m := by
  obtain ⟨k1, d1, bs, rows, mt, nb, hl, hr⟩ := h
  exact ⟨k1.trans k, d, bs, rows, mt.kp k (d0.out na) fun c hc => d0.out (nb c hc), nb, hl, hr⟩
theorem Gr.top (h : Gr p g H0 H a i m) : ∃ vs, H a = some (.lst vs) ∧ vs.length = i := by
  obtain ⟨_, _, bs, rows, mt, _, hl, _⟩ := h
  exact ⟨_, mt.top, by rw [List.length_map, mt.len, hl]⟩
theorem Gr.add (h : Gr p g H0 H a i m) (na : H0 a = none) (d0 : DS p g H0) (k : Kp [p, g] H H') (d : DS p g H') {b : Addr} {L : List Nat} (nb : H b = none) (gb : H' b = some (.lst (L.map nV))) (pw : L.Pairwise (· < ·)) (hb : ∀ x ∈ L, x < m) {vs : List V} (ht : H a = some (.lst vs)) :
    Gr p g H0 (upd H' a (.lst (vs ++ [.ref b]))) a (i + 1) m := by
  obtain ⟨k1, d1, bs, rows, mt, nbs, hl, hr⟩ := h
  have ev : vs = bs.map V.ref := by
    have := mt.top
    rw [ht] at this
    injection this with this
    injection this
  subst ev
  have bD : b ≠ a := (ne_of_none mt.top nb).symm
  have bbs : b ∉ bs := fun q => by
    obtain ⟨o, e⟩ := mt.old b q
    rw [nb] at e
    cases e
  have mt2 : Mat nV H' a bs rows := mt.kp k (d0.out na) fun c hc => d0.out (nbs c hc)
  refine ⟨fun c u n e => ?_, d.mut (d0.out na) (H := H0), bs ++ [b], rows ++ [L], mt2.snoc gb bbs bD, fun c hc => ?_, by simp [hl], fun row hrow => ?_⟩
  · have z := (k1.trans k) c u n e
    rw [upd_ne (ne_of_none e na)]
    exact z
  · rcases List.mem_append.mp hc with hc | hc
    · exact nbs c hc
    · have : c = b := by simpa using hc
      subst this
      exact k1.free (d0.out (k1.free (d1.out nb) nb)) nb
  · rcases List.mem_append.mp hrow with hrow | hrow
    · exact hr row hrow
    · have : row = L := by simpa using hrow
      subst this
      exact ⟨pw, hb⟩
theorem Gr.rep (h : Gr p g H0 H a i m) (na : H0 a = none) (d0 : DS p g H0) : ∃ rows : List (List Nat), rD [p, g] H (.ref a) rows ∧ rows.length = i ∧ ∀ row ∈ rows, row.Pairwise (· < ·) ∧ ∀ x ∈ row, x < m := by
  obtain ⟨k1, d1, bs, rows, mt, nbs, hl, hr⟩ := h
  exact ⟨rows, mt.rep encN (d0.out na) fun c hc => d0.out (nbs c hc), hl, hr⟩
end
section
variable {P : Program} {w : World} {K : PySem.W.Frag} {mg : Str → Option Value} {base : Heap}
abbrev NLawLower : List Str := ["state", "most", "size", "rows", "at", "k"]
theorem scLawLower : FnScope NLawLower ["state", "most"] (defScope sLawLower) := ⟨rfl, rfl, rfl, by decide +kernel, rfl, by decide +kernel, by decide +kernel⟩
theorem ok_lower {f : Addr} {fd : FuncData} (F : FD K "_law_lower" sLawLower f fd) (T : Tx K mg) (C_law_draw : Fn P w K mg base "_law_draw" ["state", "many"] 1 spDraw []) : FnOk P w K mg base CX0 2 f fd ["state", "most"] spFree := by
  refine F.ok scLawLower (fun vs H Q E h => ?_) (fun cdv A outer s H vs Q E hr h => ?_)
  · obtain ⟨_, _, _, rfl, _⟩ := h
    rfl
  · obtain ⟨p, g, most, rfl, d, h0, h1, k⟩ := h
    have nd := scLawLower.nd
    refine ⟨_, PSs.nox (pss_cons (ps_set (i := 2) nd rfl (by first | exact Or.inl rfl | exact Or.inr rfl) (pe_op op_add pe_int (pe_fn C_law_draw hr rfl (pa_cons (pv 0) (pa_cons (pv 1) pa_nil)))))
      (pss_cons (ps_set (i := 3) nd rfl (by first | exact Or.inl rfl | exact Or.inr rfl) (pe_lst pa_nil))
      (pss_cons (ps_for PassesOwn.never rfl (pi_range1 rfl T.f_range (pa_cons (pv 2) pa_nil)) (pg_name (i := 4) nd rfl (by first | exact Or.inl rfl | exact Or.inr rfl)) (pss_one (ps_expr (pbm K PySem.F.plainAttrs_list PySem.F.slot_list_append PySem.F.type_list_append mt_append (pv 3) (pa_cons (pe_lc rfl nd (pi_range1 rfl T.f_range (pa_cons (pv 4) pa_nil)) (blkOk_by (own := [("k", 5)]) (N := NLawLower) (sc := defScope sLawLower) (by decide +kernel)) (fun _ _ _ _ _ => (pg_name (i := 5) nd rfl (by first | exact Or.inl rfl | exact Or.inr rfl))) (fun _ _ _ _ _ => pts_one (PW.pt (pw_or (PW.pt (pw_and (pt_cmpR op_eq (pv 5) (pe_op op_sub (pv 4) pe_int) (nomark _)) (pw_and1 (pt_cmpR op_gt (pe_fn C_law_draw hr rfl (pa_cons (pv 0) (pa_cons pe_int pa_nil))) pe_int (nomark _))))) (pw_or1 (pt_cmpR op_eq (pe_fn C_law_draw hr rfl (pa_cons (pv 0) (pa_cons pe_int pa_nil))) pe_int (nomark _)))))) (fun _ _ _ _ _ => (pv 5))) pa_nil)))))
      (pss_one (ps_ret (pv 3)))))), ?_⟩
    refine q_asgS (p := p) (g := g) (es_add (k := 1) (es_draw (many := most) (ev_ref rfl) (ev_var (r := rN) rfl rfl) h0 (by omega))) d fun v H1 k1 d1 ⟨r, hr', e⟩ => ?_
    subst e
    refine q_new fun a na => ?_
    refine q_forR1 (n := 1 + r) (M := []) (ev_var (r := rN) rfl rfl) (by omega) fun H2 s2 => ?_
    refine ⟨fun i σ' H' => ∃ (c4 c5 : Option V), σ' = [some (.ref p), some (.int (most : Int)), some (nV (1 + r)), some (.ref a), c4, c5] ∧ Gr p g H1 H' a i (1 + r), ⟨none, none, rfl, (Gr.start d1 na).go na d1 (Kp.of s2) ((Gr.start (m := 0) d1 na).ds.same s2)⟩, ?_, ?_⟩
    · rintro i σ' H3 hi ⟨c4, c5, rfl, G⟩
      rw [Nat.zero_add] at hi ⊢
      obtain ⟨vs, gt, hlen⟩ := G.top
      refine s_appS (P := fun H4 => flatS H4 i) (p := p) (g := g) (ev_ref rfl) gt (d1.out na) G.ds (fun H4 s4 => es_lcT (n := i) (ev_var (r := rN) rfl rfl) (by omega) (fun _ => rfl) (fun _ => rfl) fun H5 k hk => ets_or (ets_and (ets_of (et_val (M := []) (ev_eqI (ev_var (r := rI) rfl rfl) (ev_subI (M := []) (ev_var (r := rI) rfl rfl) ev_int)))) fun H6 k6 d6 => ets_gt (k := 0) (es_draw (many := 4) (ev_ref rfl) ev_nat (by decide) (by decide))) fun H6 k6 d6 => ets_eq (k := 0) (es_draw (many := 3) (ev_ref rfl) ev_nat (by decide) (by decide))) (by omega) fun v H4 H5 s4 k5 d5 ⟨b, L, e, nb, gb, pw, hb⟩ => ?_
      subst e
      have hn : H3 b = none := s4.free nb
      exact ⟨_, _, rfl, G.add na d1 ((Kp.of s4).trans k5) d5 hn gb pw (fun x hx => by have := hb x hx; omega) gt⟩
    · rintro σ' H3 ⟨c4, c5, rfl, G⟩
      rw [Nat.sub_zero] at G
      obtain ⟨rows, hv, hl, hrow⟩ := G.rep na d1
      refine s_ret (P := as rD [p, g] rows) (ev_var rfl hv) fun v H8 s8 hv => ?_
      exact k v H8 _ ((k1.trans G.kp).trans (Kp.of s8)) (G.ds.same s8) hv (good_of hl hrow) (by omega) (by omega)
end
end K80

namespace K80
open PySem PySem.Spec PyProof.Rows L2 Rp
section
variable {p g : Addr} {σ : L2.St} {H H' : Hp} {ta tb te tn : TE} {tt t u : TT} {P P' : Pr} {j k many n : Nat}
theorem es_addE (ha : Ev ta σ H (as rN [] n)) (h : ∀ H1, Same H H1 → EvS p g te σ H1 (drawP 0 many)) : EvS p g (tOp (rI0 fun i j => .int (i + j)) ta te) σ H (drawP n many) := fun d Q q =>
  ha H (Same.refl _) _ fun x H1 s1 e => by
    obtain rfl : x = .int ((n : Nat) : Int) := e
    refine h H1 s1 (d.same s1) _ fun v H2 k2 d2 ⟨r, hr, e⟩ => ?_
    subst e
    refine ⟨_, _, rfl, rfl, q _ H2 ((Kp.of s1).trans k2) d2 ⟨r, hr, ?_⟩⟩
    show V.int _ = V.int _
    congr 1
    omega
/-- xs[draw] -/
theorem es_ix {K : PySem.W.Frag} {xs : List Nat} (ha : Ev ta σ H (as (rL rN) [p, g] xs)) (h : ∀ H1, Same H H1 → EvS p g te σ H1 (drawP 0 xs.length)) : EvS p g (tOp (rIxL K) ta te) σ H (fun _ v => ∃ x ∈ xs, v = nV x) := fun d Q q =>
  ha H (Same.refl _) _ fun x H1 s1 px => h H1 s1 (d.same s1) _ fun v H2 k2 d2 ⟨r, hr, e⟩ => by
    subst e
    have px2 : rL rN [p, g] H2 x xs := Rep.mono k2 px
    obtain ⟨a, vs, rfl, n, ga, f⟩ := px2
    rw [rN.map f] at ga
    refine ⟨a, _, ((0 + r : Nat) : Int), nV xs[r], rfl, rfl, SqL.of ga, ?_, q _ H2 ((Kp.of s1).trans k2) d2 ⟨xs[r], List.getElem_mem hr, rfl⟩⟩
    refine atI_nat ?_
    rw [Nat.zero_add, List.getElem?_map, List.getElem?_eq_getElem hr]
    rfl
end
def spDoubled : Sp := fun vs H Q _ => ∃ (p g : Addr) (v2 : V) (B : List (List Nat)), vs = [.ref p, v2] ∧ DS p g H ∧ rD [p, g] H v2 B ∧ Good B ∧ 0 < B.length ∧ B.length ≤ 12 ∧
  ∀ v H2 (D : List (List Nat)), Kp [p, g] H H2 → DS p g H2 → rD [p, g] H2 v D → Good D → 0 < D.length → D.length ≤ 12 → Q v H2
section
variable {P : Program} {w : World} {K : PySem.W.Frag} {mg : Str → Option Value} {base : Heap}
abbrev NLawDoubled : List Str := ["state", "base", "size", "image", "k", "rows", "at", "taken", "old", "twins", "place"]
theorem scLawDoubled : FnScope NLawDoubled ["state", "base"] (defScope sLawDoubled) := ⟨rfl, rfl, rfl, by decide +kernel, rfl, by decide +kernel, by decide +kernel⟩
theorem ok_doubled {f : Addr} {fd : FuncData} (F : FD K "_law_doubled" sLawDoubled f fd) (T : Tx K mg) (C_law_draw : Fn P w K mg base "_law_draw" ["state", "many"] 1 spDraw []) : FnOk P w K mg base CX0 2 f fd ["state", "base"] spDoubled := by
  refine F.ok scLawDoubled (fun vs H Q E h => ?_) (fun cdv A outer s H vs Q E hr h => ?_)
  · obtain ⟨_, _, _, _, rfl, _⟩ := h
    rfl
  · obtain ⟨p, g, v2, B, rfl, d, h2, hB, h0, h1, k⟩ := h
    have nd := scLawDoubled.nd
    refine ⟨_, PSs.nox (pss_cons (ps_set (i := 2) nd rfl (by first | exact Or.inl rfl | exact Or.inr rfl) (pe_op op_add (pe_callB (clen K) rfl T.f_len boot_len (pa_cons (pv 1) pa_nil)) (pe_fn C_law_draw hr rfl (pa_cons (pv 0) (pa_cons (pe_op op_sub pe_int (pe_callB (clen K) rfl T.f_len boot_len (pa_cons (pv 1) pa_nil))) pa_nil)))))
      (pss_cons (ps_set (i := 3) nd rfl (by first | exact Or.inl rfl | exact Or.inr rfl) (pe_lc rfl nd (pi_range1 rfl T.f_range (pa_cons (pe_callB (clen K) rfl T.f_len boot_len (pa_cons (pv 1) pa_nil)) pa_nil)) (blkOk_by (own := [("k", 4)]) (N := NLawDoubled) (sc := defScope sLawDoubled) (by decide +kernel)) (fun _ _ _ _ _ => (pg_name (i := 4) nd rfl (by first | exact Or.inl rfl | exact Or.inr rfl))) (fun _ _ _ _ _ => pts_nil) (fun _ _ _ _ _ => (pv 4))))
      (pss_cons (ps_for PassesOwn.never rfl (pi_range1 rfl T.f_range (pa_cons (pe_op op_sub (pv 2) (pe_callB (clen K) rfl T.f_len boot_len (pa_cons (pv 1) pa_nil))) pa_nil)) (pg_name (i := 4) nd rfl (by first | exact Or.inl rfl | exact Or.inr rfl)) (pss_one (ps_expr (pbm K PySem.F.plainAttrs_list PySem.F.slot_list_append PySem.F.type_list_append mt_append (pv 3) (pa_cons (pe_fn C_law_draw hr rfl (pa_cons (pv 0) (pa_cons (pe_callB (clen K) rfl T.f_len boot_len (pa_cons (pv 1) pa_nil)) pa_nil))) pa_nil)))))
      (pss_cons (ps_set (i := 5) nd rfl (by first | exact Or.inl rfl | exact Or.inr rfl) (pe_lst pa_nil))
      (pss_cons (ps_for PassesOwn.never rfl (pi_range1 rfl T.f_range (pa_cons (pv 2) pa_nil)) (pg_name (i := 6) nd rfl (by first | exact Or.inl rfl | exact Or.inr rfl)) (pss_cons (ps_set (i := 7) nd rfl (by first | exact Or.inl rfl | exact Or.inr rfl) (pe_lst pa_nil))
      (pss_cons (ps_for PassesOwn.never rfl (pil K (pe_ix (ixl K) (pv 1) (pe_ix (ixl K) (pv 3) (pv 6) (fun _ _ => rfl)) (fun _ _ => rfl))) (pg_name (i := 8) nd rfl (by first | exact Or.inl rfl | exact Or.inr rfl)) (pss_cons (ps_setLc (i := 9) rfl nd rfl rfl (sw_true rfl rfl rfl (by decide +kernel)) (pi_range1 rfl T.f_range (pa_cons (pv 2) pa_nil)) (blkOk_by (own := [("k", 4)]) (N := NLawDoubled) (sc := defScope sLawDoubled) (by decide +kernel)) (fun _ _ _ _ _ => (pg_name (i := 4) nd rfl (by first | exact Or.inl rfl | exact Or.inr rfl))) (fun _ _ _ _ _ => pts_one (pt_cmpR op_eq (pe_ix (ixl K) (pv 3) (pv 4) (fun _ _ => rfl)) (pv 8) (nomark _))) (fun _ _ _ _ _ => (pv 4)))
      (pss_one (ps_expr (pbm K PySem.F.plainAttrs_list PySem.F.slot_list_append PySem.F.type_list_append mt_append (pv 7) (pa_cons (pe_ix (ixl K) (pv 9) (pe_fn C_law_draw hr rfl (pa_cons (pv 0) (pa_cons (pe_callB (clen K) rfl T.f_len boot_len (pa_cons (pv 9) pa_nil)) pa_nil))) (fun _ _ => rfl)) pa_nil))))))
      (pss_one (ps_expr (pbm K PySem.F.plainAttrs_list PySem.F.slot_list_append PySem.F.type_list_append mt_append (pv 5) (pa_cons (pe_callB (csortset w) rfl T.f_sorted (by decide +kernel) (pa_cons (pe_callTy (cr_setL K w) rfl T.f_set (by decide +kernel) (pa_cons (pe_lc rfl nd (pil K (pv 7)) (blkOk_by (own := [("place", 10)]) (N := NLawDoubled) (sc := defScope sLawDoubled) (by decide +kernel)) (fun _ _ _ _ _ => (pg_name (i := 10) nd rfl (by first | exact Or.inl rfl | exact Or.inr rfl))) (fun _ _ _ _ _ => pts_nil) (fun _ _ _ _ _ => (pe_callTy call_int1 rfl T.f_int (by decide +kernel) (pa_cons (pv 10) pa_nil)))) pa_nil)) pa_nil)) pa_nil)))))))
      (pss_one (ps_ret (pv 5)))))))), ?_⟩
    have h2n : rD [] H v2 B := Rep.sub (by simp) h2
    refine q_asgS (p := p) (g := g) (es_addE (n := B.length) (ev_len (ev_var rfl h2n)) fun H1 s1 => es_draw (many := 13 - B.length) (ev_ref rfl) (ev_subN ev_nat (ev_len (ev_var rfl (Rep.same s1 h2n))) (by omega)) (by omega) (by omega)) d fun v H1 k1 d1 ⟨r, hr', e⟩ => ?_
    subst e
    have h21 : rD [p, g] H1 v2 B := Rep.mono k1 h2
    have h21n : rD [] H1 v2 B := Rep.sub (by simp) h21
    -- image
    refine q_asg (P := newF nV H1 (List.range B.length)) (newN (M := []) ((List.map_id (List.range B.length)) ▸ ev_lcRMn (q := rN) Old.nil id (ev_len (ev_var rfl h21n)) (by omega) (fun _ => rfl) fun M' H2 i up hi => ev_var (r := rN) rfl rfl)) fun v3 H2 s2 ⟨ai, e, nai, gai⟩ => ?_
    subst e
    have d2 := d1.same s2
    have hai : ai ∉ [p, g] := d1.out nai
    refine q_forR1 (n := r) (M := []) (Ev.to (ev_subN (M := []) (ev_var (r := rN) rfl rfl) (ev_len (ev_var rfl (Rep.same s2 h21n))) (by omega)) (by omega)) (by omega) fun H3 s3 => ?_
    refine ⟨fun i σ' H' => ∃ (c4 : Option V) (im : List Nat), σ' = [some (.ref p), some v2, some (nV (B.length + r)), some (.ref ai), c4, none, none, none, none, none, none] ∧ Kp [p, g] H1 H' ∧ DS p g H' ∧ H' ai = some (.lst (im.map nV)) ∧ im.length = B.length + i ∧ (∀ x ∈ im, x < B.length) ∧ ∀ x, x < B.length → im[x]? = some x,
      ⟨none, List.range B.length, rfl, Kp.of (s2.trans s3), d2.same s3, s3 _ _ gai, by simp, by simp, fun x hx => List.getElem?_range hx⟩, ?_, ?_⟩
    · rintro i σ' H4 hi ⟨c4, im, rfl, k4, d4, g4, hl, hb, hx⟩
      refine s_appS (P := fun _ => drawP 0 B.length) (p := p) (g := g) (ev_ref rfl) g4 hai d4 (fun H5 s5 => es_draw (many := B.length) (ev_ref rfl) (ev_len (ev_var rfl (Rep.sub (by simp) (Rep.same s5 (Rep.mono k4 h21))))) h0 (by omega)) (by rw [List.length_map, hl]; omega) fun v H5 H6 s5 k6 d6 ⟨y, hy, e⟩ => ?_
      subst e
      refine ⟨_, im ++ [0 + y], rfl, ?_, d6.mut hai (H := H1), by rw [upd_same]; simp, by simp [hl]; omega, fun x hx => ?_, fun x hx' => ?_⟩
      · intro c u n e
        have z := ((k4.trans (Kp.of s5)).trans k6) c u n e
        rw [upd_ne (ne_of_none e nai)]
        exact z
      · rcases List.mem_append.mp hx with hx | hx
        · exact hb x hx
        · have : x = 0 + y := by simpa using hx
          omega
      · rw [List.getElem?_append_left (by omega)]
        exact hx x hx'
    rintro σ' H4 ⟨c4, im, rfl, k4, d4, g4, hl, hb, hx⟩
    rw [Nat.sub_zero] at hl
    have him : rL rN [p, g] H4 (.ref ai) im := ⟨ai, _, rfl, hai, g4, rN.F2⟩
    have h24 : rD [p, g] H4 v2 B := Rep.mono k4 h21
    -- rows
    refine q_new fun a na => ?_
    have na1 : H4 a = none := na
    refine q_forR1 (n := B.length + r) (M := []) (ev_var (r := rN) rfl rfl) (by omega) fun H5 s5 => ?_
    have sA : Same H4 (upd H4 a (.lst [])) := Same.new (Same.refl _) na
    refine ⟨fun i σ' H' => ∃ (c4 c6 c7 c8 c9 c10 : Option V), σ' = [some (.ref p), some v2, some (nV (B.length + r)), some (.ref ai), c4, some (.ref a), c6, c7, c8, c9, c10] ∧ Gr p g H4 H' a i (B.length + r), ⟨_, none, none, none, none, none, rfl, (Gr.start d4 na).go na d4 (Kp.of s5) ((Gr.start (m := 0) d4 na).ds.same s5)⟩, ?_, ?_⟩
    · rintro i σ' H6 hi ⟨c4, c6, c7, c8, c9, c10, rfl, G⟩
      rw [Nat.zero_add] at hi ⊢
      have him6 : rL rN [p, g] H6 (.ref ai) im := Rep.mono G.kp him
      have h26 : rD [p, g] H6 v2 B := Rep.mono G.kp h24
      refine q_new fun t nt => ?_
      have ht : t ∉ [p, g] := G.ds.out nt
      have st : Same H6 (upd H6 t (.lst [])) := Same.new (Same.refl _) nt
      have hil : i < im.length := by omega
      have hiv : im[i]? = some im[i] := List.getElem?_eq_getElem hil
      have hbi := hb _ (List.getElem_mem hil)
      generalize im[i] = y at hiv hbi
      have him7 : rL rN (t :: [p, g]) (upd H6 t (.lst [])) (.ref ai) im := Rep.same st (Rep.new nt him6)
      have h27 : rD (t :: [p, g]) (upd H6 t (.lst [])) v2 B := Rep.same st (Rep.new nt h26)
      refine q_forL (r := rN) (L := t :: [p, g]) (M := t :: [p, g]) (xs := rowOf B y) (ev_ixL (n := y) (ev_var rfl h27) (ev_ixL (r := rN) (n := i) (ev_var rfl him7) (ev_var (r := rN) rfl rfl) hiv) (rowOf_get hbi)) (fun _ h => h) fun H7 s7 => ?_
      have hrl : (rowOf B y).length ≤ 12 := Nat.le_trans (asc_len (hB.asc y) fun z hz => (hB.lt hz).1) h1
      refine ⟨fun q σ' H' => ∃ (c4 c8 c9 c10 : Option V) (tk : List Nat), σ' = [some (.ref p), some v2, some (nV (B.length + r)), some (.ref ai), c4, some (.ref a), some (nV i), some (.ref t), c8, c9, c10] ∧ Kp (t :: [p, g]) H7 H' ∧ DS p g H' ∧ H' t = some (.lst (tk.map nV)) ∧ tk.length ≤ q ∧ ∀ x ∈ tk, x < B.length + r,
        ⟨c4, c8, c9, c10, [], rfl, Kp.refl _ _, (G.ds.mut ht (H := H6)).same s7, s7 _ _ upd_same, Nat.le_refl _, by simp⟩, fun q σ' H' ⟨_, _, _, _, _, _, z, _⟩ => z, ?_, ?_⟩
      · rintro q v old σ' H8 hold rfl ⟨c4, c8, c9, c10, tk, rfl, k8, d8, g8, hlt, hbt⟩
        have hom : old ∈ rowOf B y := List.mem_of_getElem? hold
        have holt := (hB.lt hom).1
        have hql : q < (rowOf B y).length := (List.getElem?_eq_some_iff.mp hold).1
        have him8 : rL rN [p, g] H8 (.ref ai) im := Rep.sub (fun x hx => List.mem_cons_of_mem _ hx) (Rep.mono k8 (Rep.same s7 him7))
        refine q_asg (P := as (rL rN) [p, g] (((List.range (B.length + r)).filter fun i => decide (im.getD i 0 = old)).map id)) (ev_lcR (q := rN) d8.old (fun i => decide (im.getD i 0 = old)) id (ev_var (r := rN) rfl rfl) (by omega) (fun _ => rfl) (fun M' H9 z up hz => ?_) (fun M' H9 z up hz _ => ev_var (r := rN) rfl rfl)) fun v9 H9 s9 h9 => ?_
        · refine et_val (M := M') (ev_eqN (ev_ixL (r := rN) (n := z) (ev_var rfl (up.lift him8)) (ev_var (r := rN) rfl rfl) ?_) (ev_var (r := rN) rfl rfl))
          rw [List.getElem?_eq_getElem (by omega), getD_lt (by omega)]
        · rw [List.map_id] at h9
          have hne : ((List.range (B.length + r)).filter fun i => decide (im.getD i 0 = old)) ≠ [] := by
            refine List.ne_nil_of_mem (a := old) (List.mem_filter.mpr ⟨List.mem_range.mpr (by omega), ?_⟩)
            rw [List.getD_eq_getElem?_getD, hx old holt]
            simp
          have hlen0 := List.length_pos_iff.mpr hne
          have hlenm : ((List.range (B.length + r)).filter fun i => decide (im.getD i 0 = old)).length ≤ B.length + r := by
            have := List.length_filter_le (fun i => decide (im.getD i 0 = old)) (List.range (B.length + r))
            rwa [List.length_range] at this
          have htl : ∀ z ∈ (List.range (B.length + r)).filter (fun i => decide (im.getD i 0 = old)), z < B.length + r := fun z hz => List.mem_range.mp (List.mem_filter.mp hz).1
          generalize (List.range (B.length + r)).filter (fun i => decide (im.getD i 0 = old)) = tw at h9 hne hlen0 hlenm htl
          refine s_appS (P := fun _ => fun _ v => ∃ x ∈ tw, v = nV x) (p := p) (g := g) (ev_ref rfl) (s9 _ _ g8) ht (d8.same s9) (fun H10 s10 => es_ix (ev_var rfl (Rep.same s10 h9)) fun H11 s11 => es_draw (many := tw.length) (ev_ref rfl) (ev_len (ev_var rfl (Rep.sub (by simp) (Rep.same (s10.trans s11) h9)))) hlen0 (by omega)) (by rw [List.length_map]; omega) fun v H10 H11 s10 k11 d11 ⟨x, hx', e⟩ => ?_
          subst e
          refine ⟨_, _, _, _, tk ++ [x], rfl, (((k8.trans (Kp.of (s9.trans s10))).trans (k11.sub fun z hz => List.mem_cons_of_mem _ hz)).mut (by simp)), d11.mut ht (H := H6), by rw [upd_same]; simp, by simp; omega, fun z hz => ?_⟩
          rcases List.mem_append.mp hz with hz | hz
          · exact hbt z hz
          · have : z = x := by simpa using hz
            subst this
            exact htl _ hx'
      · rintro σ' H8 ⟨c4, c8, c9, c10, tk, rfl, k8, d8, g8, hlt, hbt⟩
        have k68 : Kp [p, g] H6 H8 := Kp.drop ((Kp.of st |>.trans (Kp.of s7)).trans k8) nt
        have G8 := G.go na d4 k68 d8
        obtain ⟨vs, gt, hlen⟩ := G8.top
        have htk : rL rN [] H8 (.ref t) tk := ⟨t, _, rfl, by simp, g8, rN.F2⟩
        refine s_app (P := newF nV H8 (asc tk)) (ev_ref rfl) gt (newN (M := []) (ev_sortset (ev_setL (K := K) (Ev.to (ev_lcM (r := rN) (q := rN) Old.nil id (ev_var rfl htk) (by omega) (fun _ => rfl) fun M' H9 v x up hx rv => ev_int1 (M := M') (i := (x : Int)) (ev_var (r := rN) rfl rv)) (List.map_id tk)) (by omega)) (by omega))) (by omega) fun v H9 s9 ⟨b, e, nb, gb⟩ => ?_
        subst e
        exact ⟨_, _, _, _, _, _, rfl, G8.add na d4 (Kp.of s9) (d8.same s9) nb gb (asc_pw _) (fun x hx => hbt x (mem_asc.mp hx)) gt⟩
    · rintro σ' H6 ⟨c4, c6, c7, c8, c9, c10, rfl, G⟩
      rw [Nat.sub_zero] at G
      obtain ⟨rows, hv, hl', hrow⟩ := G.rep na d4
      refine s_ret (P := as rD [p, g] rows) (ev_var rfl hv) fun v H8 s8 hv => ?_
      exact k v H8 _ (((k1.trans k4).trans G.kp).trans (Kp.of s8)) (G.ds.same s8) hv (good_of hl' hrow) (by omega) (by omega)
end
end K80

namespace K80
open PySem PySem.Spec PyProof.Rows L2 Rp
/-- a drawing of 1 to n places -/
abbrev drawnP (p g : Addr) (n : Nat) : Pr := fun H2 v => ∃ D : List (List Nat), rD [p, g] H2 v D ∧ Good D ∧ 0 < D.length ∧ D.length ≤ n
section
variable {p g : Addr} {σ : L2.St} {H H' : Hp} {ta tb te tn : TE} {tt t u : TT} {P P' : Pr} {j k most n : Nat}
theorem es_free (ha : Ev ta σ H (fun _ v => v = .ref p)) (hb : Ev tb σ H (as rN [] most)) (h0 : 0 < most) (h1 : most ≤ 900) : EvS p g (tCall spFree [] E0 (tCons ta (tCons tb tNil))) σ H (drawnP p g most) := fun d Q q =>
  ea_2 ha (fun _ _ _ _ z => z) hb H (Same.refl _) _ fun vs H1 s1 ⟨v, w, e, e1, e2⟩ => by
    subst e e1
    obtain rfl : w = .int ((most : Nat) : Int) := e2
    exact ⟨p, g, most, rfl, d.same s1, h0, h1, fun v H2 D k2 d2 hv hg h3 h4 => q v H2 ((Kp.of s1).trans k2) d2 ⟨D, hv, hg, h3, h4⟩⟩
theorem es_doubled {B : List (List Nat)} (ha : Ev ta σ H (fun _ v => v = .ref p)) (hb : Ev tb σ H (as rD [p, g] B)) (gB : Good B) (h0 : 0 < B.length) (h1 : B.length ≤ 12) : EvS p g (tCall spDoubled [] E0 (tCons ta (tCons tb tNil))) σ H (drawnP p g 12) := fun d Q q =>
  ea_2 ha (fun _ _ _ _ z => z) hb H (Same.refl _) _ fun vs H1 s1 ⟨v, w, e, e1, e2⟩ => by
    subst e e1
    exact ⟨p, g, w, B, rfl, d.same s1, e2, gB, h0, h1, fun v H2 D k2 d2 hv hg h3 h4 => q v H2 ((Kp.of s1).trans k2) d2 ⟨D, hv, hg, h3, h4⟩⟩
theorem drawnP.same (s : Same H H') {v : V} (h : drawnP p g n H v) : drawnP p g n H' v := let ⟨D, a, b⟩ := h; ⟨D, Rep.same s a, b⟩
end
theorem q_whenJ {b : Bool} {t : TT} {tu ts : TS} {D : Ends} {σ : L2.St} {H : Hp} (J : L2.St → Hp → Prop) (h : EvT t σ H b) (h1 : ∀ tsk : L2.St → Hp → Prop, (∀ σ' H', J σ' H' → tsk σ' H') → b = true → ∀ H1, Same H H1 → tu { D with nx := tsk } σ H1) (h2 : b = false → ∀ H1, Same H H1 → J σ H1)
    (kk : ∀ σ' H', J σ' H' → ts D σ' H') : tSeq (tIfS t tu tNext) ts D σ H := q_when h (fun hb H1 s => h1 _ kk hb H1 s) fun hb H1 s => kk _ _ (h2 hb H1 s)
/-- xs.insert(draw, e) -/
theorem s_insS {K0 : PySem.W.Frag} {p g : Addr} {σ : L2.St} {H : Hp} {ta te tk : TE} {many : Nat} {v : V} {D : Ends} {l : Addr} {vs : List V} (ha : Ev ta σ H (fun _ v => v = .ref l)) (hl : H l = some (.lst vs)) (hn : l ∉ [p, g]) (d : DS p g H) (h : ∀ H1, Same H H1 → EvS p g te σ H1 (drawP 0 many)) (hk : ∀ H1, Ev tk σ H1 (fun _ w => w = v))
    (hz : vs.length < 1000000) (hm : many ≤ 1000) (k : ∀ (r : Nat) H2 H3, r < many → Kp [p, g] H H2 → DS p g H2 → Same H2 H3 → D.nx σ (upd H3 l (.lst (vs.take r ++ [v] ++ vs.drop r)))) :
    tDrop (tBM K0 "list" (fun x vs H Q => ∃ (l : Addr) (xs : List V) (i : Int) (y : V), x = V.ref l ∧ vs = [V.int i, y] ∧ H l = some (.lst xs) ∧ xs.length < sizeLine ∧ 0 ≤ i ∧ i < 2 ^ 63 ∧ Q .non (upd H l (.lst (xs.take i.toNat ++ [y] ++ xs.drop i.toNat)))) ta (tCons te (tCons tk tNil))) D σ H := ha H (Same.refl _) _ fun x H1 s1 e => by
  obtain rfl : x = _ := e
  refine ⟨Or.inl ⟨rfl, vs, SqL.of (s1 l _ hl)⟩, h H1 s1 (d.same s1) _ fun v' H2 k2 d2 ⟨r, hr, e⟩ => ?_⟩
  subst e
  refine hk H2 H2 (Same.refl _) _ fun w H3 s3 e => ?_
  subst e
  refine ⟨l, vs, ((0 + r : Nat) : Int), w, rfl, rfl, s3 _ _ (k2 l _ hn (s1 l _ hl)), Nat.lt_of_lt_of_le hz (by decide), by omega, by omega, ?_⟩
  rw [Int.toNat_natCast, Nat.zero_add]
  exact k r H2 H3 hr ((Kp.of s1).trans k2) d2 s3
def spDrawing : Sp := fun vs H Q _ => ∃ (p g : Addr), vs = [.ref p] ∧ DS p g H ∧ ∀ v H2 (D : List (List Nat)), Kp [p, g] H H2 → DS p g H2 → rD [p, g] H2 v D → Good D → 0 < D.length → D.length ≤ 12 → Q v H2
theorem perm_insert {od : List Nat} {i r : Nat} (h : od.Perm (List.range i)) : (od.take r ++ [i] ++ od.drop r).Perm (List.range (i + 1)) := by
  rw [List.range_succ]
  have h1 : (od.take r ++ [i] ++ od.drop r).Perm (od.take r ++ od.drop r ++ [i]) := by
    rw [List.append_assoc, List.append_assoc]
    exact (List.perm_append_comm).append_left _
  rw [List.take_append_drop] at h1
  exact h1.trans (h.append_right [i])
section
variable {P : Program} {w : World} {K : PySem.W.Frag} {mg : Str → Option Value} {base : Heap}
abbrev NLawDrawing : List Str := ["state", "way", "rows", "order", "k", "moved", "old", "place"]
theorem scLawDrawing : FnScope NLawDrawing ["state"] (defScope sLawDrawing) := ⟨rfl, rfl, rfl, by decide +kernel, rfl, by decide +kernel, by decide +kernel⟩
theorem ok_drawing {f : Addr} {fd : FuncData} (F : FD K "_law_drawing" sLawDrawing f fd) (T : Tx K mg) (C_law_draw : Fn P w K mg base "_law_draw" ["state", "many"] 1 spDraw []) (C_law_lower : Fn P w K mg base "_law_lower" ["state", "most"] 2 spFree [])
    (C_law_free : Fn P w K mg base "_law_free" ["state", "most"] 2 spFree []) (C_law_doubled : Fn P w K mg base "_law_doubled" ["state", "base"] 2 spDoubled []) : FnOk P w K mg base CX0 3 f fd ["state"] spDrawing := by
  refine F.ok scLawDrawing (fun vs H Q E h => ?_) (fun cdv A outer s H vs Q E hr h => ?_)
  · obtain ⟨_, _, rfl, _⟩ := h
    rfl
  · obtain ⟨p, g, rfl, d, k⟩ := h
    have nd := scLawDrawing.nd
    refine ⟨_, PSs.nox (pss_cons (ps_set (i := 1) nd rfl (by first | exact Or.inl rfl | exact Or.inr rfl) (pe_fn C_law_draw hr rfl (pa_cons (pv 0) (pa_cons pe_int pa_nil))))
      (pss_cons (ps_set (i := 2) nd rfl (by first | exact Or.inl rfl | exact Or.inr rfl) (pe_fn C_law_lower hr rfl (pa_cons (pv 0) (pa_cons pe_int pa_nil))))
      (pss_cons (ps_if (pt_cmpR op_lt (pv 1) pe_int (nomark _)) (pss_one (ps_set (i := 2) nd rfl (by first | exact Or.inl rfl | exact Or.inr rfl) (pe_fn C_law_free hr rfl (pa_cons (pv 0) (pa_cons pe_int pa_nil))))) pss_nil)
      (pss_cons (ps_if (PW.pt (pw_or (pt_cmpR op_eq (pv 1) pe_int (nomark _)) (pw_or1 (pt_cmpR op_eq (pv 1) pe_int (nomark _))))) (pss_one (ps_set (i := 2) nd rfl (by first | exact Or.inl rfl | exact Or.inr rfl) (pe_fn C_law_doubled hr rfl (pa_cons (pv 0) (pa_cons (pv 2) pa_nil))))) pss_nil)
      (pss_cons (ps_set (i := 3) nd rfl (by first | exact Or.inl rfl | exact Or.inr rfl) (pe_lst pa_nil))
      (pss_cons (ps_for PassesOwn.never rfl (pi_range1 rfl T.f_range (pa_cons (pe_callB (clen K) rfl T.f_len boot_len (pa_cons (pv 2) pa_nil)) pa_nil)) (pg_name (i := 4) nd rfl (by first | exact Or.inl rfl | exact Or.inr rfl)) (pss_one (ps_expr (pbm K PySem.F.plainAttrs_list PySem.F.slot_list_insert PySem.F.type_list_insert mt_insert (pv 3) (pa_cons (pe_fn C_law_draw hr rfl (pa_cons (pv 0) (pa_cons (pe_op op_add (pv 4) pe_int) pa_nil))) (pa_cons (pv 4) pa_nil))))))
      (pss_cons (ps_set (i := 5) nd rfl (by first | exact Or.inl rfl | exact Or.inr rfl) (pe_lst pa_nil))
      (pss_cons (ps_for PassesOwn.never rfl (pil K (pv 3)) (pg_name (i := 6) nd rfl (by first | exact Or.inl rfl | exact Or.inr rfl)) (pss_one (ps_expr (pbm K PySem.F.plainAttrs_list PySem.F.slot_list_append PySem.F.type_list_append mt_append (pv 5) (pa_cons (pe_callB (csorted K) rfl T.f_sorted (by decide +kernel) (pa_cons (pe_lc rfl nd (pil K (pe_ix (ixl K) (pv 2) (pv 6) (fun _ _ => rfl))) (blkOk_by (own := [("place", 7)]) (N := NLawDrawing) (sc := defScope sLawDrawing) (by decide +kernel)) (fun _ _ _ _ _ => (pg_name (i := 7) nd rfl (by first | exact Or.inl rfl | exact Or.inr rfl))) (fun _ _ _ _ _ => pts_nil) (fun _ _ _ _ _ => (pe_callTy call_int1 rfl T.f_int (by decide +kernel) (pa_cons (pbm K PySem.F.plainAttrs_list PySem.F.slot_list_index PySem.F.type_list_index (mindex K) (pv 3) (pa_cons (pv 7) pa_nil)) pa_nil)))) pa_nil)) pa_nil)))))
      (pss_one (ps_ret (pv 5))))))))))), ?_⟩
    refine q_asgS (p := p) (g := g) (es_draw (many := 5) (ev_ref rfl) ev_nat (by decide) (by decide)) d fun v H1 k1 d1 ⟨way, hw, e⟩ => ?_
    subst e
    rw [Nat.zero_add]
    refine q_asgS (p := p) (g := g) (es_free (most := 12) (ev_ref rfl) ev_nat (by decide) (by decide)) d1 fun v2 H2 k2 d2 r2 => ?_
    have k02 := k1.trans k2
    refine q_whenJ (b := decide (way < 3)) (fun σ' H' => ∃ v2, σ' = [some (.ref p), some (nV way), some v2, none, none, none, none, none] ∧ Kp [p, g] H H' ∧ DS p g H' ∧ drawnP p g 12 H' v2) (et_val (M := []) (ev_ltN (M := []) (ev_var (r := rN) rfl rfl) ev_nat)) (fun tsk hJ _ H3 s3 => ?_) (fun _ H3 s3 => ⟨v2, rfl, k02.trans (Kp.of s3), d2.same s3, r2.same s3⟩) ?_
    · refine s_asgS (p := p) (g := g) (es_free (most := 7) (ev_ref rfl) ev_nat (by decide) (by decide)) (d2.same s3) fun v3 H4 k4 d4 ⟨D, h1, h2, h3, h4⟩ => hJ _ _ ⟨v3, rfl, (k02.trans (Kp.of s3)).trans k4, d4, D, h1, h2, h3, by omega⟩
    rintro σ' H3 ⟨v3, rfl, k3, d3, r3⟩
    refine q_whenJ (b := decide (way = 0) || decide (way = 4)) (fun σ' H' => ∃ v2, σ' = [some (.ref p), some (nV way), some v2, none, none, none, none, none] ∧ Kp [p, g] H H' ∧ DS p g H' ∧ drawnP p g 12 H' v2) (et_or (et_val (M := []) (ev_eqN (M := []) (ev_var (r := rN) rfl rfl) ev_nat)) fun _ => et_val (M := []) (ev_eqN (M := []) (ev_var (r := rN) rfl rfl) ev_nat)) (fun tsk hJ _ H4 s4 => ?_) (fun _ H4 s4 => ⟨v3, rfl, k3.trans (Kp.of s4), d3.same s4, r3.same s4⟩) ?_
    · obtain ⟨B, b1, b2, b3, b4⟩ := r3
      exact s_asgS (p := p) (g := g) (es_doubled (ev_ref rfl) (ev_var rfl (Rep.same s4 b1)) b2 b3 b4) (d3.same s4) fun v5 H5 k5 d5 r5 => hJ _ _ ⟨v5, rfl, (k3.trans (Kp.of s4)).trans k5, d5, r5⟩
    rintro σ' H4 ⟨v4, rfl, k4, d4, R, hR, gR, hR0, hR1⟩
    -- order
    refine q_new fun oa noa => ?_
    have hoa : oa ∉ [p, g] := d4.out noa
    have so : Same H4 (upd H4 oa (.lst [])) := Same.new (Same.refl _) noa
    refine q_forR1 (n := R.length) (M := []) (ev_len (ev_var rfl (Rep.sub (by simp) (Rep.same so hR)))) (by omega) fun H5 s5 => ?_
    refine ⟨fun i σ' H' => ∃ (c4 : Option V) (od : List Nat), σ' = [some (.ref p), some (nV way), some v4, some (.ref oa), c4, none, none, none] ∧ Kp [p, g] H4 H' ∧ DS p g H' ∧ H' oa = some (.lst (od.map nV)) ∧ od.Perm (List.range i),
      ⟨none, [], rfl, (Kp.of so).trans (Kp.of s5), (d4.mut hoa (H := H4)).same s5, s5 _ _ upd_same, .nil⟩, ?_, ?_⟩
    · rintro i σ' H6 hi ⟨c4, od, rfl, k6, d6, g6, pm⟩
      rw [Nat.zero_add] at hi ⊢
      have hol : od.length = i := by rw [pm.length_eq, List.length_range]
      refine s_insS (p := p) (g := g) (many := i + 1) (v := nV i) (ev_ref rfl) g6 hoa d6 (fun H7 s7 => es_draw (ev_ref rfl) (ev_addN (ev_var (r := rN) rfl rfl) ev_nat) (by omega) (by omega)) (fun H7 => ev_ref rfl) (by rw [List.length_map]; omega) (by omega) fun r H8 H9 hr' k8 d8 s9 => ?_
      refine ⟨_, od.take r ++ [i] ++ od.drop r, rfl, ?_, (d8.same s9).mut hoa (H := H4), ?_, perm_insert pm⟩
      · intro c u n e
        have z := ((k6.trans k8).trans (Kp.of s9)) c u n e
        rw [upd_ne (ne_of_none e noa)]
        exact z
      · rw [upd_same]
        simp [List.map_take, List.map_drop]
    rintro σ' H6 ⟨c4, od, rfl, k6, d6, g6, pm⟩
    rw [Nat.sub_zero] at pm
    have hol : od.length = R.length := by rw [pm.length_eq, List.length_range]
    have hod : ∀ x, x ∈ od ↔ x < R.length := fun x => by rw [pm.mem_iff, List.mem_range]
    have hnd : od.Nodup := pm.nodup_iff.mpr List.nodup_range
    have hR6 : rD [p, g] H6 v4 R := Rep.mono k6 hR
    have ho6 : rL rN [p, g] H6 (.ref oa) od := ⟨oa, _, rfl, hoa, g6, rN.F2⟩
    -- moved
    refine q_new fun a na => ?_
    have ha := d6.out na
    have sA : Same H6 (upd H6 a (.lst [])) := Same.new (Same.refl _) na
    have dA : DS p g (upd H6 a (.lst [])) := d6.mut ha (H := H6)
    have oldA : Old (a :: [p, g]) (upd H6 a (.lst [])) := dA.old.cons upd_same
    have hRA : rD (a :: [p, g]) (upd H6 a (.lst [])) v4 R := Rep.same sA (Rep.new na hR6)
    have hoA : rL rN (a :: [p, g]) (upd H6 a (.lst [])) (.ref oa) od := Rep.same sA (Rep.new na ho6)
    refine q_forL (r := rN) (L := [a]) (M := a :: [p, g]) (xs := od) (ev_var rfl hoA) (by simp) fun H7 s7 => ?_
    refine ⟨fun i σ' H' => ∃ (c6 c7 : Option V) (vs : List V), σ' = [some (.ref p), some (nV way), some v4, some (.ref oa), c4, some (.ref a), c6, c7] ∧ Kp [a] H7 H' ∧ H' a = some (.lst vs) ∧ vs.length = i ∧ F2 (rL rN (a :: [p, g]) H') vs ((od.take i).map fun old => asc ((rowOf R old).map fun x => od.idxOf x)),
      ⟨none, none, [], rfl, Kp.refl _ _, s7 _ _ upd_same, rfl, by simpa using F2.nil⟩, fun i σ' H' ⟨_, _, _, _, z, _⟩ => z, ?_, ?_⟩
    · rintro i v old σ' H8 hold rfl ⟨c6, c7, vs, rfl, k8, g8, hlen, f8⟩
      have holt : old < R.length := (hod old).mp (List.mem_of_getElem? hold)
      have hil : i < od.length := (List.getElem?_eq_some_iff.mp hold).1
      have kA : Kp (a :: [p, g]) H7 H8 := k8.sub (by simp)
      have old8 : Old (a :: [p, g]) H8 := (oldA.same s7).kp k8 fun b hb => by
        rw [List.mem_singleton.mp hb]
        exact ⟨_, g8⟩
      have hR8 : rD (a :: [p, g]) H8 v4 R := Rep.mono kA (Rep.same s7 hRA)
      have ho8 : rL rN (a :: [p, g]) H8 (.ref oa) od := Rep.mono kA (Rep.same s7 hoA)
      have hrl : (rowOf R old).length ≤ 12 := Nat.le_trans (asc_len (gR.asc old) fun z hz => (gR.lt hz).1) hR1
      have nd2 : ((rowOf R old).map fun x => od.idxOf x).Nodup := by
        refine List.pairwise_map.mpr (List.Pairwise.imp_of_mem (fun {x y} hx hy hxy e => ?_) (gR.asc old))
        have h1 := List.idxOf_lt_length_iff.mpr ((hod x).mpr (gR.lt hx).1)
        have h2 := List.idxOf_lt_length_iff.mpr ((hod y).mpr (gR.lt hy).1)
        have e1 : od[od.idxOf x] = x := List.getElem_idxOf h1
        have e2 : od[od.idxOf y] = y := List.getElem_idxOf h2
        have : x = y := by rw [← e1, ← e2]; simp only [e]
        omega
      refine s_app (P := newF nV H8 (asc ((rowOf R old).map fun x => od.idxOf x))) (ev_ref rfl) g8 (ev_sorted nd2 (by rw [List.length_map]; omega) (ev_lcM (r := rN) (q := rN) old8 (fun x => od.idxOf x) (ev_ixL (n := old) (ev_var rfl hR8) (ev_var (r := rN) rfl rfl) (rowOf_get holt)) (by omega) (fun _ => rfl) fun M' H9 v x up hx rv => ?_)) (by omega) fun v H9 s9 ⟨b, e, nb, gb⟩ => ?_
      · exact ev_int1 (M := M') (i := ((od.idxOf x : Nat) : Int)) (ev_index ((hod x).mpr (gR.lt hx).1) (ev_var rfl (up.lift ho8)) (ev_var rfl rv))
      · subst e
        have km : Kp (a :: [p, g]) H8 (upd H9 a (.lst (vs ++ [.ref b]))) := (Kp.of s9).mut (by simp)
        refine ⟨_, _, vs ++ [.ref b], rfl, (k8.trans (Kp.of s9)).mut (by simp), upd_same, by simp [hlen], ?_⟩
        rw [List.take_add_one, hold]
        simp only [Option.toList_some, List.map_append, List.map_cons, List.map_nil]
        refine (F2.mono km f8).snoc ⟨b, _, rfl, old8.fresh nb, ?_, rN.F2⟩
        rw [upd_ne (ne_of_none g8 nb).symm]
        exact gb
    · rintro σ' H8 ⟨c6, c7, vs, rfl, k8, g8, hlen, f8⟩
      rw [List.take_length] at f8
      have kA : Kp (a :: [p, g]) H7 H8 := k8.sub (by simp)
      have k68 : Kp [p, g] H6 H8 := Kp.of (Same.kp (sA.trans s7) k8 (by simp [na]))
      have d8 : DS p g H8 := (dA.same s7).kp k8 (fun q => ha (by rw [← List.mem_singleton.mp q]; simp)) (fun q => ha (by rw [← List.mem_singleton.mp q]; simp))
      have hM : rD [p, g] H8 (.ref a) (od.map fun old => asc ((rowOf R old).map fun x => od.idxOf x)) := rL.own g8 ha f8
      refine s_ret (P := as rD [p, g] (od.map fun old => asc ((rowOf R old).map fun x => od.idxOf x))) (ev_var rfl hM) fun v H9 s9 hv => ?_
      refine k v H9 _ (((k4.trans k6).trans k68).trans (Kp.of s9)) (d8.same s9) hv (good_of (n := od.length) (by simp) fun row hr => ?_) (by simp; omega) (by simp; omega)
      obtain ⟨old, ho, rfl⟩ := List.mem_map.mp hr
      refine ⟨asc_pw _, fun x hx => ?_⟩
      obtain ⟨y, hy, rfl⟩ := List.mem_map.mp (mem_asc.mp hx)
      exact List.idxOf_lt_length_iff.mpr ((hod y).mpr (gR.lt hy).1)
end
end K80

namespace K80
open PySem PySem.Spec PyProof.Rows L2 Rp
def spClasses : Sp := fun vs H Q _ => ∃ (M : List Addr) (v1 : V) (D : List (List Nat)), vs = [v1] ∧ Old M H ∧ rD M H v1 D ∧ Good D ∧ 0 < D.length ∧ D.length < 64 ∧ ∀ v H2 (N : List Nat), Same H H2 → rL rN M H2 v N → Cls D N → Q v H2
section
variable {P : Program} {w : World} {K : PySem.W.Frag} {mg : Str → Option Value} {base : Heap}
abbrev NLawClasses : List Str := ["drawing", "numbers", "row", "turn", "keys", "at", "place", "fresh", "key"]
theorem scLawClasses : FnScope NLawClasses ["drawing"] (defScope sLawClasses) := ⟨rfl, rfl, rfl, by decide +kernel, rfl, by decide +kernel, by decide +kernel⟩
theorem ok_classes {f : Addr} {fd : FuncData} (F : FD K "_law_classes" sLawClasses f fd) (T : Tx K mg) : FnOk P w K mg base CX0 1 f fd ["drawing"] spClasses := by
  refine F.ok scLawClasses (fun vs H Q E h => ?_) (fun cdv A outer s H vs Q E hr h => ?_)
  · obtain ⟨_, _, _, rfl, _⟩ := h
    rfl
  · obtain ⟨M, v1, D, rfl, d, h1, hD, hpos, hz, k⟩ := h
    have nd := scLawClasses.nd
    refine ⟨_, PSs.nox (pss_cons (ps_set (i := 1) nd rfl (by first | exact Or.inl rfl | exact Or.inr rfl) (pe_lc rfl nd (pil K (pv 0)) (blkOk_by (own := [("row", 2)]) (N := NLawClasses) (sc := defScope sLawClasses) (by decide +kernel)) (fun _ _ _ _ _ => (pg_name (i := 2) nd rfl (by first | exact Or.inl rfl | exact Or.inr rfl))) (fun _ _ _ _ _ => pts_nil) (fun _ _ _ _ _ => pe_int)))
      (pss_cons (ps_for PassesOwn.never rfl (pi_range1 rfl T.f_range (pa_cons (pe_op op_add (pe_callB (clen K) rfl T.f_len boot_len (pa_cons (pv 0) pa_nil)) pe_int) pa_nil)) (pg_name (i := 3) nd rfl (by first | exact Or.inl rfl | exact Or.inr rfl)) (pss_cons (ps_set (i := 4) nd rfl (by first | exact Or.inl rfl | exact Or.inr rfl) (pe_lst pa_nil))
      (pss_cons (ps_for PassesOwn.never rfl (pi_range1 rfl T.f_range (pa_cons (pe_callB (clen K) rfl T.f_len boot_len (pa_cons (pv 0) pa_nil)) pa_nil)) (pg_name (i := 5) nd rfl (by first | exact Or.inl rfl | exact Or.inr rfl)) (pss_one (ps_expr (pbm K PySem.F.plainAttrs_list PySem.F.slot_list_append PySem.F.type_list_append mt_append (pv 4) (pa_cons (pe_lst (pa_cons (pe_ix (ixl K) (pv 1) (pv 5) (fun _ _ => rfl)) (pa_cons (pe_callB (csortset w) rfl T.f_sorted (by decide +kernel) (pa_cons (pe_callTy (cr_setL K w) rfl T.f_set (by decide +kernel) (pa_cons (pe_lc rfl nd (pil K (pe_ix (ixl K) (pv 0) (pv 5) (fun _ _ => rfl))) (blkOk_by (own := [("place", 6)]) (N := NLawClasses) (sc := defScope sLawClasses) (by decide +kernel)) (fun _ _ _ _ _ => (pg_name (i := 6) nd rfl (by first | exact Or.inl rfl | exact Or.inr rfl))) (fun _ _ _ _ _ => pts_nil) (fun _ _ _ _ _ => (pe_callTy call_int1 rfl T.f_int (by decide +kernel) (pa_cons (pe_ix (ixl K) (pv 1) (pv 6) (fun _ _ => rfl)) pa_nil)))) pa_nil)) pa_nil)) pa_nil))) pa_nil)))))
      (pss_cons (ps_setLc (i := 7) rfl nd rfl rfl (sw_true rfl rfl rfl (by decide +kernel)) (pil K (pv 4)) (blkOk_by (own := [("key", 8)]) (N := NLawClasses) (sc := defScope sLawClasses) (by decide +kernel)) (fun _ _ _ _ _ => (pg_name (i := 8) nd rfl (by first | exact Or.inl rfl | exact Or.inr rfl))) (fun _ _ _ _ _ => pts_nil) (fun _ _ _ _ _ => (pbm K PySem.F.plainAttrs_list PySem.F.slot_list_index PySem.F.type_list_index (mindexD K (units65 hr)) (pv 4) (pa_cons (pv 8) pa_nil))))
      (pss_cons (ps_if (pt_cmpR (oeqD K hr.units) (pv 7) (pv 1) (nomark _)) (pss_one (ps_ret (pv 1))) pss_nil)
      (pss_one (ps_set (i := 1) nd rfl (by first | exact Or.inl rfl | exact Or.inr rfl) (pv 7))))))))
      (pss_one (ps_ret (pv 1))))), ?_⟩
    have hrow : ∀ x, (rowOf D x).length < 64 := fun x => Nat.lt_of_le_of_lt (asc_len (hD.asc x) fun y hy => (hD.lt hy).1) hz
    refine q_asg (P := as (rL rN) M (D.map fun _ => 0)) (ev_lcM (r := rL rN) (q := rN) d (fun _ => 0) (ev_var rfl h1) (by omega) (fun _ => rfl) fun M' H1 v x up hx rv => ev_nat) fun v2 H1 s1 h2 => ?_
    refine q_forR1 (n := D.length + 1) (M := M) (ev_addN (ev_len (ev_var rfl (Rep.same s1 h1))) ev_nat) (by omega) fun H2 s2 => ?_
    refine ⟨fun i σ' H' => ∃ (N : List Nat) (v2 : V) (c2 c3 c4 c5 c6 c7 c8 : Option V), σ' = [some v1, some v2, c2, c3, c4, c5, c6, c7, c8] ∧ Same H H' ∧ rL rN M H' v2 N ∧ Can D N ∧ i + 1 ≤ fixd D N, ⟨_, v2, none, none, none, none, none, none, none, rfl, s1.trans s2, Rep.same s2 h2, Can.start, fix_start hpos⟩, ?_, ?_⟩
    · rintro i σ' H3 hi ⟨N, v2, c2, c3, c4, c5, c6, c7, c8, rfl, s3, hN, C, hf⟩
      refine q_new fun a na => ?_
      have sa : Same H3 (upd H3 a (.lst [])) := Same.new (Same.refl _) na
      have d3 := d.same s3
      have dA : Old (a :: M) (upd H3 a (.lst [])) := (d3.same sa).cons upd_same
      have h1A : rD (a :: M) (upd H3 a (.lst [])) v1 D := Rep.same sa (Rep.new na (Rep.same s3 h1))
      have hNA : rL rN (a :: M) (upd H3 a (.lst [])) v2 N := Rep.same sa (Rep.new na hN)
      refine q_forR1 (n := D.length) (M := a :: M) (ev_len (ev_var rfl h1A)) (by omega) fun H4 s4 => ?_
      refine ⟨fun j σ' H' => ∃ (c5 c6 : Option V) (vs : List V), σ' = [some v1, some v2, c2, some (.int ((0 + i : Nat) : Int)), some (.ref a), c5, c6, c7, c8] ∧ Kp [a] H4 H' ∧ H' a = some (.lst vs) ∧ vs.length = j ∧ F2 (rKL (a :: M) H') vs ((List.range j).map fun at_ => (nb N at_, heldN N (rowOf D at_))),
        ⟨_, _, [], rfl, Kp.refl _ _, s4 _ _ upd_same, rfl, .nil⟩, ?_, ?_⟩
      · rintro j σ' H5 hj ⟨c5, c6, vs, rfl, k5, g5, hl, f5⟩
        rw [Nat.zero_add] at hj ⊢
        have kA : Kp (a :: M) H4 H5 := k5.sub (by simp)
        have d5 : Old (a :: M) H5 := (dA.same s4).kp k5 fun b hb => by rw [List.mem_singleton.mp hb]; exact ⟨_, g5⟩
        have h15 : rD (a :: M) H5 v1 D := Rep.mono kA (Rep.same s4 h1A)
        have hN5 : rL rN (a :: M) H5 v2 N := Rep.mono kA (Rep.same s4 hNA)
        have nget : ∀ x, x < D.length → N[x]? = some (nb N x) := fun x hx => by
          have hxl : x < N.length := by rw [C.len]; exact hx
          rw [List.getElem?_eq_getElem hxl, show nb N x = N[x] from getD_lt hxl]
        have hin : EvA (tCons (tOp (rIxL K) (tVar 1) (tVar 5)) (tCons (tCB (rSortedSet w) (tCons (tCB (rSetL K w) (tCons (tLc (iList K (tOp (rIxL K) (tVar 0) (tVar 5))) (gName 6) tYes (tCB (fun xs H Q => (∃ i, xs = [V.int i] ∧ Q (.int i) H) ∨ ∃ k, xs = [V.bl k] ∧ Q (.int (if k then 1 else 0)) H) (tCons (tOp (rIxL K) (tVar 1) (tVar 6)) tNil)) ([("place", 6)].map (·.2))) tNil)) tNil)) tNil))
            [some v1, some v2, c2, some (.int ((0 + i : Nat) : Int)), some (.ref a), some (nV j), c6, c7, c8] H5 (fun H1 vs => ∃ v w, vs = [v, w] ∧ rN (a :: M) H1 v (nb N j) ∧ rL rN (a :: M) H1 w (heldN N (rowOf D j))) := by
          refine ea_2r (r := rN) (q := rL rN) (ev_ixL (n := j) (ev_var rfl hN5) (ev_var (r := rN) rfl rfl) (nget j hj)) (Ev.own d5 (ev_sortset (ev_setL (ev_lcM (r := rN) (q := rN) d5 (fun x => nb N x) (ev_ixL (n := j) (ev_var rfl h15) (ev_var (r := rN) rfl rfl) (rowOf_get hj)) (by have := hrow j; omega) (fun _ => rfl) fun M' H6 v x up hx rv => ?_) (by rw [List.length_map]; have := hrow j; omega)) (by rw [List.length_map]; exact hrow j)))
          exact ev_int1 (M := M') (i := ((nb N x : Nat) : Int)) (ev_ixL (r := rN) (n := x) (ev_var rfl (up.lift hN5)) (ev_var rfl rv) (nget x (hD.lt hx).1))
        refine s_app (P := as rKL (a :: M) (nb N j, heldN N (rowOf D j))) (ev_ref rfl) g5 (fun H6 s6 Q kk => hin H6 s6 _ fun vs H7 s7 ⟨w1, w2, e, p1, p2⟩ => ?_) (by omega) fun v H8 s8 hv => ?_
        · subst e
          obtain rfl : w1 = nV (nb N j) := p1
          refine ⟨by show 2 ≤ sizeLine; decide, fun b hb => ?_⟩
          have sb : Same H7 (upd H7 b (.lst [nV (nb N j), w2])) := Same.new (Same.refl _) hb
          exact kk _ _ (s7.trans sb) ⟨b, w2, rfl, ((d5.same s6).same s7).fresh hb, upd_same, Rep.same sb p2⟩
        · have km : Kp (a :: M) H5 (upd H8 a (.lst (vs ++ [v]))) := (Kp.of s8).mut (by simp)
          have km2 : Kp (a :: M) H8 (upd H8 a (.lst (vs ++ [v]))) := (Kp.refl _ _).mut (by simp)
          refine ⟨_, _, vs ++ [v], rfl, (k5.trans (Kp.of s8)).mut (by simp), upd_same, by simp [hl], ?_⟩
          rw [List.range_succ, List.map_append]
          exact (F2.mono km f5).snoc (Rep.mono km2 hv)
      · rintro σ' H5 ⟨c5, c6, vs, rfl, k5, g5, hl, f5⟩
        rw [Nat.sub_zero] at hl f5
        have s35 : Same H3 H5 := Same.kp (sa.trans s4) k5 (by simp [na])
        have d5 := d3.same s35
        have hK : rL rKL M H5 (.ref a) (keysN D N) := rL.own g5 (d3.fresh na) f5
        have hN5 : rL rN M H5 v2 N := Rep.same s35 hN
        refine q_asg (P := as (rL rN) M (nextN D N)) (ev_lcM (r := rKL) (q := rN) d5 (fun k => (keysN D N).idxOf k) (ev_var rfl hK) (by rw [keysN_len]; omega) (fun _ => rfl) fun M' H6 v x up hx rv => ev_indexD (r := rKL) (by decide) hx (ev_var rfl (up.lift hK)) (ev_var rfl rv)) fun v7 H6 s6 h7 => ?_
        have s36 := s3.trans (s35.trans s6)
        refine q_when (b := decide (nextN D N = N)) (et_val (M := M) (ev_eqD (r := rL rN) (ha := ev_var rfl h7) (hb := ev_var rfl (Rep.same s6 hN5)))) (fun hb H7 s7 => ?_) (fun hb H7 s7 => ?_)
        · have e : nextN D N = N := by simpa using hb
          refine s_ret (P := as (rL rN) M N) (ev_var rfl (Rep.same (s6.trans s7) hN5)) fun v H8 s8 hv => k v H8 N ((s36.trans s7).trans s8) hv (C.stop hD e)
        · have e : nextN D N ≠ N := by simpa using hb
          refine s_asg (P := as (rL rN) M (nextN D N)) (ev_var rfl (Rep.same s7 h7)) fun v H8 s8 hv => ?_
          have := C.more hD e
          exact ⟨_, v, _, _, _, _, _, _, _, rfl, (s36.trans s7).trans s8, hv, C.next hD, by omega⟩
    · rintro σ' H3 ⟨N, v2, c2, c3, c4, c5, c6, c7, c8, rfl, s3, hN, C, hf⟩
      have := fix_le (D := D) (N := N)
      omega
end
end K80

namespace K80
open PySem PySem.Spec PyProof.Rows L2 Rp
def spLSettled : Sp := fun vs H Q _ => ∃ (M : List Addr) (v1 : V) (D : List (List Nat)), vs = [v1] ∧ Old M H ∧ rD M H v1 D ∧ Good D ∧ D.length < 64 ∧ ∀ v H2 S, Same H H2 → rL rN M H2 v S → S.Nodup → (∀ x, x ∈ S ↔ x < D.length ∧ Sttl D x) → Q v H2
def spLReached : Sp := fun vs H Q _ => ∃ (M : List Addr) (v1 v2 : V) (D : List (List Nat)) (p : Nat), vs = [v1, v2] ∧ Old M H ∧ rD M H v1 D ∧ rN M H v2 p ∧ Good D ∧ p < D.length ∧ D.length < 64 ∧ ∀ v H2 R, Same H H2 → rL rN M H2 v R → R.length ≤ D.length → (∀ x, x ∈ R ↔ Reach D p x) → Q v H2
section
variable {P : Program} {w : World} {K : PySem.W.Frag} {mg : Str → Option Value} {base : Heap}
abbrev NLawSettled : List Str := ["drawing", "settled", "turn", "at", "place"]
theorem scLawSettled : FnScope NLawSettled ["drawing"] (defScope sLawSettled) := ⟨rfl, rfl, rfl, by decide +kernel, rfl, by decide +kernel, by decide +kernel⟩
theorem ok_lsettled {f : Addr} {fd : FuncData} (F : FD K "_law_settled" sLawSettled f fd) (T : Tx K mg) : FnOk P w K mg base CX0 1 f fd ["drawing"] spLSettled := by
  refine F.ok scLawSettled (fun vs H Q E h => ?_) (fun cdv A outer s H vs Q E hr h => ?_)
  · obtain ⟨_, _, _, rfl, _⟩ := h
    rfl
  · obtain ⟨M, v1, D, rfl, d, h1, hD, hz, k⟩ := h
    have nd := scLawSettled.nd
    refine ⟨_, PSs.nox (pss_cons (ps_set (i := 1) nd rfl (by first | exact Or.inl rfl | exact Or.inr rfl) (pe_lst pa_nil))
      (pss_cons (ps_for PassesOwn.never rfl (pi_range1 rfl T.f_range (pa_cons (pe_callB (clen K) rfl T.f_len boot_len (pa_cons (pv 0) pa_nil)) pa_nil)) (pg_name (i := 2) nd rfl (by first | exact Or.inl rfl | exact Or.inr rfl)) (pss_one (ps_for PassesOwn.never rfl (pi_range1 rfl T.f_range (pa_cons (pe_callB (clen K) rfl T.f_len boot_len (pa_cons (pv 0) pa_nil)) pa_nil)) (pg_name (i := 3) nd rfl (by first | exact Or.inl rfl | exact Or.inr rfl)) (pss_one (ps_if (PW.pt (pw_and (pt_cmpR (onin K) (pv 3) (pv 1) (by with_unfolding_all rfl)) (pw_and1 (pt_cmpR op_eq (pe_callB (clen K) rfl T.f_len boot_len (pa_cons (pe_lc rfl nd (pil K (pe_ix (ixl K) (pv 0) (pv 3) (fun _ _ => rfl))) (blkOk_by (own := [("place", 4)]) (N := NLawSettled) (sc := defScope sLawSettled) (by decide +kernel)) (fun _ _ _ _ _ => (pg_name (i := 4) nd rfl (by first | exact Or.inl rfl | exact Or.inr rfl))) (fun _ _ _ _ _ => pts_one (pt_cmpR (onin K) (pv 4) (pv 1) (by with_unfolding_all rfl))) (fun _ _ _ _ _ => (pv 4))) pa_nil)) pe_int (nomark _))))) (pss_one (ps_expr (pbm K PySem.F.plainAttrs_list PySem.F.slot_list_append PySem.F.type_list_append mt_append (pv 1) (pa_cons (pv 3) pa_nil)))) pss_nil)))))
      (pss_one (ps_ret (pv 1))))), ?_⟩
    have hrow : ∀ x, (rowOf D x).length < 64 := fun x => Nat.lt_of_le_of_lt (asc_len (hD.asc x) fun y hy => (hD.lt hy).1) hz
    refine q_new fun ps np => ?_
    have s0 : Same H (upd H ps (.lst [])) := Same.new (Same.refl _) np
    have hps : ps ∉ M := d.fresh np
    refine q_forR1 (n := D.length) (M := M) (ev_len (ev_var rfl (Rep.same s0 h1))) (by omega) fun H1 s1 => ?_
    refine ⟨fun i σ' H' => ∃ (S : List Nat) (c2 c3 c4 : Option V), σ' = [some v1, some (.ref ps), c2, c3, c4] ∧ Same H H' ∧ H' ps = some (.lst (S.map nV)) ∧ SI D S ∧ (i ≤ S.length ∨ Shut D S), ⟨[], none, none, none, rfl, s0.trans s1, s1 _ _ upd_same, SI.nil, .inl (Nat.zero_le _)⟩, ?_, ?_⟩
    · rintro i σ' H2 hi ⟨S0, c2, c3, c4, rfl, s2, g2, si, hor⟩
      refine s_forR1 (n := D.length) (M := M) (ev_len (ev_var rfl (Rep.same s2 h1))) (by omega) fun H3 s3 => ?_
      refine ⟨fun j σ' H' => ∃ (S : List Nat) (c3 c4 : Option V), σ' = [some v1, some (.ref ps), some (.int ((0 + i : Nat) : Int)), c3, c4] ∧ Same H H' ∧ H' ps = some (.lst (S.map nV)) ∧ SP D S0 j S, ⟨S0, _, _, rfl, s2.trans s3, s3 _ _ g2, SP.start si⟩, ?_, ?_⟩
      · rintro j σ' H4 hj ⟨S, c3, c4, rfl, s4, g4, I⟩
        rw [Nat.zero_add] at hj ⊢
        have hS : rL rN M H4 (.ref ps) S := ⟨ps, _, rfl, hps, g4, rN.F2⟩
        have d4 := d.same s4
        have h14 := Rep.same s4 h1
        refine s_when (b := (!decide (j ∈ S)) && decide ((((rowOf D j).filter fun y => !decide (y ∈ S)).map id).length = 0)) (et_and (et_val (M := M) (ev_nin (ev_var (r := rN) rfl rfl) (ev_var rfl hS))) fun _ => et_val (M := M) (ev_eqN (ev_len (ev_lcL (r := rN) (q := rN) d4 (fun y => !decide (y ∈ S)) id (ev_ixL (n := j) (ev_var rfl h14) (ev_var (r := rN) rfl rfl) (rowOf_get hj)) (by have := hrow j; omega) (fun _ => rfl) (fun M' H5 v y up hy rv => et_val (M := M') (ev_nin (ev_var rfl rv) (ev_var rfl (up.lift hS)))) (fun M' H5 v y up hy rv _ => ev_var rfl rv))) ev_nat)) (fun hb H5 s5 => ?_) (fun hb H5 s5 => ?_)
        · rw [Bool.and_eq_true, decide_eq_true_eq, List.map_id, List.length_eq_zero_iff, List.filter_eq_nil_iff] at hb
          have hn : j ∉ S := by simpa using hb.1
          have hl := I.si.len
          refine s_app (P := fun _ w => w = nV j) (ev_ref rfl) (s5 _ _ g4) (ev_ref rfl) (by rw [List.length_map]; omega) fun v H6 s6 e => ?_
          subst e
          exact ⟨S ++ [j], _, _, rfl, Same.mut ((s4.trans s5).trans s6) np, by rw [upd_same]; simp, I.add hj hn fun y hy => by simpa using hb.2 y hy⟩
        · refine ⟨S, _, _, rfl, s4.trans s5, s5 _ _ g4, I.skip ?_⟩
          by_cases hm : j ∈ S
          · exact .inl hm
          · refine .inr ?_
            rw [Bool.and_eq_false_iff] at hb
            rcases hb with hb | hb
            · simp [hm] at hb
            · rw [decide_eq_false_iff_not, List.map_id, List.length_eq_zero_iff, List.filter_eq_nil_iff] at hb
              by_cases q : ∃ y ∈ rowOf D j, y ∉ S
              · exact q
              · exact absurd (fun y hy => by
                  have : y ∈ S := Classical.byContradiction fun z => q ⟨y, hy, z⟩
                  simp [this]) hb
      · rintro σ' H4 ⟨S, c3, c4, rfl, s4, g4, I⟩
        rw [Nat.sub_zero] at I
        obtain ⟨si', h'⟩ := I.done hor
        exact ⟨S, _, _, _, rfl, s4, g4, si', h'⟩
    · rintro σ' H2 ⟨S, c2, c3, c4, rfl, s2, g2, si, hor⟩
      rw [Nat.sub_zero] at hor
      obtain ⟨t1, t2⟩ := si.told hD hor
      refine s_ret (P := as (rL rN) M S) (ev_var rfl (⟨ps, _, rfl, hps, g2, rN.F2⟩ : rL rN M H2 (.ref ps) S)) fun v H3 s3 hv => k v H3 S (s2.trans s3) hv t1 t2
abbrev NLawReached : List Str := ["drawing", "place", "reached", "turn", "held"]
theorem scLawReached : FnScope NLawReached ["drawing", "place"] (defScope sLawReached) := ⟨rfl, rfl, rfl, by decide +kernel, rfl, by decide +kernel, by decide +kernel⟩
theorem ok_lreached {f : Addr} {fd : FuncData} (F : FD K "_law_reached" sLawReached f fd) (T : Tx K mg) : FnOk P w K mg base CX0 1 f fd ["drawing", "place"] spLReached := by
  refine F.ok scLawReached (fun vs H Q E h => ?_) (fun cdv A outer s H vs Q E hr h => ?_)
  · obtain ⟨_, _, _, _, _, rfl, _⟩ := h
    rfl
  · obtain ⟨M, v1, v2, D, p, rfl, d, h1, h2, hD, hp, hz, k⟩ := h
    obtain rfl : v2 = .int (p : Int) := h2
    have nd := scLawReached.nd
    refine ⟨_, PSs.nox (pss_cons (ps_set (i := 2) nd rfl (by first | exact Or.inl rfl | exact Or.inr rfl) (pe_lst (pa_cons (pv 1) pa_nil)))
      (pss_cons (ps_for PassesOwn.never rfl (pi_range1 rfl T.f_range (pa_cons (pe_callB (clen K) rfl T.f_len boot_len (pa_cons (pv 0) pa_nil)) pa_nil)) (pg_name (i := 3) nd rfl (by first | exact Or.inl rfl | exact Or.inr rfl)) (pss_one (ps_if (pt_cmpR op_lt (pv 3) (pe_callB (clen K) rfl T.f_len boot_len (pa_cons (pv 2) pa_nil)) (nomark _)) (pss_one (ps_for PassesOwn.never rfl (pil K (pe_ix (ixl K) (pv 0) (pe_ix (ixl K) (pv 2) (pv 3) (fun _ _ => rfl)) (fun _ _ => rfl))) (pg_name (i := 4) nd rfl (by first | exact Or.inl rfl | exact Or.inr rfl)) (pss_one (ps_if (pt_cmpR (onin K) (pv 4) (pv 2) (by with_unfolding_all rfl)) (pss_one (ps_expr (pbm K PySem.F.plainAttrs_list PySem.F.slot_list_append PySem.F.type_list_append mt_append (pv 2) (pa_cons (pv 4) pa_nil)))) pss_nil)))) pss_nil)))
      (pss_one (ps_ret (pv 2))))), ?_⟩
    refine q_newA (ws := [.int (p : Int)]) (ea_v1 rfl) (by show 1 ≤ 1000; decide) fun ps H0 s00 np0 => ?_
    have np : H ps = none := s00.free np0
    have s0 : Same H (upd H0 ps (.lst [.int (p : Int)])) := Same.new s00 np0
    have hps : ps ∉ M := d.fresh np
    refine q_forR1 (n := D.length) (M := M) (ev_len (ev_var rfl (Rep.same s0 h1))) (by omega) fun H1 s1 => ?_
    refine ⟨fun i σ' H' => ∃ (R : List Nat) (c3 c4 : Option V), σ' = [some v1, some (.int (p : Int)), some (.ref ps), c3, c4] ∧ Same H H' ∧ H' ps = some (.lst (R.map nV)) ∧ RC D p i R, ⟨[p], none, none, rfl, s0.trans s1, s1 _ _ upd_same, RC.start hp⟩, ?_, ?_⟩
    · rintro i σ' H2 hi ⟨R, c3, c4, rfl, s2, g2, I⟩
      rw [Nat.zero_add] at hi ⊢
      refine s_when (b := decide (i < R.length)) (et_val (M := []) (ev_ltN (M := []) (ev_var (r := rN) rfl rfl) ((ev_lenO (M := []) (ev_ref rfl) g2).to (by rw [List.length_map])))) (fun hb H3 s3 => ?_) (fun hb H3 s3 => ⟨R, _, _, rfl, s2.trans s3, s3 _ _ g2, I.past (by simpa using hb)⟩)
      have hlt : i < R.length := by simpa using hb
      have hc : R[i]? = some R[i] := List.getElem?_eq_getElem hlt
      have hcm := List.getElem_mem hlt
      generalize R[i] = c at hc hcm
      have hcn := (I.ok c hcm).2
      have s23 := s2.trans s3
      have h13 : rD (ps :: M) H3 v1 D := Rep.same s23 (Rep.new np h1)
      refine s_forL (r := rN) (L := [ps]) (M := ps :: M) (xs := rowOf D c) (ev_ixL (n := c) (ev_var rfl h13) (ev_ixO (M := ps :: M) (n := i) (v := nV c) (ev_ref rfl) (s3 _ _ g2) (ev_var (r := rN) rfl rfl) (by rw [List.getElem?_map, hc]; rfl)) (rowOf_get hcn)) (by simp) fun H4 s4 => ?_
      refine ⟨fun q σ' H' => ∃ (R : List Nat) (c4 : Option V), σ' = [some v1, some (.int (p : Int)), some (.ref ps), some (nV i), c4] ∧ Kp [ps] H4 H' ∧ H' ps = some (.lst (R.map nV)) ∧ RD D p i c q R, ⟨R, c4, rfl, Kp.refl _ _, s4 _ _ (s3 _ _ g2), I.turn hc⟩, fun q σ' H' ⟨_, _, _, z, _⟩ => z, ?_, ?_⟩
      · rintro q v y σ' H5 hy rfl ⟨R, c4, rfl, k5, g5, J⟩
        have hR : rL rN [] H5 (.ref ps) R := ⟨ps, _, rfl, by simp, g5, rN.F2⟩
        refine s_when (b := !decide (y ∈ R)) (et_val (M := []) (ev_nin (ev_var (r := rN) rfl rfl) (ev_var rfl hR))) (fun hb H6 s6 => ?_) (fun hb H6 s6 => ⟨R, _, rfl, k5.trans (Kp.of s6), s6 _ _ g5, J.skip hy (by simpa using hb)⟩)
        have hl := J.rc.len
        refine s_app (P := fun _ w => w = nV y) (ev_ref rfl) (s6 _ _ g5) (ev_ref rfl) (by rw [List.length_map]; omega) fun v H7 s7 e => ?_
        subst e
        exact ⟨R ++ [y], _, rfl, (k5.trans (Kp.of (s6.trans s7))).mut (by simp), by rw [upd_same]; simp, J.push hD hy (by simpa using hb)⟩
      · rintro σ' H5 ⟨R, c4, rfl, k5, g5, J⟩
        exact ⟨R, _, _, rfl, Same.kp (s23.trans s4) k5 (by simp [np]), g5, J.done⟩
    · rintro σ' H2 ⟨R, c3, c4, rfl, s2, g2, I⟩
      rw [Nat.sub_zero] at I
      refine s_ret (P := as (rL rN) M R) (ev_var rfl (⟨ps, _, rfl, hps, g2, rN.F2⟩ : rL rN M H2 (.ref ps) R)) fun v H3 s3 hv => k v H3 R (s2.trans s3) hv I.len I.told
end
end K80

namespace K80
open PySem PySem.Spec PyProof.Rows L2 Rp
def spIsDrawing : Sp := fun vs H Q _ => ∃ (M : List Addr) (v1 : V) (D : List (List Nat)) (most : Nat), vs = [v1, .int (most : Int)] ∧ rD M H v1 D ∧ Good D ∧ 0 < D.length ∧ D.length ≤ most ∧ ∀ H2, Same H H2 → Q (.bl true) H2
def spLStands : Sp := fun vs H Q _ => ∃ (M : List Addr) (v1 : V) (D : List (List Nat)) (due plain : Bool), vs = [v1, .bl due, .bl plain] ∧ Old M H ∧ rD M H v1 D ∧ Good D ∧ D.length ≤ 100 ∧ (due = true ↔ Stands true D) ∧ ((due && plain) = true ↔ Stands false D) ∧ ∀ H2, Same H H2 → Q (.bl true) H2
def spAsHeld : Sp := fun vs H Q _ => ∃ (M : List Addr) (v1 v2 : V) (D : List (List Nat)), vs = [v1, v2] ∧ Old M H ∧ rD M H v1 D ∧ rD M H v2 D ∧ Good D ∧ 0 < D.length ∧ D.length < 64 ∧ (∀ g h, g < D.length → h < D.length → Bis D g h → g = h) ∧ ∀ H2, Same H H2 → Q (.bl true) H2
section
variable {P : Program} {w : World} {K : PySem.W.Frag} {mg : Str → Option Value} {base : Heap}
abbrev NLawIsDrawing : List Str := ["drawing", "most", "row", "last", "place"]
theorem scLawIsDrawing : FnScope NLawIsDrawing ["drawing", "most"] (defScope sLawIsDrawing) := ⟨rfl, rfl, rfl, by decide +kernel, rfl, by decide +kernel, by decide +kernel⟩
theorem ok_isDrawing {f : Addr} {fd : FuncData} (F : FD K "_law_is_drawing" sLawIsDrawing f fd) (T : Tx K mg) : FnOk P w K mg base CX0 1 f fd ["drawing", "most"] spIsDrawing := by
  refine F.ok scLawIsDrawing (fun vs H Q E h => ?_) (fun cdv A outer s H vs Q E hr h => ?_)
  · obtain ⟨_, _, _, _, rfl, _⟩ := h
    rfl
  · obtain ⟨M, v1, D, most, rfl, h1, hD, hpos, hle, k⟩ := h
    have nd := scLawIsDrawing.nd
    refine ⟨_, PSs.nox (pss_cons (ps_if (PW.pt (pw_or (pt_not (pt_val (pe_callB (cisi K) rfl T.f_isinstance (by decide +kernel) (pa_cons (pv 0) (pa_cons (pe_bltn (v := .ty "list") rfl T.f_list (by decide +kernel) rfl) pa_nil))))) (pw_or (pt_cmpR op_lt (pe_callB (clen K) rfl T.f_len boot_len (pa_cons (pv 0) pa_nil)) pe_int (nomark _)) (pw_or1 (pt_cmpR op_gt (pe_callB (clen K) rfl T.f_len boot_len (pa_cons (pv 0) pa_nil)) (pv 1) (nomark _)))))) (pss_one (ps_ret pe_bl)) pss_nil)
      (pss_cons (ps_for PassesOwn.never rfl (pil K (pv 0)) (pg_name (i := 2) nd rfl (by first | exact Or.inl rfl | exact Or.inr rfl)) (pss_cons (ps_if (pt_not (pt_val (pe_callB (cisi K) rfl T.f_isinstance (by decide +kernel) (pa_cons (pv 2) (pa_cons (pe_bltn (v := .ty "list") rfl T.f_list (by decide +kernel) rfl) pa_nil))))) (pss_one (ps_ret pe_bl)) pss_nil)
      (pss_cons (ps_set (i := 3) nd rfl (by first | exact Or.inl rfl | exact Or.inr rfl) (pe_un un_neg pe_int))
      (pss_one (ps_for PassesOwn.never rfl (pil K (pv 2)) (pg_name (i := 4) nd rfl (by first | exact Or.inl rfl | exact Or.inr rfl)) (pss_cons (ps_if (PW.pt (pw_or (pt_not (pt_val (pe_callB (cisi K) rfl T.f_isinstance (by decide +kernel) (pa_cons (pv 4) (pa_cons (pe_bltn (v := .ty "int") rfl T.f_int (by decide +kernel) rfl) pa_nil))))) (pw_or (pt_val (pe_callB (cisi K) rfl T.f_isinstance (by decide +kernel) (pa_cons (pv 4) (pa_cons (pe_bltn (v := .ty "bool") rfl T.f_bool (by decide +kernel) rfl) pa_nil)))) (pw_or (pt_cmpR op_le (pv 4) (pv 3) (nomark _)) (pw_or1 (pt_cmpR op_ge (pv 4) (pe_callB (clen K) rfl T.f_len boot_len (pa_cons (pv 0) pa_nil)) (nomark _))))))) (pss_one (ps_ret pe_bl)) pss_nil)
      (pss_one (ps_set (i := 3) nd rfl (by first | exact Or.inl rfl | exact Or.inr rfl) (pv 4)))))))))
      (pss_one (ps_ret pe_bl)))), ?_⟩
    refine q_when (b := false) ((et_or (et_not (et_B (M := M) (ev_isi (P := as rD M D) (ev_var rfl h1) (fun H1 v p => ty_list p) kit_ll))) fun _ => et_or (et_val (M := M) (ev_ltN (ev_len (ev_var rfl h1)) ev_nat)) fun _ => et_val (M := M) (ev_gtN (ev_len (ev_var rfl h1)) (ev_var (r := rN) rfl rfl))).is (by
      have e1 : ¬ D.length < 1 := by omega
      have e2 : ¬ most < D.length := by omega
      simp only [e1, e2, decide_false, Bool.not_true, Bool.or_self])) (fun hb => by cases hb) fun _ H1 s1 => ?_
    refine q_forL (r := rL rN) (L := []) (M := M) (xs := D) (ev_var rfl (Rep.same s1 h1)) (by simp) fun H2 s2 => ?_
    have s12 := s1.trans s2
    refine ⟨fun i σ' H' => ∃ (c2 c3 c4 : Option V), σ' = [some v1, some (.int (most : Int)), c2, c3, c4] ∧ Same H2 H', ⟨none, none, none, rfl, Same.refl _⟩, fun i σ' H' ⟨_, _, _, _, z⟩ => Kp.of z, ?_, ?_⟩
    · rintro i v row σ' H3 hrow rv ⟨c2, c3, c4, rfl, s3⟩
      have hm := List.mem_of_getElem? hrow
      obtain ⟨asc', hlt⟩ := hD row hm
      refine q_when (b := false) ((et_not (et_B (M := M) (ev_isi (P := as (rL rN) M row) (ev_var rfl rv) (fun H1 v p => ty_list p) kit_ll))).is rfl) (fun hb => by cases hb) fun _ H4 s4 => ?_
      refine q_asg (P := as rI [] (-1)) (fun H5 s5 Q kk => ⟨1, rfl, kk _ H5 (Same.refl _) rfl⟩) fun v5 H5 s5 e => ?_
      obtain rfl : v5 = .int (-1) := e
      have s35 := s4.trans s5
      refine s_forL (r := rN) (L := []) (M := M) (xs := row) (ev_var rfl (Rep.same s35 rv)) (by simp) fun H6 s6 => ?_
      refine ⟨fun q σ' H' => ∃ (l : Int) (c4 : Option V), σ' = [some v1, some (.int (most : Int)), some v, some (.int l), c4] ∧ Same H6 H' ∧ ∀ (k : Nat) x, q ≤ k → row[k]? = some x → l < (x : Int), ⟨-1, c4, rfl, Same.refl _, fun k x _ _ => by omega⟩, fun q σ' H' ⟨_, _, _, z, _⟩ => Kp.of z, ?_, ?_⟩
      · rintro q v x σ' H7 hx rfl ⟨l, c4, rfl, s7, hl⟩
        have h17 : rD M H7 v1 D := Rep.same (((((s12.trans s3).trans s35).trans s6).trans s7)) h1
        have hx2 := hl q x (Nat.le_refl _) hx
        have hx3 := hlt x (List.mem_of_getElem? hx)
        refine q_when (b := false) ((et_or (et_not (et_B (M := M) (ev_isi (P := as rN M x) (ev_var rfl rfl) (fun H1 v p => ty_nat p) kit_ii))) fun _ => et_or (et_B (M := M) (ev_isi (P := as rN M x) (ev_var rfl rfl) (fun H1 v p => ty_nat p) kit_ib)) fun _ => et_or (et_val (M := M) ((ev_I0 (M := M) (g := fun i j => .bl (decide (i ≤ j))) (i := (x : Int)) (j := l) (ev_var (r := rI) rfl rfl) (ev_var (r := rI) rfl rfl)).imp fun _ v _ e => e)) fun _ => et_val (M := M) (ev_geN (ev_var (r := rN) rfl rfl) (ev_len (ev_var rfl h17)))).is (by simp; omega)) (fun hb => by cases hb) fun _ H8 s8 => ?_
        refine s_asg (P := as rI [] (x : Int)) (ev_var (r := rI) rfl rfl) fun v H9 s9 e => ?_
        obtain rfl : v = .int (x : Int) := e
        refine ⟨(x : Int), _, rfl, (s7.trans s8).trans s9, fun k y hk hy => ?_⟩
        have h1 := (List.getElem?_eq_some_iff.mp hx)
        have h2 := (List.getElem?_eq_some_iff.mp hy)
        have := List.pairwise_iff_getElem.mp asc' q k h1.1 h2.1 (by omega)
        rw [h1.2, h2.2] at this
        omega
      · rintro σ' H7 ⟨l, c4, rfl, s7, _⟩
        exact ⟨_, _, _, rfl, (s3.trans (s35.trans s6)).trans s7⟩
    · rintro σ' H3 ⟨c2, c3, c4, rfl, s3⟩
      show tRet (tC (V.bl true)) { nx := fun _ H' => Q .non H', rt := Q } [some v1, some (.int (most : Int)), c2, c3, c4] H3
      refine s_ret (P := as rB [] true) ev_bl fun v H4 s4 e => ?_
      obtain rfl : v = .bl true := e
      exact k H4 ((s12.trans s3).trans s4)
abbrev NLawStands : List Str := ["rows", "due", "plain", "handed", "row", "told", "other"]
theorem scLawStands : FnScope NLawStands ["rows", "due", "plain"] (defScope sLawStands) := ⟨rfl, rfl, rfl, by decide +kernel, rfl, by decide +kernel, by decide +kernel⟩
theorem ok_lstands {f : Addr} {fd : FuncData} (F : FD K "_law_stands" sLawStands f fd) (T : Tx K mg) (Csketch_stands : FnK P w K mg base "sketch_stands" ["count", "rows", "rings"] ["rings"] 2 4 spStands (fun vs zs => vs ++ zs)) (Csketch_stands0 : Fn P w K mg base "sketch_stands" ["count", "rows", "rings"] 4 spStands [V.bl false]) : FnOk P w K mg base CX0 5 f fd ["rows", "due", "plain"] spLStands := by
  classical
  refine F.ok scLawStands (fun vs H Q E h => ?_) (fun cdv A outer s H vs Q E hr h => ?_)
  · obtain ⟨_, _, _, _, _, rfl, _⟩ := h
    rfl
  · obtain ⟨M, v1, D, due, plain, rfl, d, h1, hD, hz, hdue, hplain, k⟩ := h
    have nd := scLawStands.nd
    refine ⟨_, PSs.nox (pss_cons (ps_setLc (i := 3) rfl nd rfl rfl (sw_true rfl rfl rfl (by decide +kernel)) (pil K (pv 0)) (blkOk_by (own := [("row", 4)]) (N := NLawStands) (sc := defScope sLawStands) (by decide +kernel)) (fun _ _ _ _ _ => (pg_name (i := 4) nd rfl (by first | exact Or.inl rfl | exact Or.inr rfl))) (fun _ _ _ _ _ => pts_nil) (fun _ _ _ _ _ => (pe_callTy (clist K) rfl T.f_list (by decide +kernel) (pa_cons (pv 4) pa_nil))))
      (pss_cons (ps_set (i := 5) nd rfl (by first | exact Or.inl rfl | exact Or.inr rfl) (pe_fnK Csketch_stands hr rfl (pa_cons (pe_callB (clen K) rfl T.f_len boot_len (pa_cons (pv 0) pa_nil)) (pa_cons (pv 3) pa_nil)) (pk_cons pe_bl pk_nil)))
      (pss_cons (ps_set (i := 6) nd rfl (by first | exact Or.inl rfl | exact Or.inr rfl) (pe_fn Csketch_stands0 hr rfl (pa_cons (pe_callB (clen K) rfl T.f_len boot_len (pa_cons (pv 0) pa_nil)) (pa_cons (pv 3) pa_nil))))
      (pss_cons (ps_if (PW.pt (pw_or (pt_not (pt_val (pe_callB (cisi K) rfl T.f_isinstance (by decide +kernel) (pa_cons (pv 5) (pa_cons (pe_bltn (v := .ty "bool") rfl T.f_bool (by decide +kernel) rfl) pa_nil))))) (pw_or (pt_not (pt_val (pe_callB (cisi K) rfl T.f_isinstance (by decide +kernel) (pa_cons (pv 6) (pa_cons (pe_bltn (v := .ty "bool") rfl T.f_bool (by decide +kernel) rfl) pa_nil))))) (pw_or1 (pt_cmpR (oneD K hr.units) (pv 3) (pv 0) (nomark _)))))) (pss_one (ps_ret pe_bl)) pss_nil)
      (pss_one (ps_ret (pe_and (pe_cmpR op_eq (pv 5) (pv 1) (nomark _)) (pe_one (pe_cmpR op_eq (pv 6) (pe_and (pv 1) (pe_one (pv 2))) (nomark _)))))))))), ?_⟩
    refine q_asg (P := as rD M D) (Ev.to (ev_lcM (r := rL rN) (q := rL rN) d id (ev_var rfl h1) (by omega) (fun _ => rfl) fun M' H1 v row up hx rv => ev_listS up.old (ev_var rfl rv)) (List.map_id D)) fun v3 H1 s1 h3 => ?_
    have d1 := d.same s1
    refine q_asg (P := as rB M (decide (Stands true D))) (ev_callN1 (P1 := as rB M true) (ea_2r (r := rN) (q := rD) (M := M) (ev_len (ev_var rfl (Rep.same s1 h1))) (ev_var rfl h3)) (fun H1 H2 vs s ⟨v, w, e, p1, p2⟩ => ⟨v, w, e, Rep.same s p1, Rep.same s p2⟩) ev_bl ?_) fun v5 H2 s2 h5 => ?_
    · rintro H2 vs z s2 ⟨w1, w2, rfl, p1, p2⟩ rfl
      refine ⟨rfl, fun Q k => ⟨M, w1, w2, true, D, rfl, d1.same s2, p1, p2, hD, hz, fun r H3 s3 hr' => k _ H3 s3 ?_⟩⟩
      show V.bl _ = V.bl _
      congr 1
      rw [Bool.eq_iff_iff, decide_eq_true_eq]
      exact hr'
    obtain rfl : v5 = .bl (decide (Stands true D)) := h5
    have s12 := s1.trans s2
    refine q_asg (P := as rB M (decide (Stands false D))) (ev_call (ea_2r (r := rN) (q := rD) (M := M) (ev_len (ev_var rfl (Rep.same s12 h1))) (ev_var rfl (Rep.same s2 h3))) ?_) fun v6 H3 s3 h6 => ?_
    · rintro H3 vs s3 ⟨w1, w2, rfl, p1, p2⟩ Q k
      refine ⟨M, w1, w2, false, D, rfl, (d1.same s2).same s3, p1, p2, hD, hz, fun r H4 s4 hr' => k _ H4 s4 ?_⟩
      show V.bl _ = V.bl _
      congr 1
      rw [Bool.eq_iff_iff, decide_eq_true_eq]
      exact hr'
    obtain rfl : v6 = .bl (decide (Stands false D)) := h6
    have s13 := s12.trans s3
    refine q_when (b := false) ((et_or (et_not (et_B (M := M) (ev_isi (P := as rB M (decide (Stands true D))) (ev_var rfl rfl) (fun H1 v p => ty_bl p) kit_bb))) fun _ => et_or (et_not (et_B (M := M) (ev_isi (P := as rB M (decide (Stands false D))) (ev_var rfl rfl) (fun H1 v p => ty_bl p) kit_bb))) fun _ => et_val (M := M) (ev_neD (r := rD) (ha := ev_var rfl (Rep.same (s2.trans s3) h3)) (hb := ev_var rfl (Rep.same s13 h1)))).is (by simp)) (fun hb => by cases hb) fun _ H4 s4 => ?_
    refine s_ret (P := as rB M ((decide (Stands true D) == due) && (decide (Stands false D) == (due && plain)))) (ev_andV (ev_eqB (ev_var rfl rfl) (ev_var rfl rfl)) fun _ => ev_eqB (ev_var rfl rfl) (ev_andV (ev_var rfl rfl) fun _ => ev_var rfl rfl)) fun v H5 s5 e => ?_
    obtain rfl : v = .bl _ := e
    have e1 : decide (Stands true D) = due := by rw [Bool.eq_iff_iff, decide_eq_true_eq]; exact hdue.symm
    have e2 : decide (Stands false D) = (due && plain) := by rw [Bool.eq_iff_iff, decide_eq_true_eq]; exact hplain.symm
    rw [e1, e2]
    simp only [beq_self_eq_true, Bool.and_self]
    exact k H5 ((s13.trans s4).trans s5)
abbrev NLawAsHeld : List Str := ["told", "rows", "numbers", "at", "held", "place", "k"]
theorem scLawAsHeld : FnScope NLawAsHeld ["told", "rows"] (defScope sLawAsHeld) := ⟨rfl, rfl, rfl, by decide +kernel, rfl, by decide +kernel, by decide +kernel⟩
theorem ok_asHeld {f : Addr} {fd : FuncData} (F : FD K "_law_as_held" sLawAsHeld f fd) (T : Tx K mg) (C_law_is_drawing : Fn P w K mg base "_law_is_drawing" ["drawing", "most"] 1 spIsDrawing []) (C_law_classes : Fn P w K mg base "_law_classes" ["drawing"] 1 spClasses []) : FnOk P w K mg base CX0 2 f fd ["told", "rows"] spAsHeld := by
  refine F.ok scLawAsHeld (fun vs H Q E h => ?_) (fun cdv A outer s H vs Q E hr h => ?_)
  · obtain ⟨_, _, _, _, rfl, _⟩ := h
    rfl
  · obtain ⟨M, v1, v2, D, rfl, d, h1, h2, hD, hpos, hz, hap, k⟩ := h
    have nd := scLawAsHeld.nd
    refine ⟨_, PSs.nox (pss_cons (ps_if (PW.pt (pw_or (pt_not (pt_val (pe_fn C_law_is_drawing hr rfl (pa_cons (pv 0) (pa_cons (pe_op op_add (pe_op op_mul pe_int (pe_callB (clen K) rfl T.f_len boot_len (pa_cons (pv 1) pa_nil))) pe_int) pa_nil))))) (pw_or1 (pt_cmpR op_lt (pe_callB (clen K) rfl T.f_len boot_len (pa_cons (pv 0) pa_nil)) (pe_callB (clen K) rfl T.f_len boot_len (pa_cons (pv 1) pa_nil)) (nomark _))))) (pss_one (ps_ret pe_bl)) pss_nil)
      (pss_cons (ps_set (i := 2) nd rfl (by first | exact Or.inl rfl | exact Or.inr rfl) (pe_fn C_law_classes hr rfl (pa_cons (pv 0) pa_nil)))
      (pss_cons (ps_if (pt_cmpR op_ne (pe_callB (cr_lenSet w) rfl T.f_len boot_len (pa_cons (pe_callTy (cr_setL K w) rfl T.f_set (by decide +kernel) (pa_cons (pe_slice (sll K) (pv 2) po_none (po_some (pe_callB (clen K) rfl T.f_len boot_len (pa_cons (pv 1) pa_nil)))) pa_nil)) pa_nil)) (pe_callB (clen K) rfl T.f_len boot_len (pa_cons (pv 1) pa_nil)) (nomark _)) (pss_one (ps_ret pe_bl)) pss_nil)
      (pss_cons (ps_for PassesOwn.never rfl (pi_range1 rfl T.f_range (pa_cons (pe_callB (clen K) rfl T.f_len boot_len (pa_cons (pv 1) pa_nil)) pa_nil)) (pg_name (i := 3) nd rfl (by first | exact Or.inl rfl | exact Or.inr rfl)) (pss_cons (ps_set (i := 4) nd rfl (by first | exact Or.inl rfl | exact Or.inr rfl) (pe_lc rfl nd (pil K (pe_ix (ixl K) (pv 0) (pv 3) (fun _ _ => rfl))) (blkOk_by (own := [("place", 5)]) (N := NLawAsHeld) (sc := defScope sLawAsHeld) (by decide +kernel)) (fun _ _ _ _ _ => (pg_name (i := 5) nd rfl (by first | exact Or.inl rfl | exact Or.inr rfl))) (fun _ _ _ _ _ => pts_nil) (fun _ _ _ _ _ => (pe_ix (ixl K) (pv 2) (pv 5) (fun _ _ => rfl)))))
      (pss_one (ps_if (pt_cmpR (oneD K hr.units) (pe_lc rfl nd (pi_range1 rfl T.f_range (pa_cons (pe_callB (clen K) rfl T.f_len boot_len (pa_cons (pv 1) pa_nil)) pa_nil)) (blkOk_by (own := [("k", 6)]) (N := NLawAsHeld) (sc := defScope sLawAsHeld) (by decide +kernel)) (fun _ _ _ _ _ => (pg_name (i := 6) nd rfl (by first | exact Or.inl rfl | exact Or.inr rfl))) (fun _ _ _ _ _ => pts_one (pt_cmpR (oin K) (pe_ix (ixl K) (pv 2) (pv 6) (fun _ _ => rfl)) (pv 4) (by with_unfolding_all rfl))) (fun _ _ _ _ _ => (pv 6))) (pe_ix (ixl K) (pv 1) (pv 3) (fun _ _ => rfl)) (nomark _)) (pss_one (ps_ret pe_bl)) pss_nil))))
      (pss_one (ps_ret pe_bl)))))), ?_⟩
    have hmul : Ev (tOp (rI0 fun i j => .int (i + j)) (tOp (L2.rI CMul fun i j => .int (i * j)) (tC (.int 2)) (tCB (rLenS K) (tCons (tVar 1) tNil))) (tC (.int 2))) (L2.start NLawAsHeld [v1, v2]) H (as rN M (2 * D.length + 2)) :=
      Ev.toN (ev_addI (M := M) (ev_mulI (M := M) ev_int (ev_len (ev_var rfl h2)).toI (.inl ⟨by decide, by decide⟩)) ev_int) (by omega)
    refine q_when (b := false) ((et_or (et_not (b := true) (et_B (M := M) (ev_call (ea_2r (r := rD) (q := rN) (M := M) (ev_var rfl h1) hmul) ?_))) fun _ => et_val (M := M) (ev_ltN (ev_len (ev_var rfl h1)) (ev_len (ev_var rfl h2)))).is (by simp)) (fun hb => by cases hb) fun _ H1 s1 => ?_
    · rintro H1 vs s1 ⟨w1, w2, rfl, p1, p2⟩ Q k
      obtain rfl : w2 = .int ((2 * D.length + 2 : Nat) : Int) := p2
      exact ⟨M, w1, D, _, rfl, p1, hD, hpos, by omega, fun H2 s2 => k _ H2 s2 rfl⟩
    refine q_asg (P := fun H1 v => ∃ N, rL rN M H1 v N ∧ Cls D N) (ev_call (ea_1 (ev_var (r := rD) rfl (Rep.same s1 h1))) ?_) fun v3 H2 s2 ⟨N, h3, C⟩ => ?_
    · rintro H2 vs s2 ⟨w1, rfl, p1⟩ Q k
      exact ⟨M, w1, D, rfl, (d.same s1).same s2, p1, hD, hpos, hz, fun v H3 N s3 hv c => k v H3 s3 ⟨N, hv, c⟩⟩
    have s12 := s1.trans s2
    have d2 := d.same s12
    have inj : ∀ i j, i < D.length → j < D.length → nb N i = nb N j → i = j := fun i j hi hj e => hap i j hi hj ((C.iff i j hi hj).mp e)
    have ndN : N.Nodup := List.pairwise_iff_getElem.mpr fun i j hi hj hij e => by
      have := inj i j (by rw [← C.len]; exact hi) (by rw [← C.len]; exact hj) (by rw [show nb N i = N[i] from getD_lt hi, show nb N j = N[j] from getD_lt hj]; exact e)
      omega
    have hlenN : (asc N).length = D.length := by
      rw [← C.len]
      have h1 : (asc N).Perm N := (List.perm_ext_iff_of_nodup ((asc_pw N).imp fun q => Nat.ne_of_lt q) ndN).mpr fun x => mem_asc
      exact h1.length_eq
    refine q_when (b := false) ((et_val (M := M) (ev_neN (ev_lenset (ev_setL (w := w) (K := K) (L := N) (Ev.to (ev_upto (K := K) d2 (ev_var rfl h3) (ev_len (ev_var rfl (Rep.same s12 h2)))) (by rw [← C.len, List.take_length])) (by rw [C.len]; omega))) (ev_len (ev_var rfl (Rep.same s12 h2))))).is (by rw [hlenN]; simp)) (fun hb => by cases hb) fun _ H3 s3 => ?_
    have s13 := s12.trans s3
    refine q_forR1 (n := D.length) (M := M) (ev_len (ev_var rfl (Rep.same s13 h2))) (by omega) fun H4 s4 => ?_
    have nget : ∀ x, x < D.length → N[x]? = some (nb N x) := fun x hx => by
      have hxl : x < N.length := by rw [C.len]; exact hx
      rw [List.getElem?_eq_getElem hxl, show nb N x = N[x] from getD_lt hxl]
    refine ⟨fun i σ' H' => ∃ (c3 c4 c5 c6 : Option V), σ' = [some v1, some v2, some v3, c3, c4, c5, c6] ∧ Same H4 H', ⟨none, none, none, none, rfl, Same.refl _⟩, ?_, ?_⟩
    · rintro i σ' H5 hi ⟨c3, c4, c5, c6, rfl, s5⟩
      rw [Nat.zero_add] at hi ⊢
      have s35 := (s3.trans s4).trans s5
      have s15 := s12.trans s35
      have d5 := d.same s15
      have h35 : rL rN M H5 v3 N := Rep.same s35 h3
      have hrl : (rowOf D i).length < 64 := Nat.lt_of_le_of_lt (asc_len (hD.asc i) fun y hy => (hD.lt hy).1) hz
      refine q_asg (P := as (rL rN) M ((rowOf D i).map fun x => nb N x)) (ev_lcM (r := rN) (q := rN) d5 (fun x => nb N x) (ev_ixL (n := i) (ev_var rfl (Rep.same s15 h1)) (ev_var (r := rN) rfl rfl) (rowOf_get hi)) (by omega) (fun _ => rfl) fun M' H6 v x up hx rv => ev_ixL (n := x) (ev_var rfl (up.lift h35)) (ev_var rfl rv) (nget x (hD.lt hx).1)) fun v4 H6 s6 h4 => ?_
      have s36 := s35.trans s6
      have s16 := s15.trans s6
      have e0 : ((List.range D.length).filter fun k => decide (nb N k ∈ (rowOf D i).map fun x => nb N x)).map id = rowOf D i := by
        rw [List.map_id]
        refine asc_unique (List.Pairwise.filter _ List.pairwise_lt_range) (hD.asc i) fun x => ?_
        rw [List.mem_filter, List.mem_range, decide_eq_true_eq]
        constructor
        · rintro ⟨hx, hm⟩
          obtain ⟨y, hy, e⟩ := List.mem_map.mp hm
          rw [inj x y hx (hD.lt hy).1 e.symm]
          exact hy
        · intro hx
          exact ⟨(hD.lt hx).1, List.mem_map.mpr ⟨x, hx, rfl⟩⟩
      refine s_when (b := false) ((et_val (M := M) (ev_neD (r := rL rN) (ha := ev_lcR (q := rN) (M := M) (d.same s16) (fun k => decide (nb N k ∈ (rowOf D i).map fun x => nb N x)) id (ev_len (ev_var rfl (Rep.same s16 h2))) (by omega) (fun _ => rfl) (fun M' H7 k up hk => et_val (M := M') (ev_in (ev_ixL (n := k) (ev_var rfl (up.lift (Rep.same s36 h3))) (ev_var (r := rN) rfl rfl) (nget k hk)) (ev_var rfl (up.lift h4)))) (fun M' H7 k up hk _ => ev_var (r := rN) rfl rfl)) (hb := ev_ixL (n := i) (ev_var rfl (Rep.same s16 h2)) (ev_var (r := rN) rfl rfl) (rowOf_get hi)))).is (by rw [e0]; simp)) (fun hb => by cases hb) fun _ H7 s7 => ?_
      exact ⟨_, _, _, _, rfl, (s5.trans s6).trans s7⟩
    · rintro σ' H5 ⟨c3, c4, c5, c6, rfl, s5⟩
      show tRet (tC (V.bl true)) { nx := fun _ H' => Q .non H', rt := Q } [some v1, some v2, some v3, c3, c4, c5, c6] H5
      refine s_ret (P := as rB [] true) ev_bl fun v H6 s6 e => ?_
      obtain rfl : v = .bl true := e
      exact k H6 (((s13.trans s4).trans s5).trans s6)
end
end K80

namespace Rp
open PySem PySem.Spec PyProof.Rows L2
section
variable {α β γ : Type} {r : R α} {q : R β} {K : PySem.W.Frag} {w : World} {σ : L2.St} {H H' : Hp} {M : List Addr} {ta tb te tl : TE} {P P' : Pr} {v : V} {i j n : Nat}
/-- [e for x in xs], the list known by what it satisfies -/
theorem ev_lcMx [Rep r] [Rep q] {vs : List Nat} {G : List α → Prop} (d : Old M H) (gg : α → β) (hl : Ev tl σ H (fun H1 v => ∃ xs, G xs ∧ rL r M H1 v xs)) (hz : ∀ xs, G xs → xs.length ≤ 1000000) (hw : ∀ x, wipe ((wipe σ vs).set j (some x)) vs = wipe σ vs)
    (he : ∀ M' H1 v xs x, Up M H M' H1 → G xs → x ∈ xs → r M' H1 v x → Ev te ((wipe σ vs).set j (some v)) H1 (as q M' (gg x))) : Ev (tLc (iList K tl) (gName j) tYes te vs) σ H (fun H1 v => ∃ xs, G xs ∧ rL q M H1 v (xs.map gg)) := fun H0 s0 Q k =>
  hl H0 s0 _ fun l H1 s1 ⟨xs, g, rep⟩ => by
    have s01 := s0.trans s1
    have h := ev_lcM (K := K) (tl := tC l) (te := te) (q := q) (d.same s01) gg (ev_k rep) (hz xs g) hw fun M' H2 v x up hx rv => he M' H2 v xs x ⟨s01.trans up.same, up.sub, fun h => up.lift (Rep.same s01 h), up.old⟩ g hx rv
    exact h H1 (Same.refl _) Q fun v H2 s2 hv => k v H2 (s1.trans s2) ⟨xs, g, hv⟩
/-- len(set(xs)) -/
theorem ev_lensetL (ha : Ev ta σ H (fun H1 v => ∃ L : List Nat, (L.length ≤ 1000 ∧ (asc L).length = n) ∧ rL rN M H1 v L)) : Ev (tCB (rLenSet w) (tCons (tCB (rSetL K w) (tCons ta tNil)) tNil)) σ H (as rN M n) := fun H0 s0 Q k =>
  ha H0 s0 _ fun v H1 s1 ⟨L, ⟨hz, e⟩, rep⟩ => by
    have h := ev_lenset (M := M) (ev_setL (w := w) (K := K) (ev_k (σ := σ) rep) hz)
    refine h H1 (Same.refl _) Q fun v H2 s2 hv => k v H2 (s1.trans s2) ?_
    rw [e] at hv
    exact hv
/-- t[0], len(t) of a pair -/
theorem ev_ixP0 [Rep r] [Rep q] {x : α × β} (ha : Ev ta σ H (as (rP r q) M x)) : Ev (tOp (rIxT K) ta (tC (.int 0))) σ H (as r M x.1) :=
  ev_op2 ha (ev_nat (k := 0)) fun H1 a b _ e1 e2 Q k => by
    obtain ⟨l, v1, v2, rfl, _, g, h1, _⟩ := e1
    obtain rfl : b = .int ((0 : Nat) : Int) := e2
    exact ⟨l, _, ((0 : Nat) : Int), v1, rfl, rfl, SqT.of g, atI_nat rfl, k v1 H1 (Same.refl _) h1⟩
theorem ev_lenP {x : α × β} (ha : Ev ta σ H (as (rP r q) M x)) : Ev (tCB (rLenS K) (tCons ta tNil)) σ H (as rN M 2) :=
  ev_cb1 ha fun H1 v _ ⟨a, v1, v2, e, _, g, _, _⟩ Q k => ⟨a, _, by rw [e], .inr (SqT.of g), k _ H1 (Same.refl _) rfl⟩
theorem ty_pair {x : α × β} (h : rP r q M H v x) : TyX K H v (.type "tuple") := by
  obtain ⟨a, v1, v2, rfl, _, g, _, _⟩ := h
  exact .base (.tup g)
end
end Rp
namespace K80
open PySem PySem.Spec PyProof.Rows L2 Rp
theorem bis_row {D : List (List Nat)} {i j : Nat} (e : rowOf D i = rowOf D j) : Bis D i j := ⟨fun x y => x = y ∨ rowOf D x = rowOf D y, fun x y t => by
  have er : rowOf D x = rowOf D y := t.elim (fun q => by rw [q]) id
  rw [er]
  exact ⟨fun a ha => ⟨a, ha, .inl rfl⟩, fun b hb => ⟨b, hb, .inl rfl⟩⟩, .inr e⟩
theorem Least.stands {D rows : List (List Nat)} {p : Nat} (l : Least D p rows) : Stands true rows := by
  refine ⟨fun g h hgh hh => ?_, fun z => by cases z⟩
  rw [if_pos rfl]
  intro b
  have := l.apart g h (by omega) hh b
  omega
theorem Least.plainStands {D rows : List (List Nat)} {p : Nat} (l : Least D p rows) : Stands false rows ↔ Sttl D p := by
  rw [← l.plain]
  refine ⟨fun h => h.2 rfl, fun h => ⟨fun g k hgk hk => ?_, fun _ => h⟩⟩
  rw [if_neg (by decide)]
  intro e
  have := l.apart g k (by omega) hk (bis_row e)
  omega
theorem unlike_stands {D : List (List Nat)} {C : List Nat} (h : Cls D C) : C = List.range D.length ↔ Stands true D := by
  rw [h.unlike]
  refine ⟨fun q => ⟨fun g k hgk hk => by rw [if_pos rfl]; exact q g k hgk hk, fun z => by cases z⟩, fun q i j hij hj => ?_⟩
  have := q.1 i j hij hj
  rwa [if_pos rfl] at this
theorem settled_bis {D : List (List Nat)} (gd : Good D) (h : ∀ g k, g < k → k < D.length → rowOf D g ≠ rowOf D k) {x : Nat} (s : Sttl D x) : ∀ y, x < D.length → y < D.length → Bis D x y → x = y := by
  induction s with
  | intro x _ ih =>
    intro y hx hy b
    have bb := Bis.is D x y b
    have e : rowOf D x = rowOf D y := asc_unique (gd.asc x) (gd.asc y) fun z => by
      constructor
      · intro hz
        obtain ⟨c, hc, t⟩ := bb.1 z hz
        rw [ih z hz c (gd.lt hz).1 (gd.lt hc).1 t]
        exact hc
      · intro hz
        obtain ⟨c, hc, t⟩ := bb.2 z hz
        rw [← ih c hc z (gd.lt hc).1 (gd.lt hz).1 t]
        exact hc
    rcases Nat.lt_trichotomy x y with c | c | c
    · exact absurd e (h x y c hy)
    · exact c
    · exact absurd e.symm (h y x c hx)
theorem stands_false {D : List (List Nat)} (gd : Good D) : Stands false D ↔ Stands true D ∧ ∀ x, x < D.length → Sttl D x := by
  constructor
  · rintro ⟨h1, h2⟩
    refine ⟨⟨fun g h hgh hh => ?_, fun z => by cases z⟩, h2 rfl⟩
    rw [if_pos rfl]
    intro b
    have := settled_bis gd (fun g k hgk hk => by
      have := h1 g k hgk hk
      rwa [if_neg (by decide)] at this) (h2 rfl g (by omega)) h (by omega) hh b
    omega
  · rintro ⟨h1, h2⟩
    refine ⟨fun g h hgh hh => ?_, fun _ => h2⟩
    rw [if_neg (by decide)]
    intro e
    have := h1.1 g h hgh hh
    rw [if_pos rfl] at this
    exact this (bis_row e)
def spLLeast : Sp := fun vs H Q _ => ∃ (M : List Addr) (v1 v3 v4 : V) (D : List (List Nat)) (p : Nat) (C S : List Nat), vs = [v1, .int (p : Int), v3, v4] ∧ Old M H ∧ rD M H v1 D ∧ Good D ∧ D.length < 64 ∧ p < D.length ∧ rL rN M H v3 C ∧ Cls D C ∧ rL rN M H v4 S ∧ (∀ x, x ∈ S ↔ x < D.length ∧ Sttl D x) ∧
  ∀ H2, Same H H2 → Q (.bl true) H2
section
variable {P : Program} {w : World} {K : PySem.W.Frag} {mg : Str → Option Value} {base : Heap}
abbrev NLawLeast : List Str := ["drawing", "place", "classes", "settled", "handed", "row", "told", "rows", "plain", "at", "built"]
theorem scLawLeast : FnScope NLawLeast ["drawing", "place", "classes", "settled"] (defScope sLawLeast) := ⟨rfl, rfl, rfl, by decide +kernel, rfl, by decide +kernel, by decide +kernel⟩
theorem ok_lleast {f : Addr} {fd : FuncData} (F : FD K "_law_least" sLawLeast f fd) (T : Tx K mg) (Cleast_drawing : Fn P w K mg base "least_drawing" ["drawing", "place"] 3 spLeast []) (C_law_is_drawing : Fn P w K mg base "_law_is_drawing" ["drawing", "most"] 1 spIsDrawing [])
    (C_law_reached : Fn P w K mg base "_law_reached" ["drawing", "place"] 1 spLReached []) (C_law_stands : Fn P w K mg base "_law_stands" ["rows", "due", "plain"] 5 spLStands []) (Cbuild_drawing : FnK P w K mg base "build_drawing" ["count", "rows", "rings"] ["rings"] 2 5 spBuild (fun vs zs => vs ++ zs))
    (Cbuild_drawing0 : Fn P w K mg base "build_drawing" ["count", "rows", "rings"] 5 spBuild [V.bl false]) (C_law_as_held : Fn P w K mg base "_law_as_held" ["told", "rows"] 2 spAsHeld []) (C_law_settled : Fn P w K mg base "_law_settled" ["drawing"] 1 spLSettled []) :
    FnOk P w K mg base CX0 6 f fd ["drawing", "place", "classes", "settled"] spLLeast := by
  classical
  refine F.ok scLawLeast (fun vs H Q E h => ?_) (fun cdv A outer s H vs Q E hr h => ?_)
  · obtain ⟨_, _, _, _, _, _, _, _, rfl, _⟩ := h
    rfl
  · obtain ⟨M, v1, v3, v4, D, p, C, S, rfl, d, h1, hD, hz, hp, h3, hC, h4, hS, k⟩ := h
    have nd := scLawLeast.nd
    refine ⟨_, PSs.nox (pss_cons (ps_setLc (i := 4) rfl nd rfl rfl (sw_true rfl rfl rfl (by decide +kernel)) (pil K (pv 0)) (blkOk_by (own := [("row", 5)]) (N := NLawLeast) (sc := defScope sLawLeast) (by decide +kernel)) (fun _ _ _ _ _ => (pg_name (i := 5) nd rfl (by first | exact Or.inl rfl | exact Or.inr rfl))) (fun _ _ _ _ _ => pts_nil) (fun _ _ _ _ _ => (pe_callTy (clist K) rfl T.f_list (by decide +kernel) (pa_cons (pv 5) pa_nil))))
      (pss_cons (ps_set (i := 6) nd rfl (by first | exact Or.inl rfl | exact Or.inr rfl) (pe_fn Cleast_drawing hr rfl (pa_cons (pv 4) (pa_cons (pv 1) pa_nil))))
      (pss_cons (ps_if (PW.pt (pw_or (pt_not (pt_val (pe_callB (cisi K) rfl T.f_isinstance (by decide +kernel) (pa_cons (pv 6) (pa_cons (pe_bltn (v := .ty "tuple") rfl T.f_tuple (by decide +kernel) rfl) pa_nil))))) (pw_or (pt_cmpR op_ne (pe_callB (clen K) rfl T.f_len boot_len (pa_cons (pv 6) pa_nil)) pe_int (nomark _)) (pw_or (pt_not (pt_val (pe_fn C_law_is_drawing hr rfl (pa_cons (pe_ix (ixt K) (pv 6) pe_int (fun _ _ => rfl)) (pa_cons (pe_callB (clen K) rfl T.f_len boot_len (pa_cons (pv 0) pa_nil)) pa_nil))))) (pw_or1 (pt_cmpR (oneD K hr.units) (pv 4) (pv 0) (nomark _))))))) (pss_one (ps_ret pe_bl)) pss_nil)
      (pss_cons (ps_setLc (i := 7) rfl nd rfl rfl (sw_true rfl rfl rfl (by decide +kernel)) (pil K (pe_ix (ixt K) (pv 6) pe_int (fun _ _ => rfl))) (blkOk_by (own := [("row", 5)]) (N := NLawLeast) (sc := defScope sLawLeast) (by decide +kernel)) (fun _ _ _ _ _ => (pg_name (i := 5) nd rfl (by first | exact Or.inl rfl | exact Or.inr rfl))) (fun _ _ _ _ _ => pts_nil) (fun _ _ _ _ _ => (pe_callTy (clist K) rfl T.f_list (by decide +kernel) (pa_cons (pv 5) pa_nil))))
      (pss_cons (ps_set (i := 8) nd rfl (by first | exact Or.inl rfl | exact Or.inr rfl) (pe_cmpR (oin K) (pv 1) (pv 3) (by with_unfolding_all rfl)))
      (pss_cons (ps_if (PW.pt (pw_or (pt_cmpR op_ne (pe_callB (clen K) rfl T.f_len boot_len (pa_cons (pv 7) pa_nil)) (pe_callB (cr_lenSet w) rfl T.f_len boot_len (pa_cons (pe_callTy (cr_setL K w) rfl T.f_set (by decide +kernel) (pa_cons (pe_lc rfl nd (pil K (pe_fn C_law_reached hr rfl (pa_cons (pv 0) (pa_cons (pv 1) pa_nil)))) (blkOk_by (own := [("at", 9)]) (N := NLawLeast) (sc := defScope sLawLeast) (by decide +kernel)) (fun _ _ _ _ _ => (pg_name (i := 9) nd rfl (by first | exact Or.inl rfl | exact Or.inr rfl))) (fun _ _ _ _ _ => pts_nil) (fun _ _ _ _ _ => (pe_ix (ixl K) (pv 2) (pv 9) (fun _ _ => rfl)))) pa_nil)) pa_nil)) (nomark _)) (pw_or1 (pt_not (pt_val (pe_fn C_law_stands hr rfl (pa_cons (pv 7) (pa_cons pe_bl (pa_cons (pv 8) pa_nil))))))))) (pss_one (ps_ret pe_bl)) pss_nil)
      (pss_cons (ps_setLc (i := 4) rfl nd rfl rfl (sw_true rfl rfl rfl (by decide +kernel)) (pil K (pv 7)) (blkOk_by (own := [("row", 5)]) (N := NLawLeast) (sc := defScope sLawLeast) (by decide +kernel)) (fun _ _ _ _ _ => (pg_name (i := 5) nd rfl (by first | exact Or.inl rfl | exact Or.inr rfl))) (fun _ _ _ _ _ => pts_nil) (fun _ _ _ _ _ => (pe_callTy (clist K) rfl T.f_list (by decide +kernel) (pa_cons (pv 5) pa_nil))))
      (pss_cons (ps_set (i := 10) nd rfl (by first | exact Or.inl rfl | exact Or.inr rfl) (pe_fnK Cbuild_drawing hr rfl (pa_cons (pe_callB (clen K) rfl T.f_len boot_len (pa_cons (pv 7) pa_nil)) (pa_cons (pv 4) pa_nil)) (pk_cons pe_bl pk_nil)))
      (pss_cons (ps_if (PW.pt (pw_or (pt_not (pt_val (pe_fn C_law_as_held hr rfl (pa_cons (pv 10) (pa_cons (pv 7) pa_nil))))) (pw_or1 (pt_cmpR op_ne (pe_cmpR op_eq (pe_callB (clen K) rfl T.f_len boot_len (pa_cons (pe_fn C_law_settled hr rfl (pa_cons (pv 10) pa_nil)) pa_nil)) (pe_callB (clen K) rfl T.f_len boot_len (pa_cons (pv 10) pa_nil)) (nomark _)) (pv 8) (nomark _))))) (pss_one (ps_ret pe_bl)) pss_nil)
      (pss_cons (ps_if (pt_val (pv 8)) (pss_cons (ps_set (i := 10) nd rfl (by first | exact Or.inl rfl | exact Or.inr rfl) (pe_fn Cbuild_drawing0 hr rfl (pa_cons (pe_callB (clen K) rfl T.f_len boot_len (pa_cons (pv 7) pa_nil)) (pa_cons (pv 4) pa_nil))))
      (pss_one (ps_if (PW.pt (pw_or (pt_not (pt_val (pe_fn C_law_as_held hr rfl (pa_cons (pv 10) (pa_cons (pv 7) pa_nil))))) (pw_or1 (pt_cmpR op_ne (pe_callB (clen K) rfl T.f_len boot_len (pa_cons (pe_fn C_law_settled hr rfl (pa_cons (pv 10) pa_nil)) pa_nil)) (pe_callB (clen K) rfl T.f_len boot_len (pa_cons (pv 10) pa_nil)) (nomark _))))) (pss_one (ps_ret pe_bl)) pss_nil))) pss_nil)
      (pss_one (ps_ret (pe_cmpR (oeqD K hr.units) (pv 4) (pv 7) (nomark _)))))))))))))), ?_⟩
    -- handed, told
    refine q_asg (P := as rD M D) (Ev.to (ev_lcM (r := rL rN) (q := rL rN) d id (ev_var rfl h1) (by omega) (fun _ => rfl) fun M' H1 v row up hx rv => ev_listS up.old (ev_var rfl rv)) (List.map_id D)) fun v5 H1 s1 h5 => ?_
    have d1 := d.same s1
    refine q_asg (P := fun H1 v => ∃ (rows : List (List Nat)) (n : Nat), rP rD rN M H1 v (rows, n) ∧ Least D p rows) (ev_call (ea_2r (r := rD) (q := rN) (M := M) (ev_var rfl h5) (ev_var (r := rN) rfl rfl)) ?_) fun v6 H2 s2 ⟨rows, n, h6, L⟩ => ?_
    · rintro H2 vs s2 ⟨w1, w2, rfl, p1, p2⟩ Q k
      exact ⟨M, w1, w2, D, p, rfl, d1.same s2, p1, p2, hD, hp, hz, fun v H3 rows n s3 hv hl => k v H3 s3 ⟨rows, n, hv, hl⟩⟩
    have s12 := s1.trans s2
    have d2 := d.same s12
    have lrow := L.le
    have lpos := L.pos
    refine q_when (b := false) ((et_or (et_not (et_B (M := M) (ev_isi (P := as (rP rD rN) M (rows, n)) (ev_var rfl h6) (fun H1 v p => ty_pair p) kit_tt))) fun _ => et_or (et_val (M := M) (ev_neN (ev_lenP (r := rD) (q := rN) (ev_var rfl h6)) (ev_nat (k := 2)))) fun _ =>
        et_or (et_not (b := true) (et_B (M := M) (ev_call (ea_2r (r := rD) (q := rN) (M := M) (ev_ixP0 (ev_var rfl h6)) (ev_len (ev_var rfl (Rep.same s12 h1)))) ?_))) fun _ => et_val (M := M) (ev_neD (r := rD) (ha := ev_var rfl (Rep.same s2 h5)) (hb := ev_var rfl (Rep.same s12 h1)))).is (by simp)) (fun hb => by cases hb) fun _ H3 s3 => ?_
    · rintro H3 vs s3 ⟨w1, w2, rfl, p1, p2⟩ Q k
      obtain rfl : w2 = .int ((D.length : Nat) : Int) := p2
      exact ⟨M, w1, rows, D.length, rfl, p1, L.good, L.pos, L.le, fun H2 s2 => k _ H2 s2 rfl⟩
    have s13 := s12.trans s3
    have d3 := d.same s13
    -- rows, plain
    refine q_asg (P := as rD M rows) (Ev.to (ev_lcM (r := rL rN) (q := rL rN) d3 id (ev_ixP0 (ev_var rfl (Rep.same s3 h6))) (by show rows.length ≤ _; omega) (fun _ => rfl) fun M' H4 v row up hx rv => ev_listS up.old (ev_var rfl rv)) (List.map_id rows)) fun v7 H4 s4 h7 => ?_
    have s14 := s13.trans s4
    refine q_asg (P := as rB M (decide (p ∈ S))) (ev_in (ev_var (r := rN) rfl rfl) (ev_var rfl (Rep.same s14 h4))) fun v8 H5 s5 e => ?_
    obtain rfl : v8 = .bl (decide (p ∈ S)) := e
    have s15 := s14.trans s5
    have d5 := d.same s15
    have h75 := Rep.same s5 h7
    have hpl : decide (p ∈ S) = true ↔ Stands false rows := by
      rw [decide_eq_true_eq, hS, L.plainStands]
      exact ⟨fun z => z.2, fun z => ⟨hp, z⟩⟩
    refine q_when (b := false) ((et_or (et_val (M := M) (ev_neN (m := rows.length) (n := rows.length) (ev_len (ev_var rfl h75)) (ev_lensetL ((ev_lcMx (r := rN) (q := rN) (G := fun R => R.length ≤ D.length ∧ ∀ x, x ∈ R ↔ Reach D p x) d5 (fun x => nb C x) (ev_call (ea_2r (r := rD) (q := rN) (M := M) (ev_var rfl (Rep.same s15 h1)) (ev_var (r := rN) rfl rfl)) ?_) (fun R g => by have := g.1; omega) (fun _ => rfl) fun M' H6 v R x up g hx rv => ?_).imp fun H6 v _ ⟨R, g, hv⟩ => ⟨R.map fun x => nb C x, ⟨by rw [List.length_map]; have := g.1; omega, L.count (nb C) R hC.iff g.2⟩, hv⟩)))) fun _ =>
        et_not (b := true) (et_B (M := M) (ev_call (ea_cons (P := as rD M rows) (ev_var rfl h75) (fun _ _ _ s z => Rep.same s z) (ea_2r (r := rB) (q := rB) (M := M) ev_bl (ev_var (r := rB) (x := decide (p ∈ S)) rfl rfl))) ?_))).is (by simp)) (fun hb => by cases hb) fun _ H6 s6 => ?_
    · rintro H6 vs s6 ⟨w1, w2, rfl, p1, p2⟩ Q k
      exact ⟨M, w1, w2, D, p, rfl, d5.same s6, p1, p2, hD, hp, hz, fun v H7 R s7 hv g1 g2 => k v H7 s7 ⟨R, ⟨g1, g2⟩, hv⟩⟩
    · have hxn := ((g.2 x).mp hx).lt hD hp
      have hxl : x < C.length := by rw [hC.len]; exact hxn
      exact ev_ixL (r := rN) (n := x) (ev_var rfl (up.lift (Rep.same s15 h3))) (ev_var rfl rv) (by rw [List.getElem?_eq_getElem hxl, show nb C x = C[x] from getD_lt hxl])
    · rintro H6 vs s6 ⟨w1, ws, rfl, p1, w2, w3, rfl, rfl, rfl⟩ Q k
      exact ⟨M, w1, rows, true, decide (p ∈ S), rfl, d5.same s6, p1, L.good, by omega, ⟨fun _ => L.stands, fun _ => rfl⟩, by rw [Bool.true_and]; exact hpl, fun H7 s7 => k _ H7 s7 rfl⟩
    have s16 := s15.trans s6
    have d6 := d.same s16
    have h76 := Rep.same s6 h75
    -- built with rings
    refine q_asg (P := as rD M rows) (Ev.to (ev_lcM (r := rL rN) (q := rL rN) d6 id (ev_var rfl h76) (by omega) (fun _ => rfl) fun M' H7 v row up hx rv => ev_listS up.old (ev_var rfl rv)) (List.map_id rows)) fun v9 H7 s7 h9 => ?_
    have d7 := d6.same s7
    have h77 := Rep.same s7 h76
    refine q_asg (P := as rD M rows) (ev_callN1 (P1 := as rB M true) (ea_2r (r := rN) (q := rD) (M := M) (ev_len (ev_var rfl h77)) (ev_var rfl h9)) (fun H1 H2 vs s ⟨v, w, e, p1, p2⟩ => ⟨v, w, e, Rep.same s p1, Rep.same s p2⟩) ev_bl ?_) fun v10 H8 s8 h10 => ?_
    · rintro H8 vs z s8 ⟨w1, w2, rfl, p1, p2⟩ rfl
      exact ⟨rfl, fun Q k => ⟨M, w1, w2, true, rows, rfl, d7.same s8, p1, p2, L.good, by omega, L.pos, L.stands, fun v H9 s9 hv => k v H9 s9 hv⟩⟩
    have d8 := d7.same s8
    have h78 := Rep.same s8 h77
    have h98 := Rep.same s8 h9
    have s18 : Same H H8 := (s16.trans s7).trans s8
    have asH : ∀ (H9 : Hp) (σ9 : L2.St) (vb : V), σ9[10]? = some (some vb) → σ9[7]? = some (some v7) → Same H8 H9 → rD M H9 vb rows → Ev (tCall spAsHeld [] E0 (tCons (tVar 10) (tCons (tVar 7) tNil))) σ9 H9 (as rB M true) := fun H9 σ9 vb e1 e2 s9 hb => by
      refine ev_call (ea_2r (r := rD) (q := rD) (M := M) (ev_var e1 hb) (ev_var e2 (Rep.same s9 h78))) ?_
      rintro H10 vs s10 ⟨w1, w2, rfl, p1, p2⟩ Q k
      exact ⟨M, w1, w2, rows, rfl, (d8.same s9).same s10, p1, p2, L.good, L.pos, by omega, L.apart, fun H11 s11 => k _ H11 s11 rfl⟩
    have setl : ∀ (H9 : Hp) (σ9 : L2.St) (vb : V), σ9[10]? = some (some vb) → Same H8 H9 → rD M H9 vb rows → Ev (tCB (rLenS K) (tCons (tCall spLSettled [] E0 (tCons (tVar 10) tNil)) tNil)) σ9 H9 (fun _ v => ∃ m : Nat, v = nV m ∧ (m = rows.length ↔ ∀ x, x < rows.length → Sttl rows x)) := fun H9 σ9 vb e1 s9 hb => by
      refine ev_cb1 (P1 := fun H v => ∃ L : List Nat, rL rN M H v L ∧ L.Nodup ∧ (∀ x, x ∈ L ↔ x < rows.length ∧ Sttl rows x)) (ev_call (ea_1 (ev_var (r := rD) e1 hb)) ?_) ?_
      · rintro H10 vs s10 ⟨w1, rfl, p1⟩ Q k
        exact ⟨M, w1, rows, rfl, (d8.same s9).same s10, p1, L.good, by omega, fun v H11 S' s11 hv g1 g2 => k v H11 s11 ⟨S', hv, g1, g2⟩⟩
      · rintro H10 v s10 ⟨S', ⟨a, ws, rfl, _, g, f⟩, g1, g2⟩ Q k
        exact ⟨a, ws, rfl, .inl (SqL.of g), k _ H10 (Same.refl _) ⟨S'.length, by rw [f.length], all_settled g1 g2⟩⟩
    have hplain : decide (∀ x, x < rows.length → Sttl rows x) = decide (p ∈ S) := by
      rw [Bool.eq_iff_iff, hpl, decide_eq_true_eq, stands_false L.good]
      exact ⟨fun z => ⟨L.stands, z⟩, fun z => z.2⟩
    refine q_when (b := false) ((et_or (et_not (b := true) (et_B (M := M) (asH H8 _ v10 rfl rfl (Same.refl _) h10))) fun _ => et_val (M := M) (ev_neB (M := M) (m := decide (∀ x, x < rows.length → Sttl rows x)) (n := decide (p ∈ S)) (ev_op (setl H8 _ v10 rfl (Same.refl _) h10) (fun _ _ _ _ z => z) (ev_len (ev_var rfl h10)) ?_) (ev_var (r := rB) rfl rfl))).is (by rw [hplain]; simp)) (fun hb => by cases hb) fun _ H9 s9 => ?_
    · rintro H9 a b s9 ⟨m, rfl, e⟩ rfl Q k
      refine ⟨rfl, k _ H9 (Same.refl _) ?_⟩
      show V.bl _ = V.bl _
      congr 1
      rw [decide_eq_decide, V.int.injEq, ← e]
      omega
    -- built without
    refine q_whenJ (b := decide (p ∈ S)) (fun σ' H' => ∃ c10, σ' = [some v1, some (.int (p : Int)), some v3, some v4, some v9, none, some v6, some v7, some (.bl (decide (p ∈ S))), none, c10] ∧ Same H8 H') (et_B (M := M) (ev_var (r := rB) rfl rfl)) (fun tsk hJ hb H10 s10 => ?_) (fun _ H10 s10 => ⟨_, rfl, s9.trans s10⟩) ?_
    · have s810 := s9.trans s10
      refine q_asg (P := as rD M rows) (ev_call (ea_2r (r := rN) (q := rD) (M := M) (ev_len (ev_var rfl (Rep.same s810 h78))) (ev_var rfl (Rep.same s810 h98))) ?_) fun v11 H11 s11 h11 => ?_
      · rintro H11 vs s11 ⟨w1, w2, rfl, p1, p2⟩ Q k
        exact ⟨M, w1, w2, false, rows, rfl, (d8.same s810).same s11, p1, p2, L.good, by omega, L.pos, hpl.mp hb, fun v H12 s12 hv => k v H12 s12 hv⟩
      · have s811 := s810.trans s11
        have hall : ∀ x, x < rows.length → Sttl rows x := (hpl.mp hb).2 rfl
        refine s_when (b := false) ((et_or (et_not (b := true) (et_B (M := M) (asH H11 _ v11 rfl rfl s811 h11))) fun _ => et_val (M := M) (ev_op (P := as rB M false) (setl H11 _ v11 rfl s811 h11) (fun _ _ _ _ z => z) (ev_len (ev_var rfl h11)) ?_)).is (by simp)) (fun hb => by cases hb) fun _ H12 s12 => hJ _ _ ⟨_, rfl, s811.trans s12⟩
        rintro H12 a b s12 ⟨m, rfl, e⟩ rfl Q k
        refine ⟨rfl, k _ H12 (Same.refl _) ?_⟩
        show V.bl _ = V.bl _
        congr 1
        have := e.mpr hall
        subst this
        simp
    · rintro σ' H10 ⟨c10, rfl, s10⟩
      refine s_ret (P := as rB M (decide (rows = rows))) (ev_eqD (r := rD) (ha := ev_var rfl (Rep.same s10 h98)) (hb := ev_var rfl (Rep.same s10 h78))) fun v H11 s11 e => ?_
      obtain rfl : v = .bl _ := e
      simp only [decide_true]
      exact k H11 ((s18.trans s10).trans s11)
end
end K80

namespace K80
open PySem PySem.Spec PyProof.Rows L2 Rp
def spLaw (K : PySem.W.Frag) : Sp := fun vs H Q _ => ∃ (a : Addr) (ns : List Int), vs = [.ref a] ∧ SqL K H a (ns.map V.int) ∧ ns.length ≤ 63 ∧ ∀ H', Q (.bl true) H'
section
variable {P : Program} {w : World} {K : PySem.W.Frag} {mg : Str → Option Value} {base : Heap}
abbrev NLaw : List Str := ["script", "state", "drawing", "classes", "settled", "unlike", "k"]
theorem scLaw : FnScope NLaw ["script"] (defScope sLaw) := ⟨rfl, rfl, rfl, by decide +kernel, rfl, by decide +kernel, by decide +kernel⟩
theorem ok_law {f : Addr} {fd : FuncData} (F : FD K "law" sLaw f fd) (T : Tx K mg) (C_law_start : Fn P w K mg base "_law_start" ["script"] 1 (spStart K) []) (C_law_drawing : Fn P w K mg base "_law_drawing" ["state"] 3 spDrawing []) (C_law_classes : Fn P w K mg base "_law_classes" ["drawing"] 1 spClasses [])
    (C_law_settled : Fn P w K mg base "_law_settled" ["drawing"] 1 spLSettled []) (C_law_stands : Fn P w K mg base "_law_stands" ["rows", "due", "plain"] 5 spLStands []) (C_law_draw : Fn P w K mg base "_law_draw" ["state", "many"] 1 spDraw [])
    (C_law_least : Fn P w K mg base "_law_least" ["drawing", "place", "classes", "settled"] 6 spLLeast []) : FnOk P w K mg base CX0 7 f fd ["script"] (spLaw K) := by
  classical
  refine F.ok scLaw (fun vs H Q E h => ?_) (fun cdv A outer s H vs Q E hr h => ?_)
  · obtain ⟨_, _, rfl, _⟩ := h
    rfl
  · obtain ⟨a, ns, rfl, h1, hz, k⟩ := h
    have nd := scLaw.nd
    refine ⟨_, PSs.nox (pss_cons (ps_set (i := 1) nd rfl (by first | exact Or.inl rfl | exact Or.inr rfl) (pe_fn C_law_start hr rfl (pa_cons (pv 0) pa_nil)))
      (pss_cons (ps_set (i := 2) nd rfl (by first | exact Or.inl rfl | exact Or.inr rfl) (pe_fn C_law_drawing hr rfl (pa_cons (pv 1) pa_nil)))
      (pss_cons (ps_set (i := 3) nd rfl (by first | exact Or.inl rfl | exact Or.inr rfl) (pe_fn C_law_classes hr rfl (pa_cons (pv 2) pa_nil)))
      (pss_cons (ps_set (i := 4) nd rfl (by first | exact Or.inl rfl | exact Or.inr rfl) (pe_fn C_law_settled hr rfl (pa_cons (pv 2) pa_nil)))
      (pss_cons (ps_set (i := 5) nd rfl (by first | exact Or.inl rfl | exact Or.inr rfl) (pe_cmpR (oeqD K hr.units) (pv 3) (pe_lc rfl nd (pi_range1 rfl T.f_range (pa_cons (pe_callB (clen K) rfl T.f_len boot_len (pa_cons (pv 2) pa_nil)) pa_nil)) (blkOk_by (own := [("k", 6)]) (N := NLaw) (sc := defScope sLaw) (by decide +kernel)) (fun _ _ _ _ _ => (pg_name (i := 6) nd rfl (by first | exact Or.inl rfl | exact Or.inr rfl))) (fun _ _ _ _ _ => pts_nil) (fun _ _ _ _ _ => (pv 6))) (nomark _)))
      (pss_cons (ps_if (pt_not (pt_val (pe_fn C_law_stands hr rfl (pa_cons (pv 2) (pa_cons (pv 5) (pa_cons (pe_cmpR op_eq (pe_callB (clen K) rfl T.f_len boot_len (pa_cons (pv 4) pa_nil)) (pe_callB (clen K) rfl T.f_len boot_len (pa_cons (pv 2) pa_nil)) (nomark _)) pa_nil)))))) (pss_one (ps_ret pe_bl)) pss_nil)
      (pss_cons (ps_for PassesOwn.never rfl (pi_range1 rfl T.f_range (pa_cons pe_int pa_nil)) (pg_name (i := 6) nd rfl (by first | exact Or.inl rfl | exact Or.inr rfl)) (pss_one (ps_if (pt_not (pt_val (pe_fn C_law_least hr rfl (pa_cons (pv 2) (pa_cons (pe_fn C_law_draw hr rfl (pa_cons (pv 1) (pa_cons (pe_callB (clen K) rfl T.f_len boot_len (pa_cons (pv 2) pa_nil)) pa_nil))) (pa_cons (pv 3) (pa_cons (pv 4) pa_nil))))))) (pss_one (ps_ret pe_bl)) pss_nil)))
      (pss_one (ps_ret pe_bl))))))))), ?_⟩
    refine q_asg (P := fun H1 v => ∃ p g, v = .ref p ∧ DS p g H1) (ev_call (ea_1 (P := fun _ w => w = .ref a) (ev_ref rfl)) ?_) fun v1 H1 s1 ⟨p, g, e, d1⟩ => ?_
    · rintro H1 vs s1 ⟨w1, rfl, rfl⟩ Q k
      exact ⟨a, ns, rfl, SqL.same h1 s1, by omega, fun p g H2 s2 _ _ d => k _ H2 s2 ⟨p, g, rfl, d⟩⟩
    subst e
    refine q_asgS (p := p) (g := g) (P := drawnP p g 12) (fun d Q q => ?_) d1 fun v2 H2 k2 d2 ⟨D, h2, hD, hpos, hle⟩ => ?_
    · refine ⟨_, rfl, p, g, rfl, d, fun v H2 D k2 d2 hv g1 g2 g3 => q v H2 k2 d2 ⟨D, hv, g1, g2, g3⟩⟩
    have o2 := d2.old
    refine q_asg (P := fun H1 v => ∃ C, rL rN [p, g] H1 v C ∧ Cls D C) (ev_call (ea_1 (ev_var (r := rD) rfl h2)) ?_) fun v3 H3 s3 ⟨C, h3, hC⟩ => ?_
    · rintro H3 vs s3 ⟨w1, rfl, p1⟩ Q k
      exact ⟨[p, g], w1, D, rfl, o2.same s3, p1, hD, hpos, by omega, fun v H4 N s4 hv c => k v H4 s4 ⟨N, hv, c⟩⟩
    refine q_asg (P := fun H1 v => ∃ S, rL rN [p, g] H1 v S ∧ S.Nodup ∧ ∀ x, x ∈ S ↔ x < D.length ∧ Sttl D x) (ev_call (ea_1 (ev_var (r := rD) rfl (Rep.same s3 h2))) ?_) fun v4 H4 s4 ⟨S, h4, ndS, hS⟩ => ?_
    · rintro H4 vs s4 ⟨w1, rfl, p1⟩ Q k
      exact ⟨[p, g], w1, D, rfl, (o2.same s3).same s4, p1, hD, by omega, fun v H5 S s5 hv g1 g2 => k v H5 s5 ⟨S, hv, g1, g2⟩⟩
    have s34 := s3.trans s4
    have h24 := Rep.same s34 h2
    have h34 := Rep.same s4 h3
    have o4 := o2.same s34
    refine q_asg (P := as rB [p, g] (decide (C = List.range D.length))) (ev_eqD (r := rL rN) (ha := ev_var rfl h34) (hb := Ev.to (ev_lcRM (q := rN) o4 id (ev_len (ev_var rfl h24)) (by omega) (fun _ => rfl) fun M' H5 i up hi => ev_var (r := rN) rfl rfl) (List.map_id _))) fun v5 H5 s5 e => ?_
    obtain rfl : v5 = .bl (decide (C = List.range D.length)) := e
    have h25 := Rep.same s5 h24
    have o5 := o4.same s5
    have hall := all_settled (P := Sttl D) ndS hS
    refine q_when (b := false) ((et_not (b := true) (et_B (M := [p, g]) (ev_call (ea_cons (P := as rD [p, g] D) (ev_var rfl h25) (fun _ _ _ s z => Rep.same s z) (ea_2r (r := rB) (q := rB) (M := [p, g]) (ev_var (r := rB) (x := decide (C = List.range D.length)) rfl rfl) (ev_eqN (ev_len (ev_var rfl (Rep.same s5 h4))) (ev_len (ev_var rfl h25))))) ?_))).is rfl) (fun hb => by cases hb) fun _ H6 s6 => ?_
    · rintro H6 vs s6 ⟨w1, ws, rfl, p1, w2, w3, rfl, rfl, rfl⟩ Q k
      refine ⟨[p, g], w1, D, _, _, rfl, o5.same s6, p1, hD, by omega, by rw [decide_eq_true_eq]; exact unlike_stands hC, ?_, fun H7 s7 => k _ H7 s7 rfl⟩
      rw [Bool.and_eq_true, decide_eq_true_eq, decide_eq_true_eq, stands_false hD, unlike_stands hC, hall]
    have s46 := s5.trans s6
    have d6 := (d2.same s34).same s46
    refine q_forR1 (n := 2) (M := []) ev_nat (by decide) fun H7 s7 => ?_
    have s47 := s46.trans s7
    refine ⟨fun i σ' H' => ∃ (c6 : Option V), σ' = [some (.ref a), some (.ref p), some v2, some v3, some v4, some (.bl (decide (C = List.range D.length))), c6] ∧ DS p g H' ∧ rD [p, g] H' v2 D ∧ rL rN [p, g] H' v3 C ∧ rL rN [p, g] H' v4 S, ⟨none, rfl, d6.same s7, Rep.same s47 h24, Rep.same s47 h34, Rep.same s47 h4⟩, ?_, ?_⟩
    · rintro i σ' H8 hi ⟨c6, rfl, d8, h28, h38, h48⟩
      have hdr : EvS p g (tCall spDraw [] E0 (tCons (tVar 1) (tCons (tCB (rLenS K) (tCons (tVar 2) tNil)) tNil))) [some (.ref a), some (.ref p), some v2, some v3, some v4, some (.bl (decide (C = List.range D.length))), some (.int ((0 + i : Nat) : Int))] H8 (drawP 0 D.length) := es_draw (ev_ref rfl) (ev_len (ev_var rfl (Rep.sub (by simp) h28))) hpos (by omega)
      refine ⟨_, rfl, hdr d8 _ fun v H9 k9 d9 ⟨r, hr', e⟩ => ?_⟩
      subst e
      rw [show 0 + r = r from Nat.zero_add r]
      refine ⟨_, rfl, _, rfl, [p, g], v2, v3, v4, D, r, C, S, rfl, d9.old, Rep.mono k9 h28, hD, by omega, hr', Rep.mono k9 h38, hC, Rep.mono k9 h48, hS, fun H10 s10 => ?_⟩
      exact ⟨true, rfl, _, rfl, d9.same s10, Rep.same s10 (Rep.mono k9 h28), Rep.same s10 (Rep.mono k9 h38), Rep.same s10 (Rep.mono k9 h48)⟩
    · rintro σ' H8 ⟨c6, rfl, _⟩
      show tRet (tC (V.bl true)) { nx := fun _ H' => Q .non H', rt := Q } [some (.ref a), some (.ref p), some v2, some v3, some v4, some (.bl (decide (C = List.range D.length))), c6] H8
      refine s_ret (P := as rB [] true) ev_bl fun v H9 s9 e => ?_
      obtain rfl : v = .bl true := e
      exact k H9
end
end K80

namespace K80
open PySem PySem.Spec PyProof.Rows L2 Rp
section
variable {P : Program} {w : World} {K : PySem.W.Frag} {mg : Str → Option Value} {base : Heap}
theorem fn_of_fd {x : Str} {st : Stmt} {f : Addr} {fd : FuncData} {ps : List Str} {k : Nat} {sp : Sp} (F : FD K x st f fd) (ok : FnOk P w K mg base CX0 k f fd ps sp) (g : mg x = some (.ref f))
    (h : ∀ (kV doc pm : Value) (an : Option Addr) (cdv ct : Value) (us : List Value), us.length = ps.length → bindArgs (PySem.W.fnOf x x (defArgs st) (defBody st) (defScope st) .none kV doc pm an cdv ct) ⟨us, []⟩ = pure (ps.zip us)) : Fn P w K mg base x ps k sp [] :=
  ⟨f, fd, [], ok, g, F.kp, F.bindsN h, .nil⟩
theorem all_ok (T : Tx K mg) (c : He.SaysD fa fn K) {fd : FuncData} (F : FunD K "law" "law" (defArgs sLaw) (defBody sLaw) (defScope sLaw) [] [] (He.ga K "law") fd) : FnOk P w K mg base CX0 7 (He.ga K "law") fd ["script"] (spLaw K) := by
  obtain ⟨fd_Reachable, F_Reachable⟩ : ∃ fd, FD K "reachable" sReachable (He.ga K "reachable") fd := c.def_ 0 (d := dReachable) rfl
  have C_reachable : Fn P w K mg base "reachable" ["drawing", "place"] 1 spReachable [] := fn_of_fd F_Reachable (ok_reachable F_Reachable T ) T.gReachable fun _ _ _ _ _ _ us hl => match us, hl with | [_, _], _ => rfl
  obtain ⟨fd_AreMatched, F_AreMatched⟩ : ∃ fd, FD K "are_matched" sAreMatched (He.ga K "are_matched") fd := c.def_ 2 (d := dAreMatched) rfl
  have C_are_matched : Fn P w K mg base "are_matched" ["first", "second", "related"] 1 spMatched [] := fn_of_fd F_AreMatched (ok_matched F_AreMatched T ) T.gAreMatched fun _ _ _ _ _ _ us hl => match us, hl with | [_, _, _], _ => rfl
  obtain ⟨fd_GreatestLikeness, F_GreatestLikeness⟩ : ∃ fd, FD K "greatest_likeness" sGreatestLikeness (He.ga K "greatest_likeness") fd := c.def_ 3 (d := dGreatestLikeness) rfl
  have C_greatest_likeness : Fn P w K mg base "greatest_likeness" ["count", "rows"] 2 spGreatest [] := fn_of_fd F_GreatestLikeness (ok_greatest F_GreatestLikeness T C_are_matched) T.gGreatestLikeness fun _ _ _ _ _ _ us hl => match us, hl with | [_, _], _ => rfl
  obtain ⟨fd_SettledPlaces, F_SettledPlaces⟩ : ∃ fd, FD K "settled_places" sSettledPlaces (He.ga K "settled_places") fd := c.def_ 1 (d := dSettledPlaces) rfl
  have C_settled_places : Fn P w K mg base "settled_places" ["rows"] 1 spSettled [] := fn_of_fd F_SettledPlaces (ok_settled F_SettledPlaces T ) T.gSettledPlaces fun _ _ _ _ _ _ us hl => match us, hl with | [_], _ => rfl
  obtain ⟨fd_NumbersHeld, F_NumbersHeld⟩ : ∃ fd, FD K "numbers_held" sNumbersHeld (He.ga K "numbers_held") fd := c.def_ 7 (d := dNumbersHeld) rfl
  have C_numbers_held : Fn P w K mg base "numbers_held" ["row", "numbers"] 1 spHeld [] := fn_of_fd F_NumbersHeld (ok_held F_NumbersHeld T ) T.gNumbersHeld fun _ _ _ _ _ _ us hl => match us, hl with | [_, _], _ => rfl
  obtain ⟨fd_RanksOf, F_RanksOf⟩ : ∃ fd, FD K "ranks_of" sRanksOf (He.ga K "ranks_of") fd := c.def_ 8 (d := dRanksOf) rfl
  have C_ranks_of : Fn P w K mg base "ranks_of" ["pairs"] 1 spRanks [] := fn_of_fd F_RanksOf (ok_ranks F_RanksOf T ) T.gRanksOf fun _ _ _ _ _ _ us hl => match us, hl with | [_], _ => rfl
  obtain ⟨fd_LikenessOf, F_LikenessOf⟩ : ∃ fd, FD K "likeness_of" sLikenessOf (He.ga K "likeness_of") fd := c.def_ 9 (d := dLikenessOf) rfl
  have C_likeness_of : Fn P w K mg base "likeness_of" ["drawing"] 2 spLike [] := fn_of_fd F_LikenessOf (ok_like F_LikenessOf T C_numbers_held C_ranks_of) T.gLikenessOf fun _ _ _ _ _ _ us hl => match us, hl with | [_], _ => rfl
  obtain ⟨fd_LeastDrawing, F_LeastDrawing⟩ : ∃ fd, FD K "least_drawing" sLeastDrawing (He.ga K "least_drawing") fd := c.def_ 10 (d := dLeastDrawing) rfl
  have C_least_drawing : Fn P w K mg base "least_drawing" ["drawing", "place"] 3 spLeast [] := fn_of_fd F_LeastDrawing (ok_least F_LeastDrawing T C_reachable C_likeness_of C_numbers_held) T.gLeastDrawing fun _ _ _ _ _ _ us hl => match us, hl with | [_, _], _ => rfl
  obtain ⟨fd_LawStart, F_LawStart⟩ : ∃ fd, FD K "_law_start" sLawStart (He.ga K "_law_start") fd := c.def_ 11 (d := dLawStart) rfl
  have C__law_start : Fn P w K mg base "_law_start" ["script"] 1 (spStart K) [] := fn_of_fd F_LawStart (ok_start F_LawStart T ) T.gLawStart fun _ _ _ _ _ _ us hl => match us, hl with | [_], _ => rfl
  obtain ⟨fd_LawDraw, F_LawDraw⟩ : ∃ fd, FD K "_law_draw" sLawDraw (He.ga K "_law_draw") fd := c.def_ 12 (d := dLawDraw) rfl
  have C__law_draw : Fn P w K mg base "_law_draw" ["state", "many"] 1 spDraw [] := fn_of_fd F_LawDraw (ok_draw F_LawDraw T ) T.gLawDraw fun _ _ _ _ _ _ us hl => match us, hl with | [_, _], _ => rfl
  obtain ⟨fd_LawFree, F_LawFree⟩ : ∃ fd, FD K "_law_free" sLawFree (He.ga K "_law_free") fd := c.def_ 13 (d := dLawFree) rfl
  have C__law_free : Fn P w K mg base "_law_free" ["state", "most"] 2 spFree [] := fn_of_fd F_LawFree (ok_free F_LawFree T C__law_draw) T.gLawFree fun _ _ _ _ _ _ us hl => match us, hl with | [_, _], _ => rfl
  obtain ⟨fd_LawLower, F_LawLower⟩ : ∃ fd, FD K "_law_lower" sLawLower (He.ga K "_law_lower") fd := c.def_ 14 (d := dLawLower) rfl
  have C__law_lower : Fn P w K mg base "_law_lower" ["state", "most"] 2 spFree [] := fn_of_fd F_LawLower (ok_lower F_LawLower T C__law_draw) T.gLawLower fun _ _ _ _ _ _ us hl => match us, hl with | [_, _], _ => rfl
  obtain ⟨fd_LawDoubled, F_LawDoubled⟩ : ∃ fd, FD K "_law_doubled" sLawDoubled (He.ga K "_law_doubled") fd := c.def_ 15 (d := dLawDoubled) rfl
  have C__law_doubled : Fn P w K mg base "_law_doubled" ["state", "base"] 2 spDoubled [] := fn_of_fd F_LawDoubled (ok_doubled F_LawDoubled T C__law_draw) T.gLawDoubled fun _ _ _ _ _ _ us hl => match us, hl with | [_, _], _ => rfl
  obtain ⟨fd_LawDrawing, F_LawDrawing⟩ : ∃ fd, FD K "_law_drawing" sLawDrawing (He.ga K "_law_drawing") fd := c.def_ 16 (d := dLawDrawing) rfl
  have C__law_drawing : Fn P w K mg base "_law_drawing" ["state"] 3 spDrawing [] := fn_of_fd F_LawDrawing (ok_drawing F_LawDrawing T C__law_draw C__law_lower C__law_free C__law_doubled) T.gLawDrawing fun _ _ _ _ _ _ us hl => match us, hl with | [_], _ => rfl
  obtain ⟨fd_LawClasses, F_LawClasses⟩ : ∃ fd, FD K "_law_classes" sLawClasses (He.ga K "_law_classes") fd := c.def_ 17 (d := dLawClasses) rfl
  have C__law_classes : Fn P w K mg base "_law_classes" ["drawing"] 1 spClasses [] := fn_of_fd F_LawClasses (ok_classes F_LawClasses T ) T.gLawClasses fun _ _ _ _ _ _ us hl => match us, hl with | [_], _ => rfl
  obtain ⟨fd_LawSettled, F_LawSettled⟩ : ∃ fd, FD K "_law_settled" sLawSettled (He.ga K "_law_settled") fd := c.def_ 18 (d := dLawSettled) rfl
  have C__law_settled : Fn P w K mg base "_law_settled" ["drawing"] 1 spLSettled [] := fn_of_fd F_LawSettled (ok_lsettled F_LawSettled T ) T.gLawSettled fun _ _ _ _ _ _ us hl => match us, hl with | [_], _ => rfl
  obtain ⟨fd_LawReached, F_LawReached⟩ : ∃ fd, FD K "_law_reached" sLawReached (He.ga K "_law_reached") fd := c.def_ 19 (d := dLawReached) rfl
  have C__law_reached : Fn P w K mg base "_law_reached" ["drawing", "place"] 1 spLReached [] := fn_of_fd F_LawReached (ok_lreached F_LawReached T ) T.gLawReached fun _ _ _ _ _ _ us hl => match us, hl with | [_, _], _ => rfl
  obtain ⟨fd_LawIsDrawing, F_LawIsDrawing⟩ : ∃ fd, FD K "_law_is_drawing" sLawIsDrawing (He.ga K "_law_is_drawing") fd := c.def_ 20 (d := dLawIsDrawing) rfl
  have C__law_is_drawing : Fn P w K mg base "_law_is_drawing" ["drawing", "most"] 1 spIsDrawing [] := fn_of_fd F_LawIsDrawing (ok_isDrawing F_LawIsDrawing T ) T.gLawIsDrawing fun _ _ _ _ _ _ us hl => match us, hl with | [_, _], _ => rfl
  obtain ⟨fd_pa, F_pa⟩ : ∃ fd, FR K "pairs_alike" sPairsAlike (He.ga K "pairs_alike") fd := c.def_ 4 (d := dPairsAlike) rfl
  have C_pairs : FnK P w K mg base "pairs_alike" ["count", "rows", "rings"] ["rings"] 2 3 spPairs (fun vs zs => vs ++ zs) := ⟨_, _, _, ok_pairs F_pa T C_greatest_likeness, T.gPairsAlike, F_pa.kp, kb_pairs F_pa⟩
  obtain ⟨fd_ss, F_ss⟩ : ∃ fd, FR K "sketch_stands" sSketchStands (He.ga K "sketch_stands") fd := c.def_ 5 (d := dSketchStands) rfl
  have ok_ss := ok_stands (P := P) (w := w) (base := base) F_ss T C_pairs C_settled_places
  have C_ss : FnK P w K mg base "sketch_stands" ["count", "rows", "rings"] ["rings"] 2 4 spStands (fun vs zs => vs ++ zs) := ⟨_, _, _, ok_ss, T.gSketchStands, F_ss.kp, kb_stands F_ss⟩
  have C_ss0 : Fn P w K mg base "sketch_stands" ["count", "rows", "rings"] 4 spStands [V.bl false] := by
    obtain ⟨ds, h1, h2⟩ := b_stands F_ss
    exact ⟨_, _, ds, ok_ss, T.gSketchStands, F_ss.kp, h2, h1⟩
  obtain ⟨fd_bd, F_bd⟩ : ∃ fd, FR K "build_drawing" sBuildDrawing (He.ga K "build_drawing") fd := c.def_ 6 (d := dBuildDrawing) rfl
  have ok_bd := ok_build (P := P) (w := w) (base := base) F_bd T C_ss
  have C_bd : FnK P w K mg base "build_drawing" ["count", "rows", "rings"] ["rings"] 2 5 spBuild (fun vs zs => vs ++ zs) := ⟨_, _, _, ok_bd, T.gBuildDrawing, F_bd.kp, kb_build F_bd⟩
  have C_bd0 : Fn P w K mg base "build_drawing" ["count", "rows", "rings"] 5 spBuild [V.bl false] := by
    obtain ⟨ds, h1, h2⟩ := b_build F_bd
    exact ⟨_, _, ds, ok_bd, T.gBuildDrawing, F_bd.kp, h2, h1⟩
  obtain ⟨fd_ls, F_ls⟩ : ∃ fd, FD K "_law_stands" sLawStands (He.ga K "_law_stands") fd := c.def_ 21 (d := dLawStands) rfl
  have C_ls : Fn P w K mg base "_law_stands" ["rows", "due", "plain"] 5 spLStands [] := fn_of_fd F_ls (ok_lstands F_ls T C_ss C_ss0) T.gLawStands fun _ _ _ _ _ _ us hl => match us, hl with | [_, _, _], _ => rfl
  obtain ⟨fd_ah, F_ah⟩ : ∃ fd, FD K "_law_as_held" sLawAsHeld (He.ga K "_law_as_held") fd := c.def_ 22 (d := dLawAsHeld) rfl
  have C_ah : Fn P w K mg base "_law_as_held" ["told", "rows"] 2 spAsHeld [] := fn_of_fd F_ah (ok_asHeld F_ah T C__law_is_drawing C__law_classes) T.gLawAsHeld fun _ _ _ _ _ _ us hl => match us, hl with | [_, _], _ => rfl
  obtain ⟨fd_ll, F_ll⟩ : ∃ fd, FD K "_law_least" sLawLeast (He.ga K "_law_least") fd := c.def_ 23 (d := dLawLeast) rfl
  have C_ll : Fn P w K mg base "_law_least" ["drawing", "place", "classes", "settled"] 6 spLLeast [] := fn_of_fd F_ll (ok_lleast F_ll T C_least_drawing C__law_is_drawing C__law_reached C_ls C_bd C_bd0 C_ah C__law_settled) T.gLawLeast fun _ _ _ _ _ _ us hl => match us, hl with | [_, _, _, _], _ => rfl
  exact ok_law F T C__law_start C__law_drawing C__law_classes C__law_settled C_ls C__law_draw C_ll
end
abbrev R : PySem.W.OpenRow := PySem.W.OpenLaw.row PySem.Challenge.rw_setnests_k80_whole_drawings_as_sketches
abbrev hk : PySem.W.Hook := He.hookD 4 fa fn
def ob (s : PySem.W.SharedT) : He.AlD := He.obsDG 4 fa fn (HandSHeadRun.getT s)
theorem ob_eq (s : PySem.W.SharedT) : ob s = hk.obs s.abs := He.obsDG_eq (HandSHeadRun.getT_eq s)
def loose : List Str := ["NotStanding", "SetnestsError", "__name__", "_law_as_held", "_law_classes", "_law_doubled", "_law_draw", "_law_drawing", "_law_free", "_law_is_drawing", "_law_least", "_law_lower", "_law_reached", "_law_settled", "_law_stands", "_law_start", "are_matched", "build_drawing", "greatest_likeness", "least_drawing", "likeness_of", "numbers_held", "pairs_alike", "ranks_of", "reachable", "settled_places", "sketch_stands"]
theorem run (w : World) : HandSHeadRun.RunEq R (PySem.W.view R.prog [32]) hk ob 3000 loose w := by
  intro os
  kernel_rfl
theorem facts {P : Program} {w : World} {K : PySem.W.Frag} {h : Heap} {mg : Str → Option Value} {f : Addr} (X : K.In h) (G : h.Ns mainGlobals mg) (hfa : mg ("law" : Str) = some (.ref f)) (c : He.SaysD fa fn K) :
    ∃ fd : FuncData, (∀ (s : Shared) (v : Value), BindsTo s fd ⟨[v], []⟩ [("script", v)]) ∧ ∀ base : Heap, K.In base → base.Ns mainGlobals mg → FnOk P w K mg base CX0 7 f fd ["script"] (spLaw K) := by
  have T := Tx.of X G c
  obtain ⟨fd, F⟩ := c.def_ 24 (d := dLaw) rfl
  have e := hfa.symm.trans T.gLaw
  cases e
  have b := FunD.bindsA (ps := ["script"]) F fun _ _ _ _ _ _ us hl => match us, hl with | [_], _ => rfl
  exact ⟨fd, fun s v => b s [v] rfl, fun base _ _ => all_ok T c F⟩
end K80
open PySem PySem.W PySem.Calls PyProof.Rows
theorem PySem.Challenge.cw_setnests_k80_whole_drawings_as_sketches_holds : PySem.Challenge.rw_setnests_k80_whole_drawings_as_sketches.Holds := by
  w_on; o_law
  refine HandSHeadRun.head_any (r := K80.R) (q := view K80.R.prog [32]) (H := K80.hk) (ob := K80.ob) (M := 3000) (loose := K80.loose) (d := HandSHeadRun.topDef K80.R.prog 32) (kwd := []) K80.ob_eq
    (by kernel_rfl) (fun s => by kernel_rfl) K80.run (by kernel_rfl) (by kernel_rfl) (by kernel_rfl) (by rfl) (by first | assumption | decide +kernel) (by decide +kernel) ⟨rfl, rfl, rfl, rfl, rfl, by decide +kernel⟩ ?hw ?hc
  case hw => w_witness2
  case hc =>
    refine L2.walk_ofE (l := PySem.Challenge.rw_setnests_k80_whole_drawings_as_sketches) (n := 63) (k := 7) (x := "script") (CX := L2.CX0) rfl (by decide) (by kernel_rfl) ⟨rfl, by decide, by decide⟩ ?F (fun _ _ _ _ z => z)
    intro w mg fa h Y G hmg0
    obtain ⟨K, KX, c⟩ := Y
    have hmg : mg ("law" : PySem.Str) = some (.ref fa) := by
      have e : (HandSHeadRun.topDef K80.R.prog 32).name = ("law" : PySem.Str) := by kernel_rfl
      rw [← e]
      exact hmg0
    obtain ⟨fd, hb, hF⟩ := K80.facts (P := (PySem.Challenge.rw_setnests_k80_whole_drawings_as_sketches).prog) (w := w) KX G hmg c
    exact ⟨K, fd, K80.spLaw K, KX, hb, fun H a ns hl _ hS => ⟨a, ns, rfl, hS, hl, fun _ => rfl⟩, hF⟩
