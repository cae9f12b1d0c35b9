import PyProof.Rows.All
import Wide.All
import OpenK.AllK
import Wide.FinOn
import HandS.ForMost
import HandS.Walk
import HandS.Lambda
import HandS.Style
import HandS.TupAny
import HandS.Conv
import HandS.Deep
import HandS.Star
import KE.Datum
import HandS.IsInst
import HandS.Property
import KE.KTupSum
import HandS.Codes
import HandS.SortKw
import HandS.EndTab
import KE.SortKeyHeap
import HandS.DictTup
import HandS.TupLen
import KE.KDictKeyed
import KE.KDictItemsList
import KE.KDictSum
import HandS.TupSets
import KE.GoesEnum
import HandS.Zip
import KE.KStateDown
import HandS.Head0
import HandS.Head1
import HandS.Head2
import HandS.HeadEnd
import HandS.HeadHook1
import HandS.HeadHook2
import HandS.HeadHook3
import HandS.HeadHook4
import HandS.HeadWalk
import PySem.Challenge.RW_runcolumns_k08_whole_keys
set_option Elab.async false
set_option linter.all false
set_option maxRecDepth 100000
set_option maxHeartbeats 4000000
namespace K8
open PySem L2

abbrev Tb := List (Addr × Str)
/-- all that is tracked stays, tables of code objects may grow -/
def Xt (T : Tb) (H H' : Hp) : Prop := LamX.ExtN H H' ∧ (LamX.Tabs T H → LamX.Tabs T H')
section
variable {T : Tb} {H H' H1 H2 : Hp} {p : Addr} {o : HO}
theorem Xt.refl (T : Tb) (H : Hp) : Xt T H H := ⟨LamX.ExtN.refl H, id⟩
theorem Xt.trans (a : Xt T H H1) (b : Xt T H1 H2) : Xt T H H2 := ⟨a.1.trans b.1, fun t => b.2 (a.2 t)⟩
theorem Xt.all (e : ∀ b o, H b = some o → H' b = some o) : Xt T H H' := ⟨LamX.ExtN.of e, fun t => t.ext e⟩
theorem upd_keep (h : H p = none) : ∀ b u, H b = some u → upd H p o b = some u := fun b u e => by
  rw [upd_ne (ne_of_none e h)]
  exact e
theorem Xt.new (h : H p = none) : Xt T H (upd H p o) := Xt.all (upd_keep h)
/-- what is told by kinds: neither a table nor a thing of its own kind -/
def Cnt : HO → Prop
  | .tbl _ => False
  | .ext _ => False
  | _ => True
theorem Xt.mut {u : HO} (e : Xt T H H') (h : H p = none) (hp : H' p = some u) (hc : Cnt u) : Xt T H (upd H' p o) := by
  refine ⟨fun b x q n => ?_, fun t => ?_⟩
  · rw [upd_ne (ne_of_none q h)]
    exact e.1 b x q n
  · intro q hq
    obtain ⟨ps, h1, h2, h3⟩ := e.2 t q hq
    have n1 : q.1 ≠ p := fun z => by
      rw [z, hp] at h1
      cases h1
      exact hc
    refine ⟨ps, by rw [upd_ne n1]; exact h1, h2, fun pos cv hcv => ?_⟩
    obtain ⟨c, e1, e2⟩ := h3 pos cv hcv
    have n2 : c ≠ p := fun z => by
      rw [z, hp] at e2
      unfold LamX.CodeO at e2
      cases e2
      exact hc
    exact ⟨c, e1, by rw [upd_ne n2]; exact e2⟩
theorem Xt.at_ {u : HO} (e : Xt T H H') (h : H p = some u) (hc : ∀ ps, u ≠ .tbl ps) : H' p = some u := e.1 p u h hc
theorem Xt.tup {xs : List V} (e : Xt T H H') (h : H p = some (.tup xs)) : H' p = some (.tup xs) := e.1 p _ h (fun _ z => by cases z)
theorem Xt.lst {xs : List V} (e : Xt T H H') (h : H p = some (.lst xs)) : H' p = some (.lst xs) := e.1 p _ h (fun _ z => by cases z)
theorem Xt.dT {xs : List (List Key × V)} (e : Xt T H H') (h : H p = some (.dT xs)) : H' p = some (.dT xs) := e.1 p _ h (fun _ z => by cases z)
theorem Xt.ins {C dx : Addr} {fs : List (Str × V)} (e : Xt T H H') (h : H p = some (.ins C dx fs)) : H' p = some (.ins C dx fs) := e.1 p _ h (fun _ z => by cases z)
theorem Xt.ext {φ : Heap → Prop} (e : Xt T H H') (h : H p = some (.ext φ)) : H' p = some (.ext φ) := e.1 p _ h (fun _ z => by cases z)
theorem Xt.sqL {K : PySem.W.Frag} {xs : List V} (e : Xt T H H') (h : SqL K H p xs) : SqL K H' p xs := by
  rcases h with (h | ⟨o, h⟩) | h
  · exact .inl (.inl (e.lst h))
  · exact .inl (.inr ⟨o, e.1 p _ h (fun _ z => by cases z)⟩)
  · exact .inr h
theorem fresh_back {u : HO} (e : Xt T H H') (h : H' p = none) : ∀ u, H p = some u → (∀ ps, u ≠ .tbl ps) → False := fun u q n => by
  rw [e.1 p u q n] at h
  cases h
end

abbrev Rp := Hp → V → Prop
class Mn (T : Tb) (R : Rp) : Prop where
  mono : ∀ {H H' : Hp} {v : V}, Xt T H H' → R H v → R H' v
/-- the value itself -/
def rpV (x : V) : Rp := fun _ v => v = x
/-- an int of which P holds -/
def rpI (P : Int → Prop) : Rp := fun _ v => ∃ k, P k ∧ v = .int k
def rpB (P : Bool → Prop) : Rp := fun _ v => ∃ k, P k ∧ v = .bl k
/-- a tuple of ints -/
def rpT (ns : List Int) : Rp := fun H v => ∃ a, v = .ref a ∧ H a = some (.tup (ns.map V.int))
/-- a list of things -/
def rpL {α : Type} (R : α → Rp) (l : List α) : Rp := fun H v => ∃ a ys, v = .ref a ∧ H a = some (.lst ys) ∧ Paired (fun y x => R x H y) ys l
/-- a tuple of things -/
def rpU {α : Type} (R : α → Rp) (l : List α) : Rp := fun H v => ∃ a ys, v = .ref a ∧ H a = some (.tup ys) ∧ Paired (fun y x => R x H y) ys l
/-- the int -/
def rpN (i : Int) : Rp := rpV (.int i)
/-- some of these -/
def rpE {α : Type} (P : α → Prop) (R : α → Rp) : Rp := fun H v => ∃ x, P x ∧ R x H v
/-- a dict whose keys are tuples of ints -/
def rpD {β : Type} (R : β → Rp) (l : List (List Int × β)) : Rp := fun H v => ∃ a kvs, v = .ref a ∧ H a = some (.dT kvs) ∧ Paired (fun (p : List Key × V) (q : List Int × β) => p.1 = q.1.map Sum.inl ∧ R q.2 H p.2) kvs l
theorem pimp {α β : Type} {F G : α → β → Prop} : ∀ {l : List α} {m : List β}, Paired F l m → (∀ a b, F a b → G a b) → Paired G l m
  | _, _, .nil, _ => .nil
  | _, _, .cons h t, f => .cons (f _ _ h) (pimp t f)
section
variable {T : Tb}
instance (x : V) : Mn T (rpV x) := ⟨fun _ h => h⟩
instance (P : Int → Prop) : Mn T (rpI P) := ⟨fun _ h => h⟩
instance (P : Bool → Prop) : Mn T (rpB P) := ⟨fun _ h => h⟩
instance (i : Int) : Mn T (rpN i) := ⟨fun _ h => h⟩
instance (ns : List Int) : Mn T (rpT ns) := ⟨fun e ⟨a, h1, h2⟩ => ⟨a, h1, e.tup h2⟩⟩
instance {α : Type} (R : α → Rp) (l : List α) [h : ∀ x, Mn T (R x)] : Mn T (rpL R l) := ⟨fun e ⟨a, ys, h1, h2, h3⟩ => ⟨a, ys, h1, e.lst h2, pimp h3 fun _ x q => (h x).mono e q⟩⟩
instance {α : Type} (R : α → Rp) (l : List α) [h : ∀ x, Mn T (R x)] : Mn T (rpU R l) := ⟨fun e ⟨a, ys, h1, h2, h3⟩ => ⟨a, ys, h1, e.tup h2, pimp h3 fun _ x q => (h x).mono e q⟩⟩
instance {α : Type} (P : α → Prop) (R : α → Rp) [h : ∀ x, Mn T (R x)] : Mn T (rpE P R) := ⟨fun e ⟨x, p, q⟩ => ⟨x, p, (h x).mono e q⟩⟩
instance {β : Type} (R : β → Rp) (l : List (List Int × β)) [h : ∀ x, Mn T (R x)] : Mn T (rpD R l) := ⟨fun e ⟨a, ys, h1, h2, h3⟩ => ⟨a, ys, h1, e.dT h2, pimp h3 fun _ x q => ⟨q.1, (h x.2).mono e q.2⟩⟩⟩
end

section
variable (T : Tb)
/-- what is wanted behind: a value of which R holds, at a heap that is more -/
def Wt (R : Rp) (H : Hp) (Q : VK) : Prop := ∀ v H2, Xt T H H2 → R H2 v → Q v H2
def Er (te : TE) (σ : L2.St) (H : Hp) (R : Rp) : Prop := ∀ H1, Xt T H H1 → ∀ Q : VK, Wt T R H1 Q → te σ H1 Q
def Et (tt : TT) (σ : L2.St) (H : Hp) (P : Bool → Prop) : Prop := ∀ H1, Xt T H H1 → ∀ Q : Bool → Hp → Prop, (∀ b H2, Xt T H1 H2 → P b → Q b H2) → tt σ H1 Q
def Ea (ta : TA) (σ : L2.St) (H : Hp) (R : Hp → List V → Prop) : Prop := ∀ H1, Xt T H H1 → ∀ Q : List V → Hp → Prop, (∀ vs H2, Xt T H1 H2 → R H2 vs → Q vs H2) → ta σ H1 Q
/-- a two-place operation on values; a call on values -/
def Op2 (r : R2) (x y : V) (H : Hp) (R : Rp) : Prop := ∀ Q : VK, Wt T R H Q → r x y H Q
def Cl (r : List V → Hp → VK → Prop) (vs : List V) (H : Hp) (R : Rp) : Prop := ∀ Q : VK, Wt T R H Q → r vs H Q
/-- what is walked: n turns, the i-th gives what Y i says -/
def Es (wi : TI) (σ : L2.St) (H : Hp) (n : Nat) (Y : Nat → Rp) : Prop := ∀ H1, Xt T H H1 → ∀ R : It → Hp → Prop,
  (∀ J H2, Xt T H1 H2 → Walk J n (fun H' => Xt T H2 H') (fun i H' x H'' => Xt T H' H'' ∧ Y i H'' x) → R J H2) → wi σ H1 R
end
section
variable {T : Tb} {K : PySem.W.Frag} {σ : L2.St} {H H' : Hp} {ta tb te tx : TE} {t u : TT} {x y z v : V} {r : R2} {R R' RA RB : Rp}
theorem Er.ext (e : Xt T H H') (h : Er T te σ H R) : Er T te σ H' R := fun H1 a Q q => h H1 (e.trans a) Q q
theorem Et.ext {P : Bool → Prop} (e : Xt T H H') (h : Et T t σ H P) : Et T t σ H' P := fun H1 a Q q => h H1 (e.trans a) Q q
theorem Er.imp (h : Er T te σ H R) (f : ∀ H1 v, Xt T H H1 → R H1 v → R' H1 v) : Er T te σ H R' := fun H1 a Q q => h H1 a Q fun v H2 e hv => q v H2 e (f H2 v (a.trans e) hv)
theorem Et.imp {P P' : Bool → Prop} (h : Et T t σ H P) (f : ∀ b, P b → P' b) : Et T t σ H P' := fun H1 a Q q => h H1 a Q fun v H2 e hv => q v H2 e (f v hv)
theorem er_var {i : Nat} (R : Rp) [m : Mn T R] (h : σ[i]? = some (some v)) (hv : R H v) : Er T (tVar i) σ H R := fun H1 e _ q => ⟨v, h, q v H1 (Xt.refl T H1) (m.mono e hv)⟩
/-- a name, its value as it is -/
theorem er_v {i : Nat} (h : σ[i]? = some (some v)) : Er T (tVar i) σ H (rpV v) := fun H1 _ _ q => ⟨v, h, q v H1 (Xt.refl T H1) rfl⟩
theorem er_c : Er T (tC v) σ H (rpV v) := fun H1 _ _ q => q v H1 (Xt.refl T H1) rfl
theorem er_op [m : Mn T RA] (ha : Er T ta σ H RA) (hb : Er T tb σ H RB) (hr : ∀ H1 x y, Xt T H H1 → RA H1 x → RB H1 y → Op2 T r x y H1 R) : Er T (tOp r ta tb) σ H R := fun H1 e Q q =>
  ha H1 e _ fun x H2 e2 hx => hb H2 (e.trans e2) _ fun y H3 e3 hy => hr H3 x y ((e.trans e2).trans e3) (m.mono e3 hx) hy Q fun v H4 e4 hv => q v H4 ((e2.trans e3).trans e4) hv
theorem er_un {r : V → Hp → VK → Prop} (ha : Er T ta σ H RA) (hr : ∀ H1 x, Xt T H H1 → RA H1 x → ∀ Q : VK, Wt T R H1 Q → r x H1 Q) : Er T (tUn r ta) σ H R := fun H1 e Q q =>
  ha H1 e _ fun x H2 e2 hx => hr H2 x (e.trans e2) hx Q fun v H3 e3 hv => q v H3 (e2.trans e3) hv
/-- an operation that makes a value out of two, without a heap -/
theorem op2_val {g : V} (h : ∀ Q : VK, Q g H → r x y H Q) (hg : R H g) : Op2 T r x y H R := fun Q q => h Q (q g H (Xt.refl T H) hg)
theorem op_I0 {g : Int → Int → V} {i j : Int} (ex : x = .int i) (ey : y = .int j) (hg : R H (g i j)) : Op2 T (rI0 g) x y H R := fun Q q => ⟨i, j, ex, ey, q _ H (Xt.refl T H) hg⟩
theorem op_I {C : Int → Int → Prop} {g : Int → Int → V} {i j : Int} (ex : x = .int i) (ey : y = .int j) (hc : C i j) (hg : R H (g i j)) : Op2 T (rI C g) x y H R := fun Q q => ⟨i, j, ex, ey, hc, q _ H (Xt.refl T H) hg⟩
/-- ints -/
theorem er_I0 {g : Int → Int → V} {P P' : Int → Prop} (ha : Er T ta σ H (rpI P)) (hb : Er T tb σ H (rpI P')) (hr : ∀ H1 i j, P i → P' j → R H1 (g i j)) : Er T (tOp (rI0 g) ta tb) σ H R :=
  er_op ha hb fun H1 x y _ ⟨i, pi, ei⟩ ⟨j, pj, ej⟩ => op_I0 ei ej (hr H1 i j pi pj)
theorem er_I {C : Int → Int → Prop} {g : Int → Int → V} {P P' : Int → Prop} (ha : Er T ta σ H (rpI P)) (hb : Er T tb σ H (rpI P')) (hr : ∀ H1 i j, P i → P' j → C i j ∧ R H1 (g i j)) : Er T (tOp (rI C g) ta tb) σ H R :=
  er_op ha hb fun H1 x y _ ⟨i, pi, ei⟩ ⟨j, pj, ej⟩ => op_I ei ej (hr H1 i j pi pj).1 (hr H1 i j pi pj).2
/-- ints that are known -/
theorem er_N0 {g : Int → Int → V} {i j : Int} (ha : Er T ta σ H (rpN i)) (hb : Er T tb σ H (rpN j)) : Er T (tOp (rI0 g) ta tb) σ H (rpV (g i j)) := er_op ha hb fun H1 x y _ ei ej => op_I0 ei ej rfl
theorem er_N {C : Int → Int → Prop} {g : Int → Int → V} {i j : Int} (ha : Er T ta σ H (rpN i)) (hb : Er T tb σ H (rpN j)) (hc : C i j) : Er T (tOp (rI C g) ta tb) σ H (rpV (g i j)) := er_op ha hb fun H1 x y _ ei ej => op_I ei ej hc rfl
theorem er_i {i : Int} {P : Int → Prop} (h : Er T te σ H (rpN i)) (hp : P i) : Er T te σ H (rpI P) := h.imp fun _ v _ e => ⟨i, hp, e⟩
/-- tests -/
theorem et_test {P : Bool → Prop} (h : Er T te σ H (rpB P)) : Et T (tTest te) σ H P := fun H1 e Q q => h H1 e _ fun v H2 e2 ⟨k, pk, ek⟩ => ⟨k, ek, q k H2 e2 pk⟩
theorem et_B {P : Bool → Prop} (h : Er T te σ H (rpB P)) : Et T (tB te) σ H P := fun H1 e Q q => h H1 e _ fun v H2 e2 ⟨k, pk, ek⟩ => ⟨k, ek, q k H2 e2 pk⟩
theorem er_b {b : Bool} (h : Er T te σ H (rpV (.bl b))) : Er T te σ H (rpB (· = b)) := h.imp fun _ v _ e => ⟨b, rfl, e⟩
theorem et_and {P P' P2 : Bool → Prop} (h1 : Et T t σ H P) (h2 : P true → Et T u σ H P') (k1 : P false → P2 false) (k2 : ∀ b, P true → P' b → P2 b) : Et T (tAnd t u) σ H P2 := fun H1 e Q q =>
  h1 H1 e _ fun b H2 e2 hb => by
    cases b with
    | true => exact iteT (h2 hb H2 (e.trans e2) _ fun b' H3 e3 hb' => q b' H3 (e2.trans e3) (k2 b' hb hb'))
    | false => exact iteF (q false H2 e2 (k1 hb))
theorem et_or {P P' P2 : Bool → Prop} (h1 : Et T t σ H P) (h2 : P false → Et T u σ H P') (k1 : P true → P2 true) (k2 : ∀ b, P false → P' b → P2 b) : Et T (tOr t u) σ H P2 := fun H1 e Q q =>
  h1 H1 e _ fun b H2 e2 hb => by
    cases b with
    | false => exact iteF (h2 hb H2 (e.trans e2) _ fun b' H3 e3 hb' => q b' H3 (e2.trans e3) (k2 b' hb hb'))
    | true => exact iteT (q true H2 e2 (k1 hb))
theorem et_not {P P' : Bool → Prop} (h : Et T t σ H P) (k : ∀ b, P b → P' (!b)) : Et T (tNot t) σ H P' := fun H1 e Q q => h H1 e _ fun b H2 e2 hb => q (!b) H2 e2 (k b hb)
/-- and, or, not by known answers -/
theorem et_andB {a b : Bool} (h1 : Et T t σ H (· = a)) (h2 : a = true → Et T u σ H (· = b)) : Et T (tAnd t u) σ H (· = (a && b)) :=
  et_and h1 (fun e => h2 e.symm) (fun e => by rw [← e]; rfl) fun b' e e' => by rw [← e, e']; rfl
theorem et_orB {a b : Bool} (h1 : Et T t σ H (· = a)) (h2 : a = false → Et T u σ H (· = b)) : Et T (tOr t u) σ H (· = (a || b)) :=
  et_or h1 (fun e => h2 e.symm) (fun e => by rw [← e]; rfl) fun b' e e' => by rw [← e, e']; rfl
theorem et_notB {a : Bool} (h : Et T t σ H (· = a)) : Et T (tNot t) σ H (· = !a) := et_not h fun b e => by rw [e]
theorem er_andV {a b : Bool} (h1 : Er T ta σ H (rpV (.bl a))) (h2 : a = true → Er T tb σ H (rpV (.bl b))) : Er T (tAndV ta tb) σ H (rpV (.bl (a && b))) := fun H1 e Q q =>
  h1 H1 e _ fun v H2 e2 ev => ⟨a, ev, by
    cases a with
    | true => exact iteT (h2 rfl H2 (e.trans e2) _ fun v' H3 e3 ev' => q v' H3 (e2.trans e3) ev')
    | false => exact iteF (q _ H2 e2 rfl)⟩
theorem er_orV {a b : Bool} (h1 : Er T ta σ H (rpV (.bl a))) (h2 : a = false → Er T tb σ H (rpV (.bl b))) : Er T (tOrV ta tb) σ H (rpV (.bl (a || b))) := fun H1 e Q q =>
  h1 H1 e _ fun v H2 e2 ev => ⟨a, ev, by
    cases a with
    | false => exact iteF (h2 rfl H2 (e.trans e2) _ fun v' H3 e3 ev' => q v' H3 (e2.trans e3) ev')
    | true => exact iteT (q _ H2 e2 rfl)⟩
theorem er_notV {a : Bool} (h1 : Er T ta σ H (rpV (.bl a))) : Er T (tNotV ta) σ H (rpV (.bl (!a))) := fun H1 e Q q => h1 H1 e _ fun v H2 e2 ev => ⟨a, ev, q _ H2 e2 rfl⟩
theorem er_if {P : Bool → Prop} (h : Et T t σ H P) (h1 : P true → Er T ta σ H R) (h2 : P false → Er T tb σ H R) : Er T (tIf t ta tb) σ H R := fun H1 e Q q =>
  h H1 e _ fun b H2 e2 hb => by
    cases b with
    | true => exact iteT (h1 hb H2 (e.trans e2) _ fun v H3 e3 hv => q v H3 (e2.trans e3) hv)
    | false => exact iteF (h2 hb H2 (e.trans e2) _ fun v H3 e3 hv => q v H3 (e2.trans e3) hv)
theorem ea_nil : Ea T tNil σ H (fun _ vs => vs = []) := fun H1 _ _ q => q [] H1 (Xt.refl T H1) rfl
theorem ea_cons {tr : TA} {S : Hp → List V → Prop} [m : Mn T R] (h : Er T te σ H R) (hr : Ea T tr σ H S) : Ea T (tCons te tr) σ H (fun H' vs => ∃ v r, vs = v :: r ∧ R H' v ∧ S H' r) := fun H1 e Q q =>
  h H1 e _ fun v H2 e2 hv => hr H2 (e.trans e2) _ fun vs H3 e3 hvs => q (v :: vs) H3 (e2.trans e3) ⟨v, vs, rfl, m.mono e3 hv, hvs⟩
theorem ea_1 (h : Er T te σ H R) : Ea T (tCons te tNil) σ H (fun H' vs => ∃ v, vs = [v] ∧ R H' v) := fun H1 e Q q =>
  h H1 e _ fun v H2 e2 hv => q [v] H2 e2 ⟨v, rfl, hv⟩
theorem ea_2 [m : Mn T RA] (ha : Er T ta σ H RA) (hb : Er T tb σ H RB) : Ea T (tCons ta (tCons tb tNil)) σ H (fun H' vs => ∃ v w, vs = [v, w] ∧ RA H' v ∧ RB H' w) := fun H1 e Q q =>
  ha H1 e _ fun v H2 e2 hv => hb H2 (e.trans e2) _ fun w H3 e3 hw => q [v, w] H3 (e2.trans e3) ⟨v, w, rfl, m.mono e3 hv, hw⟩
theorem ea_3 {tc : TE} {RC : Rp} [m : Mn T RA] [m2 : Mn T RB] (ha : Er T ta σ H RA) (hb : Er T tb σ H RB) (hc : Er T tc σ H RC) : Ea T (tCons ta (tCons tb (tCons tc tNil))) σ H (fun H' vs => ∃ v w z, vs = [v, w, z] ∧ RA H' v ∧ RB H' w ∧ RC H' z) := fun H1 e Q q =>
  ha H1 e _ fun v H2 e2 hv => hb H2 (e.trans e2) _ fun w H3 e3 hw => hc H3 ((e.trans e2).trans e3) _ fun z H4 e4 hz => q [v, w, z] H4 ((e2.trans e3).trans e4) ⟨v, w, z, rfl, m.mono (e3.trans e4) hv, m2.mono e4 hw, hz⟩
theorem Ea.imp {tr : TA} {S S' : Hp → List V → Prop} (h : Ea T tr σ H S) (f : ∀ H1 vs, Xt T H H1 → S H1 vs → S' H1 vs) : Ea T tr σ H S' := fun H1 a Q q => h H1 a Q fun v H2 e hv => q v H2 e (f H2 v (a.trans e) hv)
theorem sz_small {n : Nat} (h : n ≤ 100000) : n ≤ sizeLine := Nat.le_trans h (by decide)
theorem er_tup {tr : TA} {S : Hp → List V → Prop} (h : Ea T tr σ H S) (hl : ∀ H1 vs, S H1 vs → vs.length ≤ 100000) (hs : ∀ H1 vs p, Xt T H H1 → S H1 vs → H1 p = none → R (upd H1 p (.tup vs)) (.ref p)) : Er T (tTup tr) σ H R := fun H1 e Q q =>
  h H1 e _ fun vs H2 e2 hvs => ⟨sz_small (hl H2 vs hvs), fun p hp => q _ _ (e2.trans (Xt.new hp)) (hs H2 vs p (e.trans e2) hvs hp)⟩
theorem er_lst {tr : TA} {S : Hp → List V → Prop} (h : Ea T tr σ H S) (hl : ∀ H1 vs, S H1 vs → vs.length ≤ 100000) (hs : ∀ H1 vs p, Xt T H H1 → S H1 vs → H1 p = none → R (upd H1 p (.lst vs)) (.ref p)) : Er T (tLst tr) σ H R := fun H1 e Q q =>
  h H1 e _ fun vs H2 e2 hvs => ⟨sz_small (hl H2 vs hvs), fun p hp => q _ _ (e2.trans (Xt.new hp)) (hs H2 vs p (e.trans e2) hvs hp)⟩
/-- a def's promise: called with n values of which Pre tells R it gives what R says, at a heap that is more -/
def Pm (T : Tb) (n : Nat) (Pre : List V → Hp → Rp → Prop) : Sp := fun vs H Q _ => vs.length = n ∧ ∃ R, Pre vs H R ∧ Wt T R H Q
theorem er_call {ta : TA} {n : Nat} {Pre : List V → Hp → Rp → Prop} {S : Hp → List V → Prop} {E : XK} (ha : Ea T ta σ H S) (h : ∀ H1 vs, Xt T H H1 → S H1 vs → vs.length = n ∧ Pre vs H1 R) : Er T (tCall (Pm T n Pre) [] E ta) σ H R := fun H1 e Q q =>
  ha H1 e _ fun vs H2 e2 hvs => by
    obtain ⟨h1, h2⟩ := h H2 vs (e.trans e2) hvs
    rw [List.append_nil]
    exact ⟨h1, R, h2, fun v H3 e3 hv => q v H3 (e2.trans e3) hv⟩
theorem er_cb {ta : TA} {r : List V → Hp → VK → Prop} {S : Hp → List V → Prop} (ha : Ea T ta σ H S) (h : ∀ H1 vs, Xt T H H1 → S H1 vs → Cl T r vs H1 R) : Er T (tCB r ta) σ H R := fun H1 e Q q =>
  ha H1 e _ fun vs H2 e2 hvs => h H2 vs (e.trans e2) hvs Q fun v H3 e3 hv => q v H3 (e2.trans e3) hv
end
end K8
set_option maxHeartbeats 4000000
namespace K8
open PySem L2

section
variable {T : Tb} {K : PySem.W.Frag} {σ : L2.St} {H H' : Hp} {ta tb te tx : TE} {t u : TT} {x y z v : V} {r : R2} {R R' RA RB : Rp} {D : Ends} {tu tw tz : TS}
theorem of_start {t : TS} {σ' : L2.St} (e : σ' = σ) (h : t D σ H) : t D σ' H := by
  rw [e]
  exact h
theorem s_asg {i : Nat} (h : Er T te σ H R) (k : ∀ v H1, Xt T H H1 → R H1 v → D.nx (σ.set i (some v)) H1) : tAsg te (gName i) D σ H :=
  h H (Xt.refl T H) _ fun v H1 e hv => k v H1 e hv
theorem q_asg {i : Nat} (h : Er T te σ H R) (k : ∀ v H1, Xt T H H1 → R H1 v → tz D (σ.set i (some v)) H1) : tSeq (tAsg te (gName i)) tz D σ H :=
  h H (Xt.refl T H) _ fun v H1 e hv => k v H1 e hv
theorem s_ret (h : Er T te σ H R) (k : ∀ v H1, Xt T H H1 → R H1 v → D.rt v H1) : tRet te D σ H := h H (Xt.refl T H) _ fun v H1 e hv => k v H1 e hv
theorem s_drop (h : Er T te σ H R) (k : ∀ v H1, Xt T H H1 → R H1 v → D.nx σ H1) : tDrop te D σ H := h H (Xt.refl T H) _ fun v H1 e hv => k v H1 e hv
theorem q_drop (h : Er T te σ H R) (k : ∀ v H1, Xt T H H1 → R H1 v → tz D σ H1) : tSeq (tDrop te) tz D σ H := h H (Xt.refl T H) _ fun v H1 e hv => k v H1 e hv
theorem s_if {P : Bool → Prop} (h : Et T t σ H P) (h1 : P true → ∀ H1, Xt T H H1 → tu D σ H1) (h2 : P false → ∀ H1, Xt T H H1 → tw D σ H1) : tIfS t tu tw D σ H := h H (Xt.refl T H) _ fun b H1 e hb => by
  cases b with
  | true => exact iteT (h1 hb H1 e)
  | false => exact iteF (h2 hb H1 e)
theorem q_if {P : Bool → Prop} (h : Et T t σ H P) (h1 : P true → ∀ H1, Xt T H H1 → tu { D with nx := tz D } σ H1) (h2 : P false → ∀ H1, Xt T H H1 → tw { D with nx := tz D } σ H1) : tSeq (tIfS t tu tw) tz D σ H :=
  s_if (D := { D with nx := tz D }) h h1 h2
/-- an if without else -/
theorem q_when {P : Bool → Prop} (h : Et T t σ H P) (h1 : P true → ∀ H1, Xt T H H1 → tu { D with nx := tz D } σ H1) (h2 : P false → ∀ H1, Xt T H H1 → tz D σ H1) : tSeq (tIfS t tu tNext) tz D σ H :=
  s_if (D := { D with nx := tz D }) h h1 h2
theorem s_when {P : Bool → Prop} (h : Et T t σ H P) (h1 : P true → ∀ H1, Xt T H H1 → tu D σ H1) (h2 : P false → ∀ H1, Xt T H H1 → D.nx σ H1) : tIfS t tu tNext D σ H := s_if h h1 h2
/-- an if that is not gone into -/
theorem q_not (h : Et T t σ H (· = false)) (h2 : ∀ H1, Xt T H H1 → tz D σ H1) : tSeq (tIfS t tu tNext) tz D σ H := q_when h (fun e => by cases e) fun _ => h2
theorem q_par {i j : Nat} {ta : TA} {S : Hp → List V → Prop} (h : Ea T ta σ H S) (k : ∀ vs H1, Xt T H H1 → S H1 vs → ∃ v w, vs = [v, w] ∧ tz D ((σ.set i (some v)).set j (some w)) H1) : tSeq (tPar i j ta) tz D σ H := h H (Xt.refl T H) _ fun vs H1 e hv => k vs H1 e hv
theorem q_par3 {i j l : Nat} {ta : TA} {S : Hp → List V → Prop} (h : Ea T ta σ H S) (k : ∀ vs H1, Xt T H H1 → S H1 vs → ∃ a b c, vs = [a, b, c] ∧ tz D (((σ.set i (some a)).set j (some b)).set l (some c)) H1) : tSeq (tPar3 i j l ta) tz D σ H := h H (Xt.refl T H) _ fun vs H1 e hv => k vs H1 e hv

theorem pget {α β : Type} {F : α → β → Prop} : ∀ {l : List α} {m : List β}, Paired F l m → ∀ {i : Nat} {x : α}, l[i]? = some x → ∃ y, m[i]? = some y ∧ F x y
  | _, _, .nil, i, x, h => by simp at h
  | _, _, .cons h t, 0, x, e => ⟨_, rfl, by simp at e; rw [← e]; exact h⟩
  | _, _, .cons h t, i + 1, x, e => by
    obtain ⟨y, h1, h2⟩ := pget t (i := i) (by simpa using e)
    exact ⟨y, by simpa using h1, h2⟩
theorem pget' {α β : Type} {F : α → β → Prop} : ∀ {l : List α} {m : List β}, Paired F l m → ∀ {i : Nat} {y : β}, m[i]? = some y → ∃ x, l[i]? = some x ∧ F x y
  | _, _, .nil, i, x, h => by simp at h
  | _, _, .cons h t, 0, x, e => ⟨_, rfl, by simp at e; rw [← e]; exact h⟩
  | _, _, .cons h t, i + 1, x, e => by
    obtain ⟨y, h1, h2⟩ := pget' t (i := i) (by simpa using e)
    exact ⟨y, by simpa using h1, h2⟩
theorem plen {α β : Type} {F : α → β → Prop} {l : List α} {m : List β} (p : Paired F l m) : l.length = m.length := Paired.length p
theorem papp {α β : Type} {F : α → β → Prop} : ∀ {l l' : List α} {m m' : List β}, Paired F l m → Paired F l' m' → Paired F (l ++ l') (m ++ m')
  | _, _, _, _, .nil, q => q
  | _, _, _, _, .cons h t, q => .cons h (papp t q)
theorem pints {H : Hp} : ∀ ns : List Int, Paired (fun y (x : Int) => rpN x H y) (ns.map V.int) ns
  | [] => .nil
  | _ :: r => .cons rfl (pints r)
theorem ints_p {H : Hp} : ∀ {ys : List V} {ns : List Int}, Paired (fun y (x : Int) => rpN x H y) ys ns → ys = ns.map V.int
  | _, _, .nil => rfl
  | _, _, .cons h t => by
    rw [List.map_cons, ← ints_p t]
    exact congrArg (· :: _) h
theorem es_list {α : Type} {F : α → Rp} {l : List α} [m : ∀ x, Mn T (F x)] (h : Er T te σ H (rpL F l)) : Es T (iList K te) σ H l.length (fun i H x => ∃ e, l[i]? = some e ∧ F e H x) := fun H1 e R k =>
  h H1 e _ fun v H2 e2 ⟨a, ys, ev, ha, hp⟩ => ⟨a, ev, ⟨ys, SqL.of ha⟩, k _ H2 e2 (by
    rw [← plen hp]
    exact walk_list.mono (fun H' z => SqL.of (z.lst ha)) fun i H' x H'' hi z ⟨e1, e2⟩ => by
      subst e1
      obtain ⟨w, h1, h2⟩ := pget hp e2
      exact ⟨Xt.refl T _, w, h1, (m w).mono z h2⟩)⟩
theorem es_tup {α : Type} {F : α → Rp} {l : List α} [m : ∀ x, Mn T (F x)] (h : Er T te σ H (rpU F l)) : Es T (iTup K te) σ H l.length (fun i H x => ∃ e, l[i]? = some e ∧ F e H x) := fun H1 e R k =>
  h H1 e _ fun v H2 e2 ⟨a, ys, ev, ha, hp⟩ => ⟨a, ev, ⟨ys, SqT.of ha⟩, k _ H2 e2 (by
    rw [← plen hp]
    exact walk_tup.mono (fun H' z => SqT.of (z.tup ha)) fun i H' x H'' hi z ⟨e1, e2⟩ => by
      subst e1
      obtain ⟨w, h1, h2⟩ := pget hp e2
      exact ⟨Xt.refl T _, w, h1, (m w).mono z h2⟩)⟩
theorem tU {ns : List Int} {H : Hp} {v : V} (h : rpT ns H v) : rpU rpN ns H v := by
  obtain ⟨a, h1, h2⟩ := h
  exact ⟨a, _, h1, h2, pints ns⟩
theorem uT {ns : List Int} {H : Hp} {v : V} (h : rpU rpN ns H v) : rpT ns H v := by
  obtain ⟨a, ys, h1, h2, h3⟩ := h
  exact ⟨a, h1, by rw [← ints_p h3]; exact h2⟩
theorem es_tupT {ns : List Int} (h : Er T te σ H (rpT ns)) : Es T (iTup K te) σ H ns.length (fun i H x => ∃ e, ns[i]? = some e ∧ rpN e H x) := es_tup (h.imp fun H1 v _ q => tU q)
theorem es_rng1 {ta : TA} {n : Nat} (hn : n ≤ 100000) (h : Ea T ta σ H (fun _ vs => vs = [.int (n : Int)])) : Es T (iRng1 ta) σ H n (fun i _ x => x = .int (i : Int)) := fun H1 e R k =>
  h H1 e _ fun vs H2 e2 hv => ⟨(n : Int), hv, by omega, by omega, k _ H2 e2 (by
    rw [Int.toNat_natCast]
    exact walk_range.mono (fun _ _ => True.intro) fun i H' x H'' hi z ⟨e1, e2⟩ => by
      subst e1
      exact ⟨Xt.refl T _, by
        show x = V.int (i : Int)
        rw [e2]
        show V.int ((0 : Int) + (i : Int)) = V.int (i : Int)
        rw [Int.zero_add]⟩)⟩
theorem es_rng2 {ta : TA} {lo hi : Int} (hb : 0 ≤ lo ∧ lo ≤ 100000 ∧ 0 ≤ hi ∧ hi ≤ 100000) (h : Ea T ta σ H (fun _ vs => vs = [.int lo, .int hi])) : Es T (iRng2 ta) σ H (hi - lo).toNat (fun i _ x => x = .int (lo + (i : Int))) := fun H1 e R k =>
  h H1 e _ fun vs H2 e2 hv => ⟨lo, hi, hv, ⟨by omega, by omega, by omega, by omega⟩, k _ H2 e2
    (walk_range.mono (fun _ _ => True.intro) fun i H' x H'' hi z ⟨e1, e2⟩ => by
      subst e1
      exact ⟨Xt.refl T _, e2⟩)⟩
theorem es_enum {α : Type} {ta : TA} {F : α → Rp} {l : List α} [m : ∀ x, Mn T (F x)] (h : Ea T ta σ H (fun H vs => ∃ v, vs = [v] ∧ rpL F l H v)) :
    Es T (iEnum K ta) σ H l.length (fun i H x => ∃ S y e, x = .ref S ∧ H S = some (.tup [.int (i : Int), y]) ∧ l[i]? = some e ∧ F e H y) := fun H1 e R k =>
  h H1 e _ fun vs H2 e2 ⟨v, evs, a, ys, ev, ha, hp⟩ => ⟨a, ys, by rw [evs, ev], SqL.of ha, k _ H2 e2 (by
    rw [← plen hp]
    exact walk_enum.mono (fun H' z => SqL.of (z.lst ha)) fun i H' x H'' hi z ⟨S, x1, x2, e1, e2, e3, e4, e5⟩ => by
      subst e3
      obtain ⟨w, h1, h2⟩ := pget hp e5
      exact ⟨Xt.new e2, S, x2, w, e1, by rw [upd_same, ← Option.some.inj e4], h1, (m w).mono (z.trans (Xt.new e2)) h2⟩)⟩
theorem es_zip {α β : Type} {ta : TA} {F : α → Rp} {G : β → Rp} {l : List α} {l' : List β} [m : ∀ x, Mn T (F x)] [m' : ∀ x, Mn T (G x)] (h : Ea T ta σ H (fun H vs => ∃ v w, vs = [v, w] ∧ rpL F l H v ∧ rpL G l' H w)) :
    Es T (iZip K ta) σ H (min l.length l'.length) (fun i H x => ∃ S y y' e e', x = .ref S ∧ H S = some (.tup [y, y']) ∧ l[i]? = some e ∧ F e H y ∧ l'[i]? = some e' ∧ G e' H y') := fun H1 e R k =>
  h H1 e _ fun vs H2 e2 ⟨v, w, evs, ⟨a, ys, ev, ha, hp⟩, ⟨a', ys', ev', ha', hp'⟩⟩ => ⟨a, a', ys, ys', by rw [evs, ev, ev'], SqL.of ha, SqL.of ha', k _ H2 e2 (by
    rw [← plen hp, ← plen hp']
    exact (walk_zip rfl).mono (fun H' z => ⟨SqL.of (z.lst ha), SqL.of (z.lst ha')⟩) fun i H' x H'' hi z ⟨S, x1, x2, e1, e2, e3, e4, e5⟩ => by
      subst e3
      obtain ⟨w, h1, h2⟩ := pget hp e4
      obtain ⟨w', h1', h2'⟩ := pget hp' e5
      exact ⟨Xt.new e2, S, x1, x2, w, w', e1, upd_same, h1, (m w).mono (z.trans (Xt.new e2)) h2, h1', (m' w').mono (z.trans (Xt.new e2)) h2'⟩)⟩

/-- a target that hands on -/
def Gm (g : TG) : Prop := ∀ x σ H (k k' : L2.St → Hp → Prop), (∀ σ' H', k σ' H' → k' σ' H') → g x σ H k → g x σ H k'
theorem gm_name (i : Nat) : Gm (gName i) := fun _ _ _ _ _ f h => f _ _ h
theorem gm_two (i j n : Nat) : Gm (gTup K n (gCons (gName i) (gCons (gName j) gNil))) := fun _ _ _ _ _ f h => by
  obtain ⟨a, xs, e1, e2, e3, v, r, e4, v2, r2, e5, e6, q⟩ := h
  exact ⟨a, xs, e1, e2, e3, v, r, e4, v2, r2, e5, e6, f _ _ q⟩
theorem gm_three (i j l n : Nat) : Gm (gTup K n (gCons (gName i) (gCons (gName j) (gCons (gName l) gNil)))) := fun _ _ _ _ _ f h => by
  obtain ⟨a, xs, e1, e2, e3, v, r, e4, v2, r2, e5, v3, r3, e6, e7, q⟩ := h
  exact ⟨a, xs, e1, e2, e3, v, r, e4, v2, r2, e5, v3, r3, e6, e7, f _ _ q⟩
theorem g_two {i j : Nat} {a : Addr} {v w : V} {k : L2.St → Hp → Prop} (ha : H a = some (.tup [v, w])) (h : k ((σ.set i (some v)).set j (some w)) H) : gTup K 2 (gCons (gName i) (gCons (gName j) gNil)) (.ref a) σ H k :=
  ⟨a, _, rfl, SqT.of ha, rfl, v, [w], rfl, w, [], rfl, rfl, h⟩
theorem g_three {i j l : Nat} {a : Addr} {v w z : V} {k : L2.St → Hp → Prop} (ha : H a = some (.tup [v, w, z])) (h : k (((σ.set i (some v)).set j (some w)).set l (some z)) H) : gTup K 3 (gCons (gName i) (gCons (gName j) (gCons (gName l) gNil))) (.ref a) σ H k :=
  ⟨a, _, rfl, SqT.of ha, rfl, v, [w, z], rfl, w, [z], rfl, z, [], rfl, rfl, h⟩

/-- what stands within: the new list so far -/
def Lw {β : Type} (T : Tb) (RB : β → Rp) (A : Nat → List β → Prop) (H : Hp) (Dl : Addr) (i : Nat) (H' : Hp) : Prop :=
  H Dl = none ∧ Xt T H H' ∧ ∃ acc ys, A i acc ∧ acc.length ≤ i ∧ H' Dl = some (.lst ys) ∧ Paired (fun y x => RB x H' y) ys acc
/-- flat: stays where a list changes -/
class Fl (R : Rp) : Prop where
  flat : ∀ {H : Hp} {v : V} {p : Addr} {xs : List V} {o : HO}, R H v → H p = some (.lst xs) → R (upd H p o) v
/-- .. where anything that holds changes -/
class Ft (R : Rp) : Prop where
  flat : ∀ {H : Hp} {v : V} {p : Addr} {u o : HO}, R H v → H p = some u → (∀ xs, u ≠ .tup xs) → R (upd H p o) v
instance (R : Rp) [h : Ft R] : Fl R := ⟨fun a b => h.flat a b (fun _ z => by cases z)⟩
instance (x : V) : Ft (rpV x) := ⟨fun h _ _ => h⟩
instance (P : Int → Prop) : Ft (rpI P) := ⟨fun h _ _ => h⟩
instance (P : Bool → Prop) : Ft (rpB P) := ⟨fun h _ _ => h⟩
instance (i : Int) : Ft (rpN i) := ⟨fun h _ _ => h⟩
instance (ns : List Int) : Ft (rpT ns) := ⟨fun ⟨a, h1, h2⟩ hp n => ⟨a, h1, by rw [upd_ne (ne_of h2 hp fun z => n _ z.symm)]; exact h2⟩⟩
instance {α : Type} (P : α → Prop) (R : α → Rp) [h : ∀ x, Ft (R x)] : Ft (rpE P R) := ⟨fun ⟨x, p, q⟩ a b => ⟨x, p, (h x).flat q a b⟩⟩
instance {α : Type} (R : α → Rp) (l : List α) [h : ∀ x, Ft (R x)] : Ft (rpU R l) := ⟨fun ⟨a, ys, h1, h2, h3⟩ hp n => ⟨a, ys, h1, by rw [upd_ne (ne_of h2 hp fun z => n _ z.symm)]; exact h2, pimp h3 fun _ x q => (h x).flat q hp n⟩⟩
/-- the comprehension: A tells the items so far -/
theorem er_lcG {β : Type} {wi : TI} {g : TG} {tt : TT} {vs : List Nat} {n : Nat} {Y : Nat → Rp} {RB : β → Rp} (A : Nat → List β → Prop) (hs : Es T wi σ H n Y) (hg : Gm g) (hn : n ≤ 40000) (h0 : A 0 []) [m : ∀ x, Mn T (RB x)] [hfl : ∀ x, Fl (RB x)]
    (turn : ∀ i x H1 acc, i < n → Xt T H H1 → Y i H1 x → A i acc → g x (wipe σ vs) H1 fun σ2 H2 => Xt T H1 H2 ∧ wipe σ2 vs = wipe σ vs ∧ ∃ P : Bool → Prop, Et T tt σ2 H2 P ∧ (P false → A (i + 1) acc) ∧
      (P true → Er T te σ2 H2 (rpE (fun b => A (i + 1) (acc ++ [b])) RB))) :
    Er T (tLc wi g tt te vs) σ H (rpE (A n) (rpL RB)) := fun H1 e Q q => hs H1 e _ fun J H2 e2 w => fun Dl hD => by
  refine lc_it w (Lw T RB A H2 Dl) ⟨hD, Xt.new hD, [], [], h0, Nat.le_refl _, upd_same, .nil⟩ (fun i H' hi p => p.2.1) (fun i x Ha Hb hi p y => ?_) (fun H' p => ?_)
  · obtain ⟨p1, p2, acc, ys, a1, a2, a3, a4⟩ := p
    obtain ⟨y1, y2⟩ := y
    refine hg _ _ _ _ _ (fun σ2 Hc k => ?_) (turn i x Hb acc hi ((e.trans e2).trans (p2.trans y1)) y2 a1)
    obtain ⟨k1, k2, P, k3, k4, k5⟩ := k
    refine ⟨k2, k3 Hc (Xt.refl T Hc) _ fun b Hd ed hb => ?_⟩
    have ex : Xt T Ha Hd := y1.trans (k1.trans ed)
    cases b with
    | false => exact iteF ⟨p1, p2.trans ex, acc, ys, k4 hb, Nat.le_succ_of_le a2, ex.lst a3, pimp a4 fun y x z => (m x).mono ex z⟩
    | true =>
      refine iteT (k5 hb Hd ed _ fun v He ee hv => ?_)
      obtain ⟨b, hA, hB⟩ := hv
      have e3 := (ex.trans ee).lst a3
      refine ⟨ys, e3, ?_, p1, (p2.trans (ex.trans ee)).mut p1 e3 True.intro, acc ++ [b], ys ++ [v], hA, by rw [List.length_append]; show acc.length + 1 ≤ i + 1; omega, upd_same, papp (pimp a4 fun y x z => (hfl x).flat ((m x).mono (ex.trans ee) z) e3) (.cons ((hfl b).flat hB e3) .nil)⟩
      rw [plen a4]
      exact Nat.lt_of_le_of_lt a2 (Nat.lt_of_lt_of_le (show i < 100000 by omega) (by decide))
  · obtain ⟨p1, p2, acc, ys, a1, a2, a3, a4⟩ := p
    exact q _ H' (e2.trans p2) ⟨acc, a1, Dl, ys, rfl, a3, a4⟩
theorem et_yes : Et T tYes σ H (· = true) := fun H1 _ _ q => q true H1 (Xt.refl T H1) rfl
theorem take_next {α : Type} {l : List α} {i : Nat} {x : α} (h : l[i]? = some x) : l.take (i + 1) = l.take i ++ [x] := by rw [List.take_add_one, h]; rfl
/-- over a list, told item by item -/
theorem er_lcF {α β : Type} {wi : TI} {tt : TT} {vs : List Nat} {j : Nat} {l : List α} {F : α → Rp} {RB : β → Rp} (sel : α → Bool) (val : α → β) [m : ∀ x, Mn T (RB x)] [hfl : ∀ x, Fl (RB x)] (hs : Es T wi σ H l.length (fun i H x => ∃ e, l[i]? = some e ∧ F e H x)) (hn : l.length ≤ 40000)
    (hw : ∀ x, wipe ((wipe σ vs).set j (some x)) vs = wipe σ vs)
    (turn : ∀ e x H1, e ∈ l → Xt T H H1 → F e H1 x → Et T tt ((wipe σ vs).set j (some x)) H1 (· = sel e) ∧ (sel e = true → Er T te ((wipe σ vs).set j (some x)) H1 (RB (val e)))) :
    Er T (tLc wi (gName j) tt te vs) σ H (rpL RB ((l.filter sel).map val)) := by
  refine (er_lcG (RB := RB) (fun i acc => acc = ((l.take i).filter sel).map val) hs (gm_name j) hn rfl fun i x H1 acc hi e hy ha => ?_).imp fun H1 v _ hv => ?_
  · obtain ⟨w, h1, h2⟩ := hy
    obtain ⟨t1, t2⟩ := turn w x H1 (List.mem_of_getElem? h1) e h2
    refine ⟨Xt.refl T H1, hw x, (· = sel w), t1, fun hb => ?_, fun hb => (t2 hb.symm).imp fun H2 v _ hv => ⟨val w, ?_, hv⟩⟩
    · rw [take_next h1, List.filter_append, ha, List.filter_cons_of_neg (by rw [← hb]; decide), List.filter_nil, List.append_nil]
    · rw [take_next h1, List.filter_append, ha, List.filter_cons_of_pos hb.symm, List.filter_nil, List.map_append] <;> rfl
  · obtain ⟨acc, ha, q⟩ := hv
    rw [List.take_length] at ha
    rw [← ha]
    exact q
/-- .. all of them -/
theorem er_lcM {α β : Type} {wi : TI} {vs : List Nat} {j : Nat} {l : List α} {F : α → Rp} {RB : β → Rp} (val : α → β) [m : ∀ x, Mn T (RB x)] [hfl : ∀ x, Fl (RB x)] (hs : Es T wi σ H l.length (fun i H x => ∃ e, l[i]? = some e ∧ F e H x)) (hn : l.length ≤ 40000)
    (hw : ∀ x, wipe ((wipe σ vs).set j (some x)) vs = wipe σ vs)
    (turn : ∀ e x H1, e ∈ l → Xt T H H1 → F e H1 x → Er T te ((wipe σ vs).set j (some x)) H1 (RB (val e))) :
    Er T (tLc wi (gName j) tYes te vs) σ H (rpL RB (l.map val)) := by
  refine (er_lcF (F := F) (fun _ => true) val hs hn hw fun e x H1 he ex hx => ⟨et_yes, fun _ => turn e x H1 he ex hx⟩).imp fun H1 v _ q => ?_
  rw [List.filter_eq_self.mpr (fun _ _ => rfl)] at q
  exact q
theorem s_forE {wi : TI} {g : TG} {n : Nat} {Y : Nat → Rp} (hs : Es T wi σ H n Y) (I : Nat → L2.St → Hp → Prop) (h0 : ∀ H1, Xt T H H1 → I 0 σ H1)
    (st : ∀ H2, Xt T H H2 → ∀ i x σ1 Ha Hb, i < n → Xt T H2 Ha → I i σ1 Ha → Xt T Ha Hb → Y i Hb x → g x σ1 Hb fun σ2 Hc => tu { D with nx := fun σ' H' => Xt T H2 H' ∧ I (i + 1) σ' H', ct := fun σ' H' => Xt T H2 H' ∧ I (i + 1) σ' H', bk := D.nx } σ2 Hc)
    (hd : ∀ σ' H', Xt T H H' → I n σ' H' → D.nx σ' H') : tFor wi g tu D σ H := hs H (Xt.refl T H) _ fun J H2 e2 w =>
  for_it w (fun i σ' H' => Xt T H2 H' ∧ I i σ' H') ⟨Xt.refl T _, h0 H2 e2⟩ (fun i σ' H' hi p => p.1) (fun i x σ1 Ha Hb hi p y => st H2 e2 i x σ1 Ha Hb hi p.1 p.2 y.1 y.2) (fun σ' H' p => hd σ' H' (e2.trans p.1) p.2)
theorem q_forE {wi : TI} {g : TG} {n : Nat} {Y : Nat → Rp} (hs : Es T wi σ H n Y) (I : Nat → L2.St → Hp → Prop) (h0 : ∀ H1, Xt T H H1 → I 0 σ H1)
    (st : ∀ H2, Xt T H H2 → ∀ i x σ1 Ha Hb, i < n → Xt T H2 Ha → I i σ1 Ha → Xt T Ha Hb → Y i Hb x → g x σ1 Hb fun σ2 Hc => tu { D with nx := fun σ' H' => Xt T H2 H' ∧ I (i + 1) σ' H', ct := fun σ' H' => Xt T H2 H' ∧ I (i + 1) σ' H', bk := tz D } σ2 Hc)
    (hd : ∀ σ' H', Xt T H H' → I n σ' H' → tz D σ' H') : tSeq (tFor wi g tu) tz D σ H := s_forE (D := { D with nx := tz D }) hs I h0 st hd
/-- a loop that changes what stands: over a range -/
theorem q_forR {ta : TA} {j n : Nat} (hn : n ≤ 100000) (h : Ea T ta σ H (fun _ vs => vs = [.int (n : Int)])) (Pv : Nat → L2.St → Hp → Prop) (h0 : ∀ H1, Xt T H H1 → Pv 0 σ H1)
    (st : ∀ (i : Nat) σ1 H1, i < n → Pv i σ1 H1 → tu { D with nx := Pv (i + 1), ct := Pv (i + 1), bk := tz D } (σ1.set j (some (.int (i : Int)))) H1)
    (hd : ∀ σ' H', Pv n σ' H' → tz D σ' H') : tSeq (tFor (iRng1 ta) (gName j) tu) tz D σ H := h H (Xt.refl T H) _ fun vs H2 e2 hv =>
  ⟨(n : Int), hv, by omega, by omega, by
    rw [Int.toNat_natCast]
    exact for_range (lo := 0) (n := n) Pv (h0 H2 e2) (fun i σ1 H1 hi p => by
      show tu _ (σ1.set j (some (.int ((0 : Int) + (i : Int))))) H1
      rw [Int.zero_add]
      exact st i σ1 H1 hi p) hd⟩
/-- .. over a list that stands -/
theorem q_forL {α : Type} {F : α → Rp} {l : List α} {tl : TE} {j : Nat} (h : Er T tl σ H (rpL F l))
    (k : ∀ a ys H1, Xt T H H1 → H1 a = some (.lst ys) → Paired (fun y x => F x H1 y) ys l → ∃ Pv : Nat → L2.St → Hp → Prop, Pv 0 σ H1 ∧ (∀ i σ' H', Pv i σ' H' → H' a = some (.lst ys)) ∧
      (∀ (i : Nat) y x σ1 Ha, ys[i]? = some y → l[i]? = some x → F x H1 y → Pv i σ1 Ha → tu { D with nx := Pv (i + 1), ct := Pv (i + 1), bk := tz D } (σ1.set j (some y)) Ha) ∧ (∀ σ' H', Pv l.length σ' H' → tz D σ' H')) :
    tSeq (tFor (iList K tl) (gName j) tu) tz D σ H := h H (Xt.refl T H) _ fun v H1 e ⟨a, ys, ev, ha, hp⟩ => by
  obtain ⟨Pv, k1, k2, k3, k4⟩ := k a ys H1 e ha hp
  refine ⟨a, ev, ⟨ys, SqL.of ha⟩, for_list (xs := ys) Pv k1 (fun i σ' H' _ p => SqL.of (k2 i σ' H' p)) (fun i y σ1 Ha hi p => ?_) (fun σ' H' p => ?_)⟩
  · obtain ⟨x, h1, h2⟩ := pget hp hi
    exact k3 i y x σ1 Ha hi h1 h2 p
  · rw [plen hp] at p
    exact k4 σ' H' p
end
section
variable {X : Cx} {tg : Expr} {l e e2 : Expr} {tl : TE} {ta : TA} {p pos tpos : Pos} {elts : List Expr} {kk : Nat}
theorem pi_listK (K : PySem.W.Frag) (hl : PE X l tl) (hK : X.K = K := by rfl) : PI X tg l (iList K tl) := by
  subst hK
  exact pi_list hl
theorem pi_tupK (K : PySem.W.Frag) (hl : PE X l tl) (hK : X.K = K := by rfl) : PI X tg l (iTup K tl) := by
  subst hK
  exact pi_tup hl
theorem pe_fldK (K : PySem.W.Frag) {f : Str} (he : PE X e tl) (hb : attributeBase e f X.env (eval e X.env) = eval e X.env) (hK : X.K = K := by rfl) : PE X (.Attribute e f pos) (tFld K tl f) := by
  subst hK
  exact pe_fld he hb
theorem pe_sliceK {r : V → Option Int → Option Int → Hp → VK → Prop} {lo hi : Option Expr} {tlo thi : TO} {p2 : Pos} (hr : SlR X r) (he : PE X e tl) (hl : PO X lo tlo) (hu : PO X hi thi) : PE X (.Subscript e (.Slice lo hi none p2) pos) (tSl r tl tlo thi) := pe_slice hr he hl hu
/-- the scope of a comprehension, by its names -/
def lcS (names : List (Str × NameKind)) : Scope := { kind := .function, names := names, isGenerator := false, isCoroutine := false }
end
end K8
set_option maxHeartbeats 4000000
namespace K8
open PySem L2

def dT (ns : List Int) : PyData := .tuple (ns.map .int)
theorem layI : ∀ ns : List Int, PyData.canLayAll0 (ns.map PyData.int) = true
  | [] => by simp [PyData.canLayAll0]
  | _ :: r => by simp [PyData.canLayAll0, PyData.canLay0, layI r]
theorem depI : ∀ ns : List Int, PyData.depthAll (ns.map PyData.int) = 0
  | [] => by simp [PyData.depthAll]
  | _ :: r => by simp [PyData.depthAll, PyData.depth, depI r]
theorem layT : ∀ l : List (List Int), PyData.canLayAll0 (l.map dT) = true
  | [] => by simp [PyData.canLayAll0]
  | x :: r => by simp [PyData.canLayAll0, PyData.canLay0, dT, layI x, layT r]
theorem depT : ∀ l : List (List Int), PyData.depthAll (l.map dT) ≤ 1
  | [] => by simp [PyData.depthAll]
  | x :: r => by
    have h := depT r
    simp only [List.map_cons, PyData.depthAll, dT, PyData.depth, depI x]
    omega
theorem sh_of {d : PyData} (h1 : d.canLay0 = true) (h2 : d.depth ≤ 64) : SeqAt.shaped d = true := by
  unfold SeqAt.shaped
  rw [h1, decide_eq_true h2]
  rfl
theorem shI (ns : List Int) : SeqAt.shaped (.list (ns.map .int)) = true := sh_of (by simp only [PyData.canLay0]; exact layI ns) (by simp only [PyData.depth, depI ns]; omega)
theorem shT (ns : List Int) : SeqAt.shaped (dT ns) = true := sh_of (by simp only [dT, PyData.canLay0]; exact layI ns) (by simp only [dT, PyData.depth, depI ns]; omega)
theorem shL (l : List (List Int)) : SeqAt.shaped (.list (l.map dT)) = true := sh_of (by simp only [PyData.canLay0]; exact layT l) (by have h := depT l; simp only [PyData.depth]; omega)
theorem eqvI (a b : List Int) : PyData.eqvAll (a.map PyData.int) (b.map PyData.int) = decide (a = b) := PySem.W.eqvAll_map (α := Int) a b
theorem eqvT (a b : List Int) : PyData.eqv (dT a) (dT b) = decide (a = b) := by
  simp only [dT, PyData.eqv]
  exact eqvI a b
theorem eqvTs : ∀ a b : List (List Int), PyData.eqvAll (a.map dT) (b.map dT) = decide (a = b)
  | [], [] => by simp [PyData.eqvAll]
  | [], _ :: _ => by simp [PyData.eqvAll]
  | _ :: _, [] => by simp [PyData.eqvAll]
  | x :: xs, y :: ys => by
    simp only [List.map_cons, PyData.eqvAll, eqvT, eqvTs xs ys]
    rw [← Bool.decide_and]
    exact decide_eq_decide.mpr (by rw [List.cons.injEq])
section
variable {K : PySem.W.Frag} {H : Hp} {v : V}
theorem dpI : ∀ ns : List Int, DpAll K H (ns.map V.int) (ns.map PyData.int)
  | [] => .nil
  | _ :: r => .cons (.int _) (dpI r)
theorem dpT {ns : List Int} (h : rpT ns H v) : Dp K H v (dT ns) := by
  obtain ⟨a, h1, h2⟩ := h
  subst h1
  exact .tup (SqT.of h2) (dpI ns)
theorem dpTs : ∀ {l : List (List Int)} {ys : List V}, Paired (fun y x => rpT x H y) ys l → DpAll K H ys (l.map dT)
  | _, _, .nil => .nil
  | _, _, .cons h t => .cons (dpT h) (dpTs t)
theorem dpL {l : List (List Int)} (h : rpL rpT l H v) : Dp K H v (.list (l.map dT)) := by
  obtain ⟨a, ys, h1, h2, h3⟩ := h
  subst h1
  exact .lst (SqL.of h2) (dpTs h3)
theorem dpN {l : List Int} (h : rpL rpN l H v) : Dp K H v (.list (l.map .int)) := by
  obtain ⟨a, ys, h1, h2, h3⟩ := h
  subst h1
  rw [ints_p h3] at h2
  exact .lst (SqL.of h2) (dpI l)
end

section
variable {T : Tb} {K : PySem.W.Frag} {σ : L2.St} {H H' : Hp} {ta tb te tx : TE} {t u : TT} {x y z v : V} {r : R2} {R R' RA RB : Rp} {α β : Type} {F : α → Rp} {l l' : List α}
theorem er_eqD {d e : PyData} [m : Mn T RA] (ha : Er T ta σ H RA) (hb : Er T tb σ H RB) (pa : ∀ H v, RA H v → Dp K H v d) (pb : ∀ H v, RB H v → Dp K H v e) (sd : SeqAt.shaped d = true) (se : SeqAt.shaped e = true) : Er T (tOp (rEqD K) ta tb) σ H (rpV (.bl (PyData.eqv d e))) :=
  er_op ha hb fun H1 x y _ h1 h2 => fun Q q => ⟨d, e, pa H1 x h1, pb H1 y h2, sd, se, q _ H1 (Xt.refl T H1) rfl⟩
theorem er_neD {d e : PyData} [m : Mn T RA] (ha : Er T ta σ H RA) (hb : Er T tb σ H RB) (pa : ∀ H v, RA H v → Dp K H v d) (pb : ∀ H v, RB H v → Dp K H v e) (sd : SeqAt.shaped d = true) (se : SeqAt.shaped e = true) : Er T (tOp (rNeD K) ta tb) σ H (rpV (.bl (!PyData.eqv d e))) :=
  er_op ha hb fun H1 x y _ h1 h2 => fun Q q => ⟨d, e, pa H1 x h1, pb H1 y h2, sd, se, q _ H1 (Xt.refl T H1) rfl⟩
theorem er_eqT {a b : List Int} (ha : Er T ta σ H (rpT a)) (hb : Er T tb σ H (rpT b)) : Er T (tOp (rEqD K) ta tb) σ H (rpV (.bl (decide (a = b)))) := by
  rw [← eqvT]
  exact er_eqD ha hb (fun _ _ => dpT) (fun _ _ => dpT) (shT a) (shT b)
theorem er_neT {a b : List Int} (ha : Er T ta σ H (rpT a)) (hb : Er T tb σ H (rpT b)) : Er T (tOp (rNeD K) ta tb) σ H (rpV (.bl (!decide (a = b)))) := by
  rw [← eqvT]
  exact er_neD ha hb (fun _ _ => dpT) (fun _ _ => dpT) (shT a) (shT b)
theorem er_eqL {a b : List (List Int)} (ha : Er T ta σ H (rpL rpT a)) (hb : Er T tb σ H (rpL rpT b)) : Er T (tOp (rEqD K) ta tb) σ H (rpV (.bl (decide (a = b)))) := by
  have e : PyData.eqv (.list (a.map dT)) (.list (b.map dT)) = decide (a = b) := by simp only [PyData.eqv]; exact eqvTs a b
  rw [← e]
  exact er_eqD ha hb (fun _ _ => dpL) (fun _ _ => dpL) (shL a) (shL b)
theorem er_neL {a b : List (List Int)} (ha : Er T ta σ H (rpL rpT a)) (hb : Er T tb σ H (rpL rpT b)) : Er T (tOp (rNeD K) ta tb) σ H (rpV (.bl (!decide (a = b)))) := by
  have e : PyData.eqv (.list (a.map dT)) (.list (b.map dT)) = decide (a = b) := by simp only [PyData.eqv]; exact eqvTs a b
  rw [← e]
  exact er_neD ha hb (fun _ _ => dpL) (fun _ _ => dpL) (shL a) (shL b)
theorem er_eqN {a b : List Int} (ha : Er T ta σ H (rpL rpN a)) (hb : Er T tb σ H (rpL rpN b)) : Er T (tOp (rEqD K) ta tb) σ H (rpV (.bl (decide (a = b)))) := by
  have e : PyData.eqv (.list (a.map .int)) (.list (b.map .int)) = decide (a = b) := by simp only [PyData.eqv]; exact eqvI a b
  rw [← e]
  exact er_eqD ha hb (fun _ _ => dpN) (fun _ _ => dpN) (shI a) (shI b)
/-- ints, bools: == and != of scalars -/
theorem er_eqS {a b : V} (ha : Er T ta σ H (rpV a)) (hb : Er T tb σ H (rpV b)) (h : scal a b = true) : Er T (tOp rEq ta tb) σ H (rpV (.bl (decide (a = b)))) :=
  er_op ha hb fun H1 x y _ e1 e2 => fun Q q => by
    cases (show x = a from e1)
    cases (show y = b from e2)
    exact ⟨h, q _ H1 (Xt.refl T H1) rfl⟩
theorem er_neS {a b : V} (ha : Er T ta σ H (rpV a)) (hb : Er T tb σ H (rpV b)) (h : scal a b = true) : Er T (tOp rNe ta tb) σ H (rpV (.bl (!decide (a = b)))) :=
  er_op ha hb fun H1 x y _ e1 e2 => fun Q q => by
    cases (show x = a from e1)
    cases (show y = b from e2)
    exact ⟨h, q _ H1 (Xt.refl T H1) rfl⟩
theorem er_eqI {i j : Int} (ha : Er T ta σ H (rpN i)) (hb : Er T tb σ H (rpN j)) : Er T (tOp rEq ta tb) σ H (rpV (.bl (decide (i = j)))) := by
  have e : decide (V.int i = V.int j) = decide (i = j) := decide_eq_decide.mpr ⟨fun q => V.int.inj q, fun q => by rw [q]⟩
  rw [← e]
  exact er_eqS ha hb rfl
theorem er_neI {i j : Int} (ha : Er T ta σ H (rpN i)) (hb : Er T tb σ H (rpN j)) : Er T (tOp rNe ta tb) σ H (rpV (.bl (!decide (i = j)))) := by
  have e : decide (V.int i = V.int j) = decide (i = j) := decide_eq_decide.mpr ⟨fun q => V.int.inj q, fun q => by rw [q]⟩
  rw [← e]
  exact er_neS ha hb rfl
/-- an int that is not known against one that is -/
theorem er_eqP {P : Int → Prop} {j : Int} (ha : Er T ta σ H (rpI P)) (hb : Er T tb σ H (rpN j)) : Er T (tOp rEq ta tb) σ H (rpB fun _ => True) :=
  er_op ha hb fun H1 x y _ e1 e2 => fun Q q => by
    obtain ⟨i, _, e1⟩ := e1
    cases (show x = V.int i from e1)
    cases (show y = V.int j from e2)
    exact ⟨rfl, q _ H1 (Xt.refl T H1) ⟨_, True.intro, rfl⟩⟩
theorem inV_ints (i : Int) (ns : List Int) : inV (.int i) (ns.map V.int) = ns.contains i := by
  unfold inV
  rw [List.any_map, List.contains_eq_any_beq]
  refine congrArg (List.any ns) (funext fun y => ?_)
  show (y == i) = (i == y)
  rw [Bool.eq_iff_iff, beq_iff_eq, beq_iff_eq]
  exact ⟨Eq.symm, Eq.symm⟩
theorem flat_ints (ns : List Int) : (ns.map V.int).all flatV = true := by
  rw [List.all_map, List.all_eq_true]
  exact fun _ _ => rfl
theorem er_inT {i : Int} {ns : List Int} (ha : Er T ta σ H (rpN i)) (hb : Er T tb σ H (rpT ns)) : Er T (tOp (rIn K false) ta tb) σ H (rpV (.bl (ns.contains i))) :=
  er_op ha hb fun H1 x y _ e1 ⟨p, e2, e3⟩ => fun Q q => by
    cases (show x = V.int i from e1)
    refine ⟨p, ns.map V.int, e2, .inr (SqT.of e3), rfl, flat_ints ns, q _ H1 (Xt.refl T H1) ?_⟩
    show V.bl (inV _ _) = _
    rw [inV_ints]
abbrev rLn (K : PySem.W.Frag) : List V → Hp → VK → Prop := fun xs H Q => ∃ p ys, xs = [.ref p] ∧ (SqL K H p ys ∨ SqT K H p ys) ∧ Q (.int ys.length) H
theorem er_lenL (h : Er T te σ H (rpL F l)) : Er T (tCB (rLn K) (tCons te tNil)) σ H (rpN l.length) :=
  er_cb (ea_1 h) fun H1 vs _ ⟨v, ev, a, ys, e1, e2, e3⟩ => fun Q q => ⟨a, ys, by rw [ev, e1], .inl (SqL.of e2), q _ H1 (Xt.refl T H1) (by rw [plen e3]; rfl)⟩
theorem er_lenU (h : Er T te σ H (rpU F l)) : Er T (tCB (rLn K) (tCons te tNil)) σ H (rpN l.length) :=
  er_cb (ea_1 h) fun H1 vs _ ⟨v, ev, a, ys, e1, e2, e3⟩ => fun Q q => ⟨a, ys, by rw [ev, e1], .inr (SqT.of e2), q _ H1 (Xt.refl T H1) (by rw [plen e3]; rfl)⟩
theorem er_lenT {ns : List Int} (h : Er T te σ H (rpT ns)) : Er T (tCB (rLn K) (tCons te tNil)) σ H (rpN ns.length) := er_lenU (h.imp fun _ _ _ q => tU q)
theorem bls_p {H : Hp} : ∀ {ys : List V} {bs : List Bool}, Paired (fun y (b : Bool) => rpV (.bl b) H y) ys bs → ys = bs.map V.bl
  | _, _, .nil => rfl
  | _, _, .cons h t => by
    rw [List.map_cons, ← bls_p t]
    exact congrArg (· :: _) h
/-- a list of bools -/
abbrev rpBs (bs : List Bool) : Rp := rpL (fun b => rpV (.bl b)) bs
theorem er_all {bs : List Bool} (h : Er T te σ H (rpBs bs)) : Er T (tCB (rAll K) (tCons te tNil)) σ H (rpV (.bl (bs.all id))) :=
  er_cb (ea_1 h) fun H1 vs _ ⟨v, ev, a, ys, e1, e2, e3⟩ => fun Q q => ⟨a, bs, by rw [ev, e1], by rw [bls_p e3] at e2; exact SqL.of e2, q _ H1 (Xt.refl T H1) rfl⟩
theorem er_any {bs : List Bool} (h : Er T te σ H (rpBs bs)) : Er T (tCB (rAny K) (tCons te tNil)) σ H (rpV (.bl (bs.any id))) :=
  er_cb (ea_1 h) fun H1 vs _ ⟨v, ev, a, ys, e1, e2, e3⟩ => fun Q q => ⟨a, bs, by rw [ev, e1], by rw [bls_p e3] at e2; exact SqL.of e2, q _ H1 (Xt.refl T H1) rfl⟩
theorem er_sum {ns : List Int} (h : Er T te σ H (rpL rpN ns)) : Er T (tCB (rSum K) (tCons te tNil)) σ H (rpN ns.sum) :=
  er_cb (ea_1 h) fun H1 vs _ ⟨v, ev, a, ys, e1, e2, e3⟩ => fun Q q => ⟨a, ns, by rw [ev, e1], by rw [ints_p e3] at e2; exact SqL.of e2, q _ H1 (Xt.refl T H1) rfl⟩
abbrev rTup (K : PySem.W.Frag) : List V → Hp → VK → Prop := fun xs H Q => ∃ p ys, xs = [.ref p] ∧ ((SqL K H p ys ∧ ∀ l, H l = none → Q (.ref l) (upd H l (.tup ys))) ∨ (SqT K H p ys ∧ Q (.ref p) H))
theorem er_tupL [m : ∀ x, Mn T (F x)] (h : Er T te σ H (rpL F l)) : Er T (tCB (rTup K) (tCons te tNil)) σ H (rpU F l) :=
  er_cb (ea_1 h) fun H1 vs _ ⟨v, ev, a, ys, e1, e2, e3⟩ => fun Q q => ⟨a, ys, by rw [ev, e1], .inl ⟨SqL.of e2, fun p hp => q _ _ (Xt.new hp) ⟨p, ys, rfl, upd_same, pimp e3 fun y x z => (m x).mono (Xt.new hp) z⟩⟩⟩
theorem er_tupN {ns : List Int} (h : Er T te σ H (rpL rpN ns)) : Er T (tCB (rTup K) (tCons te tNil)) σ H (rpT ns) := (er_tupL h).imp fun _ _ _ q => uT q
abbrev rLst (K : PySem.W.Frag) : List V → Hp → VK → Prop := fun xs H Q => ∃ p ys, xs = [.ref p] ∧ (SqL K H p ys ∨ SqT K H p ys) ∧ ∀ l, H l = none → Q (.ref l) (upd H l (.lst ys))
theorem er_lstL [m : ∀ x, Mn T (F x)] (h : Er T te σ H (rpL F l)) : Er T (tCB (rLst K) (tCons te tNil)) σ H (rpL F l) :=
  er_cb (ea_1 h) fun H1 vs _ ⟨v, ev, a, ys, e1, e2, e3⟩ => fun Q q => ⟨a, ys, by rw [ev, e1], .inl (SqL.of e2), fun p hp => q _ _ (Xt.new hp) ⟨p, ys, rfl, upd_same, pimp e3 fun y x z => (m x).mono (Xt.new hp) z⟩⟩
theorem at_i {ys : List V} {i : Int} {k : Nat} {v : V} (e : i = (k : Int)) (h : ys[k]? = some v) : atI ys i = some v := by
  rw [e]
  exact atI_nat h
theorem er_ixL {i : Int} {k : Nat} {e : α} (ha : Er T ta σ H (rpL F l)) (hb : Er T tb σ H (rpN i)) [m : ∀ x, Mn T (F x)] (ei : i = (k : Int)) (hk : l[k]? = some e) : Er T (tOp (rIxL K) ta tb) σ H (F e) :=
  er_op ha hb fun H1 x y _ ⟨a, ys, e1, e2, e3⟩ e4 => fun Q q => by
    obtain ⟨w, h1, h2⟩ := pget' e3 hk
    exact ⟨a, ys, i, w, e1, e4, SqL.of e2, at_i ei h1, q _ H1 (Xt.refl T H1) h2⟩
theorem er_ixU {i : Int} {k : Nat} {e : α} (ha : Er T ta σ H (rpU F l)) (hb : Er T tb σ H (rpN i)) [m : ∀ x, Mn T (F x)] (ei : i = (k : Int)) (hk : l[k]? = some e) : Er T (tOp (rIxT K) ta tb) σ H (F e) :=
  er_op ha hb fun H1 x y _ ⟨a, ys, e1, e2, e3⟩ e4 => fun Q q => by
    obtain ⟨w, h1, h2⟩ := pget' e3 hk
    exact ⟨a, ys, i, w, e1, e4, SqT.of e2, at_i ei h1, q _ H1 (Xt.refl T H1) h2⟩
theorem er_ixT {i : Int} {k : Nat} {n : Int} {ns : List Int} (ha : Er T ta σ H (rpT ns)) (hb : Er T tb σ H (rpN i)) (ei : i = (k : Int)) (hk : ns[k]? = some n) : Er T (tOp (rIxT K) ta tb) σ H (rpN n) :=
  er_ixU (F := rpN) (ha.imp fun _ _ _ q => tU q) hb ei hk
/-- at a place that is not told -/
theorem er_ixP {P : Int → Prop} (ha : Er T ta σ H (rpL F l)) (hb : Er T tb σ H (rpI P)) [m : ∀ x, Mn T (F x)] (hp : ∀ i, P i → 0 ≤ i ∧ i < l.length) : Er T (tOp (rIxL K) ta tb) σ H (rpE (· ∈ l) F) :=
  er_op ha hb fun H1 x y _ ⟨a, ys, e1, e2, e3⟩ ⟨i, pi, e4⟩ => fun Q q => by
    obtain ⟨h1, h2⟩ := hp i pi
    have hk : i.toNat < l.length := by omega
    obtain ⟨w, k1, k2⟩ := pget' e3 (List.getElem?_eq_getElem hk)
    exact ⟨a, ys, i, w, e1, e4, SqL.of e2, at_i (k := i.toNat) (by omega) k1, q _ H1 (Xt.refl T H1) ⟨_, List.getElem_mem hk, k2⟩⟩
def Eo (T : Tb) (to : TO) (σ : L2.St) (H : Hp) (o : Option Int) : Prop := ∀ H1, Xt T H H1 → ∀ Q : Option Int → Hp → Prop, (∀ H2, Xt T H1 H2 → Q o H2) → to σ H1 Q
theorem eo_none : Eo T tNoPart σ H none := fun H1 _ _ q => q H1 (Xt.refl T H1)
theorem eo_some {i : Int} (h : Er T te σ H (rpN i)) : Eo T (tPart te) σ H (some i) := fun H1 e _ q => h H1 e _ fun v H2 e2 ev => ⟨i, ev, q H2 e2⟩
theorem cut_drop {γ : Type} (xs : List V) (k : Nat) : cutV xs (some (k : Int)) none = xs.drop k := by
  unfold cutV
  rw [HT.sIx_nat, HT.sIx_none]
  rcases Nat.le_total k xs.length with h | h
  · rw [Nat.min_eq_left h]
    exact List.take_of_length_le (by rw [List.length_drop]; exact Nat.le_refl _)
  · rw [Nat.min_eq_right h, List.drop_length, List.drop_eq_nil_of_le h, List.take_nil]
theorem cut_take (xs : List V) (k : Nat) : cutV xs none (some (k : Int)) = xs.take k := by
  unfold cutV
  rw [HT.sIx_nat, HT.sIx_none, List.drop_zero, Nat.sub_zero]
  rcases Nat.le_total k xs.length with h | h
  · rw [Nat.min_eq_left h]
  · rw [Nat.min_eq_right h, List.take_length, List.take_of_length_le h]
theorem ptake {γ δ : Type} {G : γ → δ → Prop} : ∀ (n : Nat) {l : List γ} {m : List δ}, Paired G l m → Paired G (l.take n) (m.take n)
  | 0, _, _, _ => .nil
  | _ + 1, _, _, .nil => .nil
  | n + 1, _, _, .cons h t => .cons h (ptake n t)
theorem pdrop {γ δ : Type} {G : γ → δ → Prop} : ∀ (n : Nat) {l : List γ} {m : List δ}, Paired G l m → Paired G (l.drop n) (m.drop n)
  | 0, _, _, h => h
  | _ + 1, _, _, .nil => .nil
  | n + 1, _, _, .cons h t => pdrop n t
theorem prev {γ δ : Type} {G : γ → δ → Prop} : ∀ {l : List γ} {m : List δ}, Paired G l m → Paired G l.reverse m.reverse
  | _, _, .nil => .nil
  | _, _, .cons h t => by
    rw [List.reverse_cons, List.reverse_cons]
    exact papp (prev t) (.cons h .nil)
theorem er_sl {tl th : TO} {lo hi : Option Int} {f : ∀ {γ : Type}, List γ → List γ} (hf : ∀ xs : List V, cutV xs lo hi = f xs) (hp : ∀ {G : V → α → Prop} {ys : List V}, Paired G ys l → Paired G (f ys) (f l)) [m : ∀ x, Mn T (F x)] (h : Er T te σ H (rpL F l)) (h1 : Eo T tl σ H lo) (h2 : Eo T th σ H hi) :
    Er T (tSl (rSlL K) te tl th) σ H (rpL F (f l)) := fun H0 e Q q => h H0 e _ fun v H1 e1 ⟨a, ys, k1, k2, k3⟩ => h1 H1 (e.trans e1) _ fun H2 e2 => h2 H2 ((e.trans e1).trans e2) _ fun H3 e3 =>
  ⟨a, ys, k1, SqL.of ((e2.trans e3).lst k2), fun p hp' => q _ _ (((e1.trans e2).trans e3).trans (Xt.new hp')) ⟨p, f ys, rfl, by rw [upd_same, hf], hp (pimp k3 fun y x z => (m x).mono ((e2.trans e3).trans (Xt.new hp')) z)⟩⟩
theorem er_slDrop {k : Nat} [m : ∀ x, Mn T (F x)] (h : Er T te σ H (rpL F l)) (hk : Er T tx σ H (rpN (k : Int))) : Er T (tSl (rSlL K) te (tPart tx) tNoPart) σ H (rpL F (l.drop k)) :=
  er_sl (f := fun {γ} (xs : List γ) => xs.drop k) (fun xs => cut_drop (γ := V) xs k) (fun p => pdrop k p) h (eo_some hk) eo_none
theorem er_slTake {k : Nat} [m : ∀ x, Mn T (F x)] (h : Er T te σ H (rpL F l)) (hk : Er T tx σ H (rpN (k : Int))) : Er T (tSl (rSlL K) te tNoPart (tPart tx)) σ H (rpL F (l.take k)) :=
  er_sl (f := fun {γ} (xs : List γ) => xs.take k) (fun xs => cut_take xs k) (fun p => ptake k p) h eo_none (eo_some hk)
theorem er_rev [m : ∀ x, Mn T (F x)] (h : Er T te σ H (rpL F l)) : Er T (tRevL K te) σ H (rpL F l.reverse) := fun H0 e Q q => h H0 e _ fun v H1 e1 ⟨a, ys, k1, k2, k3⟩ =>
  ⟨a, ys, k1, SqL.of k2, fun p hp => q _ _ (e1.trans (Xt.new hp)) ⟨p, ys.reverse, rfl, upd_same, prev (pimp k3 fun y x z => (m x).mono (Xt.new hp) z)⟩⟩
theorem er_cat [m : ∀ x, Mn T (F x)] (ha : Er T ta σ H (rpL F l)) (hb : Er T tb σ H (rpL F l')) (hz : l.length + l'.length ≤ 100000) : Er T (tOp rCat ta tb) σ H (rpL F (l ++ l')) :=
  er_op ha hb fun H1 x y _ ⟨a, ys, e1, e2, e3⟩ ⟨a', ys', e1', e2', e3'⟩ => fun Q q => ⟨a, a', ys, ys', e1, e1', e2, e2', sz_small (by rw [plen e3, plen e3']; exact hz), fun p hp => q _ _ (Xt.new hp) ⟨p, _, rfl, upd_same, pimp (papp e3 e3') fun y x z => (m x).mono (Xt.new hp) z⟩⟩
/-- tuples of ints, one behind the other -/
theorem er_catT {a b : List Int} (ha : Er T ta σ H (rpT a)) (hb : Er T tb σ H (rpT b)) (hz : a.length + b.length ≤ 100000) : Er T (tOp (rCatA K) ta tb) σ H (rpT (a ++ b)) :=
  er_op ha hb fun H1 x y _ ⟨p, e1, e2⟩ ⟨p', e1', e2'⟩ => fun Q q => ⟨p, p', _, _, e1, e1', SqT.of e2, SqT.of e2', sz_small (by rw [List.length_map, List.length_map]; exact hz),
    fun z => q _ H1 (Xt.refl T H1) ⟨p', rfl, by rw [List.map_eq_nil_iff.mp z, List.nil_append]; exact e2'⟩,
    fun _ z => q _ H1 (Xt.refl T H1) ⟨p, rfl, by rw [List.map_eq_nil_iff.mp z, List.append_nil]; exact e2⟩,
    fun _ _ s hs => q _ _ (Xt.new hs) ⟨s, rfl, by rw [upd_same, List.map_append]⟩⟩
/-- t[:k] -/
theorem er_slT {k : Nat} {ns : List Int} (h : Er T te σ H (rpT ns)) (hk : Er T tx σ H (rpN (k : Int))) : Er T (tSl (rSlA K) te tNoPart (tPart tx)) σ H (rpT (ns.take k)) := fun H0 e Q q =>
  h H0 e _ fun v H1 e1 ⟨a, k1, k2⟩ => eo_none H1 (e.trans e1) _ fun H2 e2 => (eo_some hk) H2 ((e.trans e1).trans e2) _ fun H3 e3 => ⟨a, ns.map V.int, k1, SqT.of ((e2.trans e3).tup k2),
    fun ⟨_, z⟩ => q _ H3 ((e1.trans e2).trans e3) ⟨a, rfl, by
      rw [HT.sIx_nat, List.length_map] at z
      rw [List.take_of_length_le (by omega)]
      exact (e2.trans e3).tup k2⟩,
    fun _ s hs => q _ _ (((e1.trans e2).trans e3).trans (Xt.new hs)) ⟨s, rfl, by rw [upd_same, cut_take, List.map_take]⟩⟩
/-- *xs in a display -/
theorem ea_starL {tr : TA} {S : Hp → List V → Prop} [m : ∀ x, Mn T (F x)] (h : Er T te σ H (rpL F l)) (hr : Ea T tr σ H S) : Ea T (StX.tStar K te tr) σ H (fun H' vs => ∃ ys r, vs = ys ++ r ∧ Paired (fun y x => F x H' y) ys l ∧ S H' r) := fun H1 e Q q =>
  h H1 e _ fun v H2 e2 ⟨a, ys, k1, k2, k3⟩ => ⟨a, ys, k1, .inr (SqL.of k2), hr H2 (e.trans e2) _ fun vs H3 e3 hv => q _ H3 (e2.trans e3) ⟨ys, vs, rfl, pimp k3 fun y x z => (m x).mono e3 z, hv⟩⟩
theorem ea_starT {tr : TA} {S : Hp → List V → Prop} {ns : List Int} (h : Er T te σ H (rpT ns)) (hr : Ea T tr σ H S) : Ea T (StX.tStar K te tr) σ H (fun H' vs => ∃ r, vs = ns.map V.int ++ r ∧ S H' r) := fun H1 e Q q =>
  h H1 e _ fun v H2 e2 ⟨a, k1, k2⟩ => ⟨a, _, k1, .inl (SqT.of k2), hr H2 (e.trans e2) _ fun vs H3 e3 hv => q _ H3 (e2.trans e3) ⟨vs, rfl, hv⟩⟩
/-- a tuple of ints displayed -/
theorem er_tupI {tr : TA} {ns : List Int} (h : Ea T tr σ H (fun _ vs => vs = ns.map V.int)) (hz : ns.length ≤ 100000) : Er T (tTup tr) σ H (rpT ns) :=
  er_tup h (fun H1 vs e => by rw [e, List.length_map]; exact hz) fun H1 vs p _ e hp => ⟨p, rfl, by rw [upd_same, e]⟩
theorem er_nil : Er T (tLst tNil) σ H (rpL F []) := er_lst ea_nil (fun _ vs e => by rw [e]; decide) fun H1 vs p _ e hp => ⟨p, [], rfl, by rw [upd_same, e], .nil⟩
end
end K8
set_option maxHeartbeats 4000000
namespace K8
open PySem L2
section
variable {T : Tb} {K : PySem.W.Frag} {σ : L2.St} {H H' : Hp} {ta tb te ti : TE} {R R' : Rp} {D : Ends} {tz : TS}
/-- x = [] -/
theorem q_newL {i : Nat} (k : ∀ p, H p = none → tz D (σ.set i (some (.ref p))) (upd H p (.lst []))) : tSeq (tAsg (tLst tNil) (gName i)) tz D σ H := ⟨sz_small (Nat.zero_le _), fun p hp => k p hp⟩
theorem s_app {i : Nat} {p : Addr} {ys : List V} (hs : σ[i]? = some (some (.ref p))) (hp : H p = some (.lst ys)) (hz : ys.length < 100000) (h : Er T te σ H R) (k : ∀ v H1, Xt T H H1 → R H1 v → D.nx σ (upd H1 p (.lst (ys ++ [v])))) : tDrop (tBM K "list" rAppend (tVar i) (tCons te tNil)) D σ H :=
  ⟨.ref p, hs, .inl ⟨rfl, ys, SqL.of hp⟩, h H (Xt.refl T H) _ fun v H1 e hv => ⟨p, ys, v, rfl, rfl, e.lst hp, Nat.lt_of_lt_of_le hz (by decide), k v H1 e hv⟩⟩
theorem q_app {i : Nat} {p : Addr} {ys : List V} (hs : σ[i]? = some (some (.ref p))) (hp : H p = some (.lst ys)) (hz : ys.length < 100000) (h : Er T te σ H R) (k : ∀ v H1, Xt T H H1 → R H1 v → tz D σ (upd H1 p (.lst (ys ++ [v])))) : tSeq (tDrop (tBM K "list" rAppend (tVar i) (tCons te tNil))) tz D σ H :=
  s_app (D := { D with nx := tz D }) hs hp hz h k
/-- x[i] = e -/
theorem s_set {i : Nat} {p : Addr} {ys : List V} {j : Nat} {n : Int} (hs : σ[i]? = some (some (.ref p))) (hp : H p = some (.lst ys)) (h : Er T te σ H R) (hi : Er T ti σ H (rpN n)) (en : n = (j : Int)) (hj : j < ys.length) [m : Mn T R] (k : ∀ v H1, Xt T H H1 → R H1 v → D.nx σ (upd H1 p (.lst (ys.set j v)))) : tAsg te (gSub (tVar i) ti rSetL) D σ H :=
  h H (Xt.refl T H) _ fun v H1 e hv => ⟨.ref p, hs, hi H1 e _ fun w H2 e2 hw => ⟨p, ys, n, j, rfl, hw, (e.trans e2).lst hp, by
    rw [en]
    unfold ixN
    rw [if_pos (by omega), if_pos (by omega)]
    rfl, k v H2 (e.trans e2) (m.mono e2 hv)⟩⟩
end
/-- what stands flat goes along with a change of a list -/
theorem pflat {α : Type} {F : α → Rp} [h : ∀ x, Ft (F x)] {H : Hp} {p : Addr} {zs : List V} {o : HO} (hp : H p = some (.lst zs)) {ys : List V} {l : List α} (q : Paired (fun y x => F x H y) ys l) : Paired (fun y x => F x (upd H p o) y) ys l :=
  pimp q fun _ x z => (h x).flat z hp (fun _ e => by cases e)
theorem pflatD {α : Type} {F : α → Rp} [h : ∀ x, Ft (F x)] {H : Hp} {p : Addr} {zs : List (List Key × V)} {o : HO} (hp : H p = some (.dT zs)) {ys : List V} {l : List α} (q : Paired (fun y x => F x H y) ys l) : Paired (fun y x => F x (upd H p o) y) ys l :=
  pimp q fun _ x z => (h x).flat z hp (fun _ e => by cases e)
theorem pmono {T : Tb} {α : Type} {F : α → Rp} [h : ∀ x, Mn T (F x)] {H H' : Hp} (e : Xt T H H') {ys : List V} {l : List α} (q : Paired (fun y x => F x H y) ys l) : Paired (fun y x => F x H' y) ys l := pimp q fun _ x z => (h x).mono e z
theorem pset {α β : Type} {G : α → β → Prop} {x : α} {y : β} (h : G x y) : ∀ (i : Nat) {l : List α} {m : List β}, Paired G l m → Paired G (l.set i x) (m.set i y)
  | _, _, _, .nil => .nil
  | 0, _, _, .cons _ t => .cons h t
  | i + 1, _, _, .cons g t => .cons g (pset h i t)
end K8
set_option maxHeartbeats 4000000
namespace K8
open PySem L2
def topS (i : Nat) : Stmt := PySem.Challenge.pw_runcolumns_k08_whole_keys.main.body.getD i (.Pass ⟨0, 0, 0, 0⟩)
/-- the names that the module leaves to the built-ins, and its numbers -/
structure Nm (mg : Str → Option Value) : Prop where
  tuple : mg "tuple" = none
  list : mg "list" = none
  dict : mg "dict" = none
  set : mg "set" = none
  int : mg "int" = none
  bool : mg "bool" = none
  len : mg "len" = none
  range : mg "range" = none
  all : mg "all" = none
  any : mg "any" = none
  sum : mg "sum" = none
  sorted : mg "sorted" = none
  zip : mg "zip" = none
  enumerate : mg "enumerate" = none
  isinstance : mg "isinstance" = none
  mRows : ∃ t, mg "MOST_ROWS" = some (.int 10 t)
  mCols : ∃ t, mg "MOST_COLUMNS" = some (.int 4 t)
  mValue : ∃ t, mg "MOST_VALUE" = some (.int 6 t)
  mPrice : ∃ t, mg "MOST_PRICE" = some (.int 9 t)
/-- a def of the module keeps its promise -/
def Has (P : Program) (w : World) (K : PySem.W.Frag) (mg : Str → Option Value) (base : Heap) (k : Nat) (x : Str) (ps : List Str) (sp : Sp) : Prop :=
  ∃ (f : Addr) (fd : FuncData), FnOk P w K mg base CX0 k f fd ps sp ∧ mg x = some (.ref f) ∧ PySem.W.keepIn K (.ref f) = true ∧ Binds K fd ps []
section
variable {P : Program} {w : World} {K : PySem.W.Frag} {mg : Str → Option Value} {base : Heap} {T : Tb} {σ : L2.St} {H : Hp} {te ta tb : TE}
theorem Has.of {f : Addr} {fd : FuncData} {k : Nat} {x q : Str} {ps : List Str} {st : Stmt} {sp : Sp} (F : Fun K x q st f fd) (m : mg x = some (.ref f)) (b : Binds K fd ps []) (G : FnOk P w K mg base CX0 k f fd ps sp) : Has P w K mg base k x ps sp := ⟨f, fd, G, m, F.kp, b⟩
theorem kit1 {a b : String} {r : Bool} (h : kitB a b = some r) : PySem.W.kitOne K (.type a) (.type b) = some r := kit_ty h
theorem er_isiI {c : String} {b : Bool} {i : Int} (h : kitB "int" c = some b) (ha : Er T ta σ H (rpN i)) : Er T (tCB (rIsi K) (tCons ta (tCons (tC (.ty c)) tNil))) σ H (rpV (.bl b)) :=
  er_cb (ea_2 ha er_c) fun H1 vs _ ⟨v, w, e1, e2, e3⟩ => fun Q q => by
    cases (show v = V.int i from e2)
    cases (show w = V.ty c from e3)
    exact ⟨.int i, .ty c, .type "int", .type c, b, e1, .ty c, .base (.int i), kit1 h, q _ H1 (Xt.refl T H1) rfl⟩
theorem er_isiU {α : Type} {F : α → Rp} {l : List α} {c : String} {b : Bool} [m : ∀ x, Mn T (F x)] (h : kitB "tuple" c = some b) (ha : Er T ta σ H (rpU F l)) : Er T (tCB (rIsi K) (tCons ta (tCons (tC (.ty c)) tNil))) σ H (rpV (.bl b)) :=
  er_cb (ea_2 ha er_c) fun H1 vs _ ⟨v, w, e1, ⟨a, ys, e2, e4, _⟩, e3⟩ => fun Q q => by
    cases (show w = V.ty c from e3)
    exact ⟨v, .ty c, .type "tuple", .type c, b, e1, .ty c, by rw [e2]; exact .base (.tup e4), kit1 h, q _ H1 (Xt.refl T H1) rfl⟩
end
end K8
set_option maxHeartbeats 4000000
namespace K8
open PySem L2
def isNum (a lo hi : Int) : Bool := decide (lo ≤ a) && decide (a ≤ hi)
section
variable {P : Program} {w : World} {K : PySem.W.Frag} {mg : Str → Option Value} {base : Heap} {T : Tb} {σ : L2.St} {H : Hp} {te ta tb tc : TE}
/-- a op b op' c of ints -/
theorem er_chain {g g' : Int → Int → Bool} {i j l : Int} (ha : Er T ta σ H (rpN i)) (hb : Er T tb σ H (rpN j)) (hc : Er T tc σ H (rpN l)) :
    Er T (tChain (rI0 fun i j => .bl (g i j)) (rI0 fun i j => .bl (g' i j)) ta tb tc) σ H (rpV (.bl (g i j && g' j l))) := fun H1 e Q q =>
  ha H1 e _ fun x H2 e2 ex => hb H2 (e.trans e2) _ fun y H3 e3 ey => ⟨i, j, ex, ey, g i j, rfl, by
    cases hg : g i j with
    | true => exact iteT (hc H3 ((e.trans e2).trans e3) _ fun z H4 e4 ez => ⟨j, l, ey, ez, q _ H4 ((e2.trans e3).trans e4) (by rw [hg]; rfl)⟩)
    | false => exact iteF (q _ H3 (e2.trans e3) (by rw [hg]; rfl))⟩
def prIsNumber : List V → Hp → Rp → Prop := fun vs _ R => ∃ a lo hi : Int, vs = [.int a, .int lo, .int hi] ∧ R = rpV (.bl (isNum a lo hi))
theorem scIsNumber : FnScope ["thing", "least", "most"] ["thing", "least", "most"] (defScope (topS 13)) := ⟨rfl, rfl, rfl, by decide +kernel, rfl, by decide +kernel, by decide +kernel⟩
theorem ok_is_number {f : Addr} {fd : FuncData} (F : Fun K "is_number" "is_number" (topS 13) f fd) (m : mg "is_number" = some (.ref f)) (N : Nm mg) : Has P w K mg base 1 "is_number" ["thing", "least", "most"] (Pm T 3 prIsNumber) := by
  refine Has.of F m (F.binds fun _ _ _ _ _ _ us hl => match us, hl with | [_, _, _], _ => rfl) (F.ok scIsNumber (fun vs H Q E h => h.1) (fun cdv A outer s H vs Q E hr h => ?_))
  obtain ⟨_, R, ⟨a, lo, hi, rfl, rfl⟩, q⟩ := h
  refine ⟨_, pss_one (ps_ret (pe_and (pe_callB call_isi (by rfl) N.isinstance (by decide +kernel) (pa_cons (pv 0) (pa_cons (pe_bltn (v := .ty "int") (by rfl) N.int (by decide +kernel) rfl) pa_nil)))
    (pe_and (pe_not (pe_callB call_isi (by rfl) N.isinstance (by decide +kernel) (pa_cons (pv 0) (pa_cons (pe_bltn (v := .ty "bool") (by rfl) N.bool (by decide +kernel) rfl) pa_nil))))
      (pe_one (pe_chain op_le op_le (pv 1) (pv 0) (pv 2)))))), ?_⟩
  refine of_start (σ := [some (.int a), some (.int lo), some (.int hi)]) rfl ?_
  have h0 : Er T (tVar 0) [some (.int a), some (.int lo), some (.int hi)] H (rpN a) := er_v rfl
  have e : isNum a lo hi = (true && (!false && isNum a lo hi)) := rfl
  rw [e] at q
  exact s_ret (er_andV (er_isiI (by decide +kernel) h0) fun _ => er_andV (er_notV (er_isiI (by decide +kernel) h0)) fun _ => er_chain (g := fun i j => decide (i ≤ j)) (g' := fun i j => decide (i ≤ j)) (er_v rfl) h0 (er_v rfl)) q
def rowOk (row : List Int) : Bool := row.all fun v => isNum v 0 6
def prIsRow : List V → Hp → Rp → Prop := fun vs H R => ∃ (row : List Int) (v : V) (n : Int), vs = [v, .int n] ∧ rpT row H v ∧ row.length ≤ 1000 ∧ R = rpV (.bl (decide ((row.length : Int) = n) && rowOk row))
theorem scIsRow : FnScope ["thing", "many", "value"] ["thing", "many"] (defScope (topS 14)) := ⟨rfl, rfl, rfl, by decide +kernel, rfl, by decide +kernel, by decide +kernel⟩
theorem ok_is_row {f : Addr} {fd : FuncData} (F : Fun K "is_row" "is_row" (topS 14) f fd) (m : mg "is_row" = some (.ref f)) (N : Nm mg) (G : Has P w K mg base 1 "is_number" ["thing", "least", "most"] (Pm T 3 prIsNumber)) :
    Has P w K mg base 2 "is_row" ["thing", "many"] (Pm T 2 prIsRow) := by
  refine Has.of F m (F.binds fun _ _ _ _ _ _ us hl => match us, hl with | [_, _], _ => rfl) (F.ok scIsRow (fun vs H Q E h => h.1) (fun cdv A outer s H vs Q E hr h => ?_))
  obtain ⟨_, R, ⟨row, v, n, rfl, hv, hl, rfl⟩, q⟩ := h
  obtain ⟨f1, fd1, G1, m1, k1, b1⟩ := G
  obtain ⟨t, mV⟩ := N.mValue
  refine ⟨_, pss_cons (ps_if (PW.pt (pw_or (pt_not (pt_val (pe_callB call_isi (by rfl) N.isinstance (by decide +kernel) (pa_cons (pv 0) (pa_cons (pe_bltn (v := .ty "tuple") (by rfl) N.tuple (by decide +kernel) rfl) pa_nil)))))
      (pw_or1 (pt_cmpR op_ne (pe_callB call_len_seq (by rfl) N.len (by decide +kernel) (pa_cons (pv 0) pa_nil)) (pv 1) (nomark _))))) (pss_one (ps_ret pe_bl)) pss_nil)
    (pss_one (ps_ret (pe_callB (cr_all rfl) (by rfl) N.all (by decide +kernel) (pa_cons (pe_lc (own := [("value", 2)]) (g := gName 2) (tt := tYes) rfl scIsRow.nd (pi_tup (pv 0)) (blkOk_by (N := ["thing", "many", "value"]) (sc := defScope (topS 14)) (by decide +kernel))
      (fun _ _ _ _ _ => pg_name (i := 2) scIsRow.nd rfl (Or.inl rfl)) (fun _ _ _ _ _ => pts_nil) (fun _ _ _ _ _ => pe_call G1 hr (by rfl) m1 k1 b1 .nil pass0 (pa_cons (pv 2) (pa_cons pe_int (pa_cons (pe_glob (v := .int 6) (by rfl) mV ⟨t, rfl⟩) pa_nil))))) pa_nil)))), ?_⟩
  refine of_start (σ := [some v, some (.int n), none]) rfl ?_
  have h0 : Er T (tVar 0) [some v, some (.int n), none] H (rpT row) := er_var (rpT row) rfl hv
  refine q_when (T := T) (et_orB (a := false) (b := !decide ((row.length : Int) = n)) (et_notB (a := true) (et_B (er_b (er_isiU (by decide +kernel) (h0.imp fun _ _ _ z => tU z))))) fun _ => et_test (er_b (er_neI (er_lenT h0) (er_v rfl)))) (fun e H1 e1 => ?_) (fun e H1 e1 => ?_)
  · have e2 : decide ((row.length : Int) = n) = false := by simpa using e
    refine s_ret (T := T) er_c fun v H2 e3 ev => q v H2 (e1.trans e3) ?_
    rw [e2]
    exact ev
  · have e2 : decide ((row.length : Int) = n) = true := by simpa using e
    refine s_ret (T := T) (er_all (er_lcM (F := rpN) (RB := fun b => rpV (.bl b)) (fun x => isNum x 0 6) (es_tupT (h0.ext e1)) (by omega) (fun _ => rfl) fun x y H2 hm e3 hx => ?_)) fun v H2 e3 ev => q v H2 (e1.trans e3) ?_
    · cases (show y = V.int x from hx)
      exact er_call (ea_3 (er_v rfl) er_c er_c) fun H3 vs _ ⟨a, b, c, e4, e5, e6, e7⟩ => ⟨by rw [e4]; rfl, x, 0, 6, by rw [e4, e5, e6, e7], rfl⟩
    · rw [e2, Bool.true_and]
      have e4 : (row.map fun x => isNum x 0 6).all id = rowOk row := by rw [List.all_map]; rfl
      rw [← e4]
      exact ev
def prWidthOf : List V → Hp → Rp → Prop := fun vs H R => ∃ (row : List Int) (v : V), vs = [v] ∧ rpT row H v ∧ row.length ≤ 4 ∧ R = rpN row.length
theorem scWidthOf : FnScope ["thing"] ["thing"] (defScope (topS 15)) := ⟨rfl, rfl, rfl, by decide +kernel, rfl, by decide +kernel, by decide +kernel⟩
theorem er_leI {i j : Int} (ha : Er T ta σ H (rpN i)) (hb : Er T tb σ H (rpN j)) : Er T (tOp (rI0 fun i j => .bl (decide (i ≤ j))) ta tb) σ H (rpV (.bl (decide (i ≤ j)))) := er_N0 (g := fun i j => .bl (decide (i ≤ j))) ha hb
theorem ok_width_of {f : Addr} {fd : FuncData} (F : Fun K "width_of" "width_of" (topS 15) f fd) (m : mg "width_of" = some (.ref f)) (N : Nm mg) : Has P w K mg base 1 "width_of" ["thing"] (Pm T 1 prWidthOf) := by
  refine Has.of F m (F.binds fun _ _ _ _ _ _ us hl => match us, hl with | [_], _ => rfl) (F.ok scWidthOf (fun vs H Q E h => h.1) (fun cdv A outer s H vs Q E hr h => ?_))
  obtain ⟨_, R, ⟨row, v, rfl, hv, hl, rfl⟩, q⟩ := h
  obtain ⟨t, mC⟩ := N.mCols
  refine ⟨_, pss_one (ps_ret (pe_ifExp (PW.pt (pw_and (pt_val (pe_callB call_isi (by rfl) N.isinstance (by decide +kernel) (pa_cons (pv 0) (pa_cons (pe_bltn (v := .ty "tuple") (by rfl) N.tuple (by decide +kernel) rfl) pa_nil))))
      (pw_and1 (pt_cmpR op_le (pe_callB call_len_seq (by rfl) N.len (by decide +kernel) (pa_cons (pv 0) pa_nil)) (pe_glob (v := .int 4) (by rfl) mC ⟨t, rfl⟩) (nomark _))))) (pe_callB call_len_seq (by rfl) N.len (by decide +kernel) (pa_cons (pv 0) pa_nil)) pe_int)), ?_⟩
  refine of_start (σ := [some v]) rfl ?_
  have h0 : Er T (tVar 0) [some v] H (rpT row) := er_var (rpT row) rfl hv
  refine s_ret (T := T) (er_if (et_andB (a := true) (b := decide ((row.length : Int) ≤ 4)) (et_B (er_b (er_isiU (by decide +kernel) (h0.imp fun _ _ _ z => tU z)))) fun _ => et_test (er_b (er_leI (er_lenT h0) er_c))) (fun _ => er_lenT h0) fun e => ?_) q
  exfalso
  have e2 : decide ((row.length : Int) ≤ 4) = true := decide_eq_true (by omega)
  rw [e2] at e
  cases e
end
end K8
set_option maxHeartbeats 4000000
namespace K8
open PySem L2 PyProof.Rows
/-- len of an instance: what its own def says, an int that fits -/
def rLenO (C : Addr) (sp : Sp) : List V → Hp → VK → Prop := fun xs H Q => ∃ a dx fs, xs = [.ref a] ∧ H a = some (.ins C dx fs) ∧ sp [.ref a] H (fun v H' => ∃ n : Int, v = .int n ∧ 0 ≤ n ∧ n < 2 ^ 63 ∧ Q (.int n) H') E0
theorem call_lenO {X : Cx} {k : Nat} {f C : Addr} {fd : FuncData} {sp : Sp} (hl : PySem.W.findIn X.K (.ref C) "__len__" = some (some (.ref f))) (hf : PySem.W.isFn X.K (.ref f) = true) (F : FnOk X.prog X.w X.K X.mg X.base CX0 k f fd ["self"] sp) (hr : Room (k + 1) X.A)
    (hb : Binds X.K fd ["self"] []) : CallR X (.builtin "len") (rLenO C sp) := by
  intro pins s σ H xs us Q I r h
  obtain ⟨a, dx, fs, rfl, ha, q⟩ := h
  rw [Vals.ref1 r]
  obtain ⟨mA, O, _⟩ := ins_get I.hok ha
  obtain ⟨od, J, _⟩ := O.look
  obtain ⟨m, Fr⟩ := I.fr
  refine PySem.W.len_K Fr I.mod.kin J hl hf (wpAny_call ?_)
  refine codeAny_mono (F.run X.A.in1 X.stack s H ⟨[.ref a], []⟩ [.ref a] [.ref a] _ E0 hr.in1 I.env0.in1 (hb _ [.ref a] I.kIn rfl) (.cons rfl .nil) q) fun r s' hq => ?_
  cases r with
  | error er => exact hq.elim
  | ok fl =>
    cases fl with
    | ret u =>
      obtain ⟨v, H', I3, rv, n, ev, h0, h1, q3⟩ := I.after hq
      subst ev
      obtain ⟨t, eu⟩ := (show ∃ t, u = Value.int n t from rv)
      subst eu
      exact ⟨⟨h0, h1⟩, .int n, H', I3.tok _, ⟨_, rfl⟩, q3⟩
    | next => exact hq.elim
    | brk => exact hq.elim
    | cont => exact hq.elim
/-- sum of a tuple of ints -/
def rSumT (K : PySem.W.Frag) : List V → Hp → VK → Prop := fun vs H Q => ∃ (a : Addr) (ns : List Int), vs = [V.ref a] ∧ SqT K H a (ns.map V.int) ∧ Q (.int ns.sum) H
theorem cr_sumT {X : Cx} (hc : X.calm = true) : CallR X (.builtin "sum") (rSumT X.K) := by
  intro pins s σ H vs us Q I r h
  obtain ⟨a, ns, rfl, hs, q⟩ := h
  obtain ⟨its, rv, ht, _⟩ := I.tuple hs
  rw [Vals.ref1 r]
  have hi := rv.ints
  obtain ⟨xs, hx⟩ := hi.allInts.items
  have hn : numsOf its.toArray.toList = ns := by rw [show its.toArray.toList = its from rfl, hi.numsOf]
  have hl : s.heap.IsTuple a its.toArray := ht
  rw [hx] at hl hn
  rw [nums_intItems] at hn
  refine PySem.W.ktm_sumG (I.ok.hd hc) hl fun h' tk t' hk => ⟨.int ns.sum, H, I.kept hk, ⟨t', ?_⟩, q⟩
  rw [preSum_eq, List.take_of_length_le (by simp), hn]
theorem er_sumT {T : Tb} {K : PySem.W.Frag} {σ : L2.St} {H : Hp} {te : TE} {ns : List Int} (h : Er T te σ H (rpT ns)) : Er T (tCB (rSumT K) (tCons te tNil)) σ H (rpN ns.sum) :=
  er_cb (ea_1 h) fun H1 vs _ ⟨v, ev, a, e1, e2⟩ => fun Q q => ⟨a, ns, by rw [ev, e1], SqT.of e2, q _ H1 (Xt.refl T H1) rfl⟩
end K8
set_option maxHeartbeats 4000000
namespace K8
open PySem L2
abbrev sTabInit : Stmt := inClass (topS 16) 0
/-- a table's only attribute -/
def tf (t : Addr) : List (Str × V) := putF "rows" (.ref t) []
theorem tf_rows (t : Addr) : (tf t).lookup ("rows" : Str) = some (.ref t) := by
  unfold tf
  rw [lookup_putF, if_pos rfl]
/-- a table of these rows -/
def rpTab (C : Addr) (rows : List (List Int)) : Rp := fun H v => ∃ a dx t, v = .ref a ∧ H a = some (.ins C dx (tf t)) ∧ rpU rpT rows H (.ref t)
instance {T : Tb} (C : Addr) (rows : List (List Int)) : Mn T (rpTab C rows) := ⟨fun e ⟨a, dx, t, h1, h2, h3⟩ => ⟨a, dx, t, h1, e.ins h2, Mn.mono e h3⟩⟩
/-- rows that a table takes -/
structure Good (rows : List (List Int)) (n : Nat) : Prop where
  some : 1 ≤ rows.length
  few : rows.length ≤ 10
  w1 : 1 ≤ n
  w4 : n ≤ 4
  len : ∀ r ∈ rows, r.length = n
  ok : ∀ r ∈ rows, rowOk r = true
/-- what of the text the class Table is -/
structure TabC (P : Program) (w : World) (K : PySem.W.Frag) (mg : Str → Option Value) (base : Heap) (C : Addr) : Prop where
  cl : Cls K C
  nR : NoAttr K C "rows"
  mgC : mg "Table" = some (.ref C)
  isC : C8.InsC K C
def spTabInit (T : Tb) (C : Addr) : Sp := fun vs H Q _ => ∃ x dx v rows n, vs = [.ref x, v] ∧ H x = some (.ins C dx []) ∧ rpL rpT rows H v ∧ Good rows n ∧
  ∀ t H1, Xt T H H1 → rpU rpT rows H1 (.ref t) → Q .non (upd H1 x (.ins C dx (tf t)))
theorem scTabInit : FnScope ["self", "rows", "many", "index", "row"] ["self", "rows"] (defScope sTabInit) := ⟨rfl, rfl, rfl, by decide +kernel, rfl, by decide +kernel, by decide +kernel⟩
section
variable {P : Program} {w : World} {K : PySem.W.Frag} {mg : Str → Option Value} {base : Heap} {T : Tb} {σ : L2.St} {H : Hp} {te ta tb tc : TE}
theorem er_isiLT {α : Type} {F : α → Rp} {l : List α} [m : ∀ x, Mn T (F x)] (ha : Er T ta σ H (rpL F l)) : Er T (tCB (rIsiT K) (tCons ta (tCons (tTup (tCons (tC (.ty "list")) (tCons (tC (.ty "tuple")) tNil))) tNil))) σ H (rpV (.bl true)) :=
  er_cb (ea_2 ha (er_tup (R := fun H v => ∃ p, v = .ref p ∧ H p = some (.tup [.ty "list", .ty "tuple"])) (ea_2 er_c er_c) (fun _ vs ⟨_, _, e, _⟩ => by rw [e]; show 2 ≤ 100000; decide) fun H1 vs p _ ⟨v, w, e1, e2, e3⟩ hp => ⟨p, rfl, by
    cases (show v = V.ty "list" from e2)
    cases (show w = V.ty "tuple" from e3)
    rw [upd_same, e1]⟩)) fun H1 vs _ ⟨v, w, e1, ⟨a, ys, e2, e4, _⟩, p, e5, e6⟩ => fun Q q =>
      ⟨v, p, [.ty "list", .ty "tuple"], .type "list", [.type "list", .type "tuple"], true, by rw [e1, e5], e6, .cons (.ty _) (.cons (.ty _) .nil), by rw [e2]; exact .base (.lst e4),
        kitAny_cons (b := true) (r := true) (kit1 (by decide +kernel)) (fun z => by cases z) (fun _ => rfl), q _ H1 (Xt.refl T H1) rfl⟩
theorem ok_tabInit {f C : Addr} {fd : FuncData} (F : Fun K "__init__" "Table.__init__" sTabInit f fd) (N : Nm mg) (TC : TabC P w K mg base C) (GW : Has P w K mg base 1 "width_of" ["thing"] (Pm T 1 prWidthOf)) (GR : Has P w K mg base 2 "is_row" ["thing", "many"] (Pm T 2 prIsRow)) :
    FnOk P w K mg base CX0 3 f fd ["self", "rows"] (spTabInit T C) := by
  refine F.ok scTabInit (fun vs H Q E h => ?_) (fun cdv A outer s H vs Q E hr h => ?_)
  · obtain ⟨x, dx, v, rows, n, rfl, _⟩ := h
    rfl
  obtain ⟨x, dx, v, rows, n, rfl, hx, hv, G, q⟩ := h
  obtain ⟨f1, fd1, G1, m1, k1, b1⟩ := GW
  obtain ⟨f2, fd2, G2, m2, k2, b2⟩ := GR
  obtain ⟨t, mR⟩ := N.mRows
  refine ⟨_, pss_cons (ps_if (PW.pt (pw_or (pt_not (pt_val (pe_callB call_isiT (by rfl) N.isinstance (by decide +kernel) (pa_cons (pv 1) (pa_cons (pe_tup (pa_cons (pe_bltn (v := .ty "list") (by rfl) N.list (by decide +kernel) rfl) (pa_cons (pe_bltn (v := .ty "tuple") (by rfl) N.tuple (by decide +kernel) rfl) pa_nil))) pa_nil)))))
      (pw_or1 (pt_not (pt_chain op_le op_le pe_int (pe_callB call_len_seq (by rfl) N.len (by decide +kernel) (pa_cons (pv 1) pa_nil)) (pe_glob (v := .int 10) (by rfl) mR ⟨t, rfl⟩)))))) pss_never pss_nil)
    (pss_cons (ps_set (i := 2) scTabInit.nd rfl (Or.inl rfl) (pe_call G1 (hr.mono (by decide)) (by rfl) m1 k1 b1 .nil pass0 (pa_cons (pe_ix (r := rIxL K) ix_list (pv 1) pe_int (fun _ _ => rfl)) pa_nil)))
    (pss_cons (ps_for PassesOwn.never rfl (pi_enum (by rfl) N.enumerate (pa_cons (pv 1) pa_nil)) (pg_tup rfl (pgs_cons (pg_name (i := 3) scTabInit.nd rfl (Or.inl rfl)) (pgs_cons (pg_name (i := 4) scTabInit.nd rfl (Or.inl rfl)) pgs_nil)))
        (pss_one (ps_if (PW.pt (pw_or (pt_cmpR op_eq (pv 2) pe_int (nomark _)) (pw_or1 (pt_not (pt_val (pe_call G2 (hr.mono (by decide)) (by rfl) m2 k2 b2 .nil pass0 (pa_cons (pv 4) (pa_cons (pv 2) pa_nil)))))))) pss_never pss_nil)))
      (pss_one (ps_fld (pv 0) (pe_callTy call_tuple_of (by rfl) N.tuple (by decide +kernel) (pa_cons (pv 1) pa_nil)) rfl)))), ?_⟩
  refine of_start (σ := [some (.ref x), some v, none, none, none]) rfl ?_
  have hR : ∀ {σ : L2.St} {H1 : Hp}, Xt T H H1 → σ[1]? = some (some v) → Er T (tVar 1) σ H1 (rpL rpT rows) := fun e h => er_var _ h (Mn.mono e hv)
  obtain ⟨r0, rs, e0⟩ : ∃ r0 rs, rows = r0 :: rs := by
    cases rows with
    | nil => exact absurd G.some (by decide)
    | cons r0 rs => exact ⟨r0, rs, rfl⟩
  have l0 : r0.length = n := G.len r0 (by rw [e0]; exact List.mem_cons_self)
  -- the rows are a list of one to ten
  refine q_not (T := T) ?_ fun H1 e1 => ?_
  · refine (et_orB (a := false) (b := false) (et_notB (a := true) (et_B (er_b (er_isiLT (hR (Xt.refl T H) rfl))))) fun _ => et_notB (a := true) (et_test (er_b ?_)))
    have e : (decide ((1 : Int) ≤ rows.length) && decide ((rows.length : Int) ≤ 10)) = true := by
      have h1 := G.some
      have h2 := G.few
      rw [decide_eq_true (by omega), decide_eq_true (by omega)]
      rfl
    rw [← e]
    exact er_chain (g := fun i j => decide (i ≤ j)) (g' := fun i j => decide (i ≤ j)) er_c (er_lenL (hR (Xt.refl T H) rfl)) er_c
  -- many = width_of(rows[0])
  refine q_asg (T := T) (R := rpN n) (er_call (ea_1 (er_ixL (e := r0) (k := 0) (hR e1 rfl) er_c rfl (by rw [e0]; rfl))) fun H2 vs _ ⟨a, ea, ha⟩ => ⟨by rw [ea]; rfl, r0, a, ea, ha, by rw [l0]; exact G.w4, by rw [l0]⟩) fun y H2 e2 hy => ?_
  cases (show y = V.int n from hy)
  -- the loop
  refine q_forE (T := T) (n := rows.length) (es_enum (F := rpT) (l := rows) (ea_1 (hR (e1.trans e2) rfl))) (fun _ σ' _ => ∃ z z', σ' = [some (.ref x), some v, some (.int n), z, z']) (fun _ _ => ⟨none, none, rfl⟩) (fun H3 e3 i y σ1 Ha Hb hi ea I eb hy => ?_) (fun σ' H' e3 I => ?_)
  · obtain ⟨z, z', rfl⟩ := I
    obtain ⟨S, y', r, rfl, hS, hr1, hy'⟩ := hy
    have hm : r ∈ rows := List.mem_of_getElem? hr1
    refine g_two hS ?_
    refine s_when (T := T) (P := (· = false)) ?_ (fun z => by cases z) fun _ H4 e4 => ⟨(ea.trans eb).trans e4, _, _, rfl⟩
    refine et_orB (a := false) (b := false) (et_test (er_b ?_)) fun _ => et_notB (a := true) (et_B (er_b ?_))
    · have e5 : decide ((n : Int) = 0) = false := decide_eq_false (by have := G.w1; omega)
      rw [← e5]
      exact er_eqI (er_v rfl) er_c
    · refine er_call (ea_2 (er_var (rpT r) rfl hy') (er_v rfl)) fun H5 vs _ ⟨a, b, e6, e7, e8⟩ => ⟨by rw [e6]; rfl, r, a, n, by rw [e6, e8], e7, by rw [G.len r hm]; have := G.w4; omega, ?_⟩
      rw [G.ok r hm, G.len r hm, decide_eq_true rfl]
      rfl
  · obtain ⟨z, z', rfl⟩ := I
    have e4 := (e1.trans e2).trans e3
    refine (er_tupL (hR e4 rfl)) H' (Xt.refl T H') _ fun u H4 e5 hu => ?_
    obtain ⟨t', ys, eu, h1, h2⟩ := hu
    subst eu
    exact ⟨.ref x, rfl, x, C, dx, [], rfl, (e4.trans e5).ins hx, TC.cl, TC.nR, (by show 0 < 1000; decide), q t' H4 (e4.trans e5) ⟨t', ys, rfl, h1, h2⟩⟩
/-- Table(rows) -/
theorem er_mkTab {C : Addr} {rows : List (List Int)} {n : Nat} (h : Er T te σ H (rpL rpT rows)) (G : Good rows n) : Er T (tMake C (spTabInit T C) [] E0 (tCons te tNil)) σ H (rpTab C rows) := fun H0 e Q q =>
  (ea_1 h) H0 e _ fun vs H1 e1 ⟨v, ev, hv⟩ => fun x dx nx ndx hne => by
    have s1 : Xt T H1 (upd H1 dx (.own x)) := Xt.new ndx
    have nx' : upd H1 dx (.own x) x = none := by rw [upd_ne hne.symm]; exact nx
    have s2 := s1.trans (Xt.new (T := T) (o := .ins C dx []) nx')
    refine ⟨x, dx, v, rows, n, by rw [ev]; rfl, upd_same, Mn.mono s2 hv, G, fun t H2 e2 ht => ⟨rfl, q _ _ (e1.trans ((s2.trans e2).mut nx (e2.ins upd_same) True.intro)) ⟨x, dx, t, rfl, upd_same, ?_⟩⟩⟩
    exact Ft.flat ht (e2.ins upd_same) (fun _ z => by cases z)
end
end K8
set_option maxHeartbeats 4000000
namespace K8
open PySem L2
abbrev sTabLen : Stmt := inClass (topS 16) 2
abbrev sTabWidth : Stmt := inClass (topS 16) 5
def prLen (C : Addr) : List V → Hp → Rp → Prop := fun vs H R => ∃ v rows, vs = [v] ∧ rpTab C rows H v ∧ rows.length ≤ 10 ∧ R = rpN rows.length
def prWid (C : Addr) : List V → Hp → Rp → Prop := fun vs H R => ∃ v rows n, vs = [v] ∧ rpTab C rows H v ∧ Good rows n ∧ R = rpN n
theorem scTabLen : FnScope ["self"] ["self"] (defScope sTabLen) := ⟨rfl, rfl, rfl, by decide +kernel, rfl, by decide +kernel, by decide +kernel⟩
theorem scTabWidth : FnScope ["self"] ["self"] (defScope sTabWidth) := ⟨rfl, rfl, rfl, by decide +kernel, rfl, by decide +kernel, by decide +kernel⟩
/-- the class Table with its methods -/
structure TabM (P : Program) (w : World) (K : PySem.W.Frag) (mg : Str → Option Value) (base : Heap) (T : Tb) (C : Addr) : Prop extends TabC P w K mg base C where
  made : ∃ f fd, Mk K C f ∧ FnOk P w K mg base CX0 3 f fd ["self", "rows"] (spTabInit T C) ∧ Binds K fd ["self", "rows"] []
  ln : ∃ f fd, PySem.W.findIn K (.ref C) "__len__" = some (some (.ref f)) ∧ PySem.W.isFn K (.ref f) = true ∧ FnOk P w K mg base CX0 1 f fd ["self"] (Pm T 1 (prLen C)) ∧ Binds K fd ["self"] []
  wd : ∃ p g fd, PropOf K C "width" p g ∧ FnOk P w K mg base CX0 1 g fd ["self"] (Pm T 1 (prWid C)) ∧ Binds K fd ["self"] []
section
variable {P : Program} {w : World} {K : PySem.W.Frag} {mg : Str → Option Value} {base : Heap} {T : Tb} {σ : L2.St} {H : Hp} {te ta tb tc : TE} {C : Addr} {rows : List (List Int)} {n : Nat}
theorem er_rows (TC : TabC P w K mg base C) (h : Er T te σ H (rpTab C rows)) : Er T (tFld K te "rows") σ H (rpU rpT rows) := fun H1 e Q q =>
  h H1 e _ fun v H2 e2 ⟨a, dx, t, h1, h2, h3⟩ => ⟨a, C, dx, _, .ref t, h1, h2, TC.cl, TC.nR, tf_rows t, q _ H2 e2 h3⟩
theorem er_lenTab (h : Er T te σ H (rpTab C rows)) (hl : rows.length ≤ 10) : Er T (tCB (rLenO C (Pm T 1 (prLen C))) (tCons te tNil)) σ H (rpN rows.length) :=
  er_cb (ea_1 h) fun H1 vs _ ⟨v, ev, hv⟩ => fun Q q => by
    obtain ⟨a, dx, t, h1, h2, h3⟩ := id hv
    exact ⟨a, dx, _, by rw [ev, h1], h2, rfl, rpN rows.length, ⟨v, rows, by rw [h1], hv, hl, rfl⟩, fun u H2 e2 hu => ⟨rows.length, hu, by omega, by omega, q _ H2 e2 rfl⟩⟩
theorem er_width (h : Er T te σ H (rpTab C rows)) (G : Good rows n) : Er T (tProp C (Pm T 1 (prWid C)) [] E0 te) σ H (rpN n) := fun H1 e Q q =>
  h H1 e _ fun v H2 e2 hv => by
    obtain ⟨a, dx, t, h1, h2, h3⟩ := id hv
    exact ⟨a, dx, _, h1, h2, rfl, rpN n, ⟨v, rows, n, by rw [h1], hv, G, rfl⟩, fun u H3 e3 hu => q _ H3 (e2.trans e3) hu⟩
theorem ok_tabLen {f : Addr} {fd : FuncData} (F : Fun K "__len__" "Table.__len__" sTabLen f fd) (N : Nm mg) (TC : TabC P w K mg base C) : FnOk P w K mg base CX0 1 f fd ["self"] (Pm T 1 (prLen C)) := by
  refine F.ok scTabLen (fun vs H Q E h => h.1) (fun cdv A outer s H vs Q E hr h => ?_)
  obtain ⟨_, R, ⟨v, rows, rfl, hv, hl, rfl⟩, q⟩ := h
  refine ⟨_, pss_one (ps_ret (pe_callB call_len_seq (by rfl) N.len (by decide +kernel) (pa_cons (pe_fld (pv 0) rfl) pa_nil))), ?_⟩
  exact of_start (σ := [some v]) rfl (s_ret (T := T) (er_lenU (er_rows TC (er_var (rpTab C rows) rfl hv))) q)
theorem ok_tabWidth {f : Addr} {fd : FuncData} (F : Fun K "width" "Table.width" sTabWidth f fd) (N : Nm mg) (TC : TabC P w K mg base C) : FnOk P w K mg base CX0 1 f fd ["self"] (Pm T 1 (prWid C)) := by
  refine F.ok scTabWidth (fun vs H Q E h => h.1) (fun cdv A outer s H vs Q E hr h => ?_)
  obtain ⟨_, R, ⟨v, rows, n, rfl, hv, G, rfl⟩, q⟩ := h
  refine ⟨_, pss_one (ps_ret (pe_callB call_len_seq (by rfl) N.len (by decide +kernel) (pa_cons (pe_ix ix_tup (pe_fld (pv 0) rfl) pe_int (fun _ _ => rfl)) pa_nil))), ?_⟩
  obtain ⟨r0, rs, e0⟩ : ∃ r0 rs, rows = r0 :: rs := by
    cases rows with
    | nil => exact absurd G.some (by decide)
    | cons r0 rs => exact ⟨r0, rs, rfl⟩
  have l0 : r0.length = n := G.len r0 (by rw [e0]; exact List.mem_cons_self)
  rw [← l0] at q
  exact of_start (σ := [some v]) rfl (s_ret (T := T) (er_lenT (er_ixU (e := r0) (k := 0) (er_rows TC (er_var (rpTab C rows) rfl hv)) er_c rfl (by rw [e0]; rfl))) q)
theorem er_isTab (h : Er T te σ H (rpTab C rows)) : Er T (tCB (fun xs H Q => ∃ a dx fs, xs = [V.ref a, V.ref C] ∧ H a = some (.ins C dx fs) ∧ Q (.bl true) H) (tCons te (tCons (tC (.ref C)) tNil))) σ H (rpV (.bl true)) :=
  er_cb (ea_2 h er_c) fun H1 vs _ ⟨v, w, e1, ⟨a, dx, t, e2, e4, _⟩, e3⟩ => fun Q q => ⟨a, dx, _, by rw [e1, e2, show w = V.ref C from e3], e4, q _ H1 (Xt.refl T H1) rfl⟩
def prCheckTable (C : Addr) : List V → Hp → Rp → Prop := fun vs H R => ∃ v rows, vs = [v] ∧ rpTab C rows H v ∧ R = rpV .non
theorem scCheckTable : FnScope ["table"] ["table"] (defScope (topS 17)) := ⟨rfl, rfl, rfl, by decide +kernel, rfl, by decide +kernel, by decide +kernel⟩
theorem ok_check_table {f : Addr} {fd : FuncData} (F : Fun K "check_table" "check_table" (topS 17) f fd) (m : mg "check_table" = some (.ref f)) (N : Nm mg) (TC : TabC P w K mg base C) : Has P w K mg base 1 "check_table" ["table"] (Pm T 1 (prCheckTable C)) := by
  refine Has.of F m (F.binds fun _ _ _ _ _ _ us hl => match us, hl with | [_], _ => rfl) (F.ok scCheckTable (fun vs H Q E h => h.1) (fun cdv A outer s H vs Q E hr h => ?_))
  obtain ⟨_, R, ⟨v, rows, rfl, hv, rfl⟩, q⟩ := h
  refine ⟨_, pss_one (ps_if (pt_not (pt_val (pe_callB (C8.call_isC TC.isC) (by rfl) N.isinstance (by decide +kernel) (pa_cons (pv 0) (pa_cons (pe_glob (v := .ref C) (by rfl) TC.mgC rfl) pa_nil))))) pss_never pss_nil), ?_⟩
  exact of_start (σ := [some v]) rfl (s_when (T := T) (et_notB (a := true) (et_B (er_b (er_isTab (er_var (rpTab C rows) rfl hv))))) (fun z => by cases z) fun _ H1 e1 => q _ H1 e1 rfl)
def prCheckColumn (C : Addr) : List V → Hp → Rp → Prop := fun vs H R => ∃ v rows n p, vs = [v, .int p] ∧ rpTab C rows H v ∧ Good rows n ∧ 0 ≤ p ∧ p < n ∧ R = rpV .non
theorem scCheckColumn : FnScope ["table", "place"] ["table", "place"] (defScope (topS 18)) := ⟨rfl, rfl, rfl, by decide +kernel, rfl, by decide +kernel, by decide +kernel⟩
theorem ok_check_column {f : Addr} {fd : FuncData} (F : Fun K "check_column" "check_column" (topS 18) f fd) (m : mg "check_column" = some (.ref f)) (N : Nm mg) (TM : TabM P w K mg base T C) (GN : Has P w K mg base 1 "is_number" ["thing", "least", "most"] (Pm T 3 prIsNumber)) :
    Has P w K mg base 3 "check_column" ["table", "place"] (Pm T 2 (prCheckColumn C)) := by
  refine Has.of F m (F.binds fun _ _ _ _ _ _ us hl => match us, hl with | [_, _], _ => rfl) (F.ok scCheckColumn (fun vs H Q E h => h.1) (fun cdv A outer s H vs Q E hr h => ?_))
  obtain ⟨_, R, ⟨v, rows, n, p, rfl, hv, G, h0, h1, rfl⟩, q⟩ := h
  obtain ⟨f1, fd1, G1, m1, k1, b1⟩ := GN
  obtain ⟨pw, gw, fdw, Pw, Gw, bw⟩ := TM.wd
  refine ⟨_, pss_one (ps_if (pt_not (pt_val (pe_call G1 (hr.mono (by decide)) (by rfl) m1 k1 b1 .nil pass0 (pa_cons (pv 1) (pa_cons pe_int (pa_cons (pe_op op_sub (pe_prop (pv 0) TM.cl Pw Gw hr bw .nil pass0 rfl) pe_int) pa_nil)))))) pss_never pss_nil), ?_⟩
  refine of_start (σ := [some v, some (.int p)]) rfl (s_when (T := T) (et_notB (a := true) (et_B (er_b ?_))) (fun z => by cases z) fun _ H1 e1 => q _ H1 e1 rfl)
  refine er_call (ea_3 (RA := rpN p) (RB := rpN 0) (RC := rpN (n - 1)) (er_v rfl) er_c (er_N0 (g := fun i j => .int (i - j)) (er_width (er_var (rpTab C rows) rfl hv) G) er_c)) fun H1 vs _ ⟨a, b, c, e1, e2, e3, e4⟩ => ⟨by rw [e1]; rfl, p, 0, n - 1, by rw [e1, show a = .int p from e2, show b = .int 0 from e3, show c = .int (n - 1) from e4], ?_⟩
  unfold isNum
  rw [decide_eq_true h0, decide_eq_true (by omega)]
  rfl
/-- prices of so many columns -/
def priceOk (ps : List Int) (n : Nat) : Prop := ps.length = n ∧ ∀ p ∈ ps, isNum p 0 9 = true
def prCheckPrices (C : Addr) : List V → Hp → Rp → Prop := fun vs H R => ∃ v u rows n ps, vs = [v, u] ∧ rpTab C rows H v ∧ Good rows n ∧ rpT ps H u ∧ priceOk ps n ∧ R = rpV .non
theorem scCheckPrices : FnScope ["table", "prices", "price"] ["table", "prices"] (defScope (topS 19)) := ⟨rfl, rfl, rfl, by decide +kernel, rfl, by decide +kernel, by decide +kernel⟩
theorem ok_check_prices {f : Addr} {fd : FuncData} (F : Fun K "check_prices" "check_prices" (topS 19) f fd) (m : mg "check_prices" = some (.ref f)) (N : Nm mg) (TM : TabM P w K mg base T C) (GN : Has P w K mg base 1 "is_number" ["thing", "least", "most"] (Pm T 3 prIsNumber)) :
    Has P w K mg base 3 "check_prices" ["table", "prices"] (Pm T 2 (prCheckPrices C)) := by
  refine Has.of F m (F.binds fun _ _ _ _ _ _ us hl => match us, hl with | [_, _], _ => rfl) (F.ok scCheckPrices (fun vs H Q E h => h.1) (fun cdv A outer s H vs Q E hr h => ?_))
  obtain ⟨_, R, ⟨v, u, rows, n, ps, rfl, hv, G, hu, hp, rfl⟩, q⟩ := h
  obtain ⟨f1, fd1, G1, m1, k1, b1⟩ := GN
  obtain ⟨pw, gw, fdw, Pw, Gw, bw⟩ := TM.wd
  obtain ⟨t, mP⟩ := N.mPrice
  refine ⟨_, pss_cons (ps_if (PW.pt (pw_or (pt_not (pt_val (pe_callB call_isi (by rfl) N.isinstance (by decide +kernel) (pa_cons (pv 1) (pa_cons (pe_bltn (v := .ty "tuple") (by rfl) N.tuple (by decide +kernel) rfl) pa_nil)))))
      (pw_or1 (pt_cmpR op_ne (pe_callB call_len_seq (by rfl) N.len (by decide +kernel) (pa_cons (pv 1) pa_nil)) (pe_prop (pv 0) TM.cl Pw Gw hr bw .nil pass0 rfl) (nomark _))))) pss_never pss_nil)
    (pss_one (ps_if (pt_not (pt_val (pe_callB (cr_all rfl) (by rfl) N.all (by decide +kernel) (pa_cons (pe_lc (own := [("price", 2)]) (g := gName 2) (tt := tYes) rfl scCheckPrices.nd (pi_tup (pv 1)) (blkOk_by (N := ["table", "prices", "price"]) (sc := defScope (topS 19)) (by decide +kernel))
      (fun _ _ _ _ _ => pg_name (i := 2) scCheckPrices.nd rfl (Or.inl rfl)) (fun _ _ _ _ _ => pts_nil) (fun _ _ _ _ _ => pe_call G1 (hr.mono (by decide)) (by rfl) m1 k1 b1 .nil pass0 (pa_cons (pv 2) (pa_cons pe_int (pa_cons (pe_glob (v := .int 9) (by rfl) mP ⟨t, rfl⟩) pa_nil))))) pa_nil)))) pss_never pss_nil)), ?_⟩
  refine of_start (σ := [some v, some u, none]) rfl ?_
  have hU : Er T (tVar 1) [some v, some u, none] H (rpT ps) := er_var (rpT ps) rfl hu
  refine q_not (T := T) (et_orB (a := false) (b := false) (et_notB (a := true) (et_B (er_b (er_isiU (by decide +kernel) (hU.imp fun _ _ _ z => tU z))))) fun _ => et_test (er_b ?_)) fun H1 e1 => ?_
  · have e : (!decide ((ps.length : Int) = n)) = false := by rw [hp.1, decide_eq_true rfl]; rfl
    rw [← e]
    exact er_neI (er_lenT hU) (er_width (er_var (rpTab C rows) rfl hv) G)
  · refine s_when (T := T) (et_notB (a := true) (et_B (er_b ?_))) (fun z => by cases z) fun _ H2 e2 => q _ H2 (e1.trans e2) rfl
    have e : (ps.map fun x => isNum x 0 9).all id = true := by
      rw [List.all_map, List.all_eq_true]
      exact fun x hx => hp.2 x hx
    rw [← e]
    refine er_all (er_lcM (F := rpN) (RB := fun b => rpV (.bl b)) (fun x => isNum x 0 9) (es_tupT (hU.ext e1)) (by rw [hp.1]; have := G.w4; omega) (fun _ => rfl) fun x y H2 hm e3 hx => ?_)
    cases (show y = V.int x from hx)
    exact er_call (ea_3 (er_v rfl) er_c er_c) fun H3 vs _ ⟨a, b, c, e4, e5, e6, e7⟩ => ⟨by rw [e4]; rfl, x, 0, 9, by rw [e4, e5, e6, e7], rfl⟩
end
end K8
set_option maxHeartbeats 4000000
namespace K8
open PySem L2
/-- a row's values in some columns -/
def pick (row ps : List Int) : List Int := ps.map fun p => row.getD p.toNat 0
/-- columns of a table of n -/
def Cols (S : List Int) (n : Nat) : Prop := (∀ p ∈ S, 0 ≤ p ∧ p < n) ∧ S.length ≤ 100
def within (a b : List Int) : Bool := a.all fun x => b.contains x
/-- rows that are equal in S are equal in U -/
def ToldP (rows : List (List Int)) (S U : List Int) : Prop := ∀ r ∈ rows, ∀ r' ∈ rows, pick r S = pick r' S → pick r U = pick r' U
instance (rows : List (List Int)) (S U : List Int) : Decidable (ToldP rows S U) := by
  unfold ToldP
  exact List.decidableBAll _ _
def told (rows : List (List Int)) (S U : List Int) : Bool := decide (ToldP rows S U)
/-- a pair of rows against it -/
def Unlike (rows : List (List Int)) (S U : List Int) (i j : Nat) : Prop := ∃ r r', rows[i]? = some r ∧ rows[j]? = some r' ∧ pick r S = pick r' S ∧ pick r U ≠ pick r' U
def rpUnlike (rows : List (List Int)) (S U : List Int) : Rp := fun H v => (v = .non ∧ ToldP rows S U) ∨ ∃ i j : Nat, rpT [(i : Int), (j : Int)] H v ∧ Unlike rows S U i j
instance {T : Tb} (rows : List (List Int)) (S U : List Int) : Mn T (rpUnlike rows S U) := ⟨fun e h => h.elim (fun h => .inl h) fun ⟨i, j, h1, h2⟩ => .inr ⟨i, j, Mn.mono e h1, h2⟩⟩
theorem pick_get {row ps : List Int} {n : Nat} (h : Cols ps n) (hl : row.length = n) {p : Int} (hp : p ∈ ps) : row[p.toNat]? = some (row.getD p.toNat 0) := by
  obtain ⟨h0, h1⟩ := h.1 p hp
  have h2 : p.toNat < row.length := by omega
  rw [List.getD_eq_getElem?_getD, List.getElem?_eq_getElem h2]
  rfl
def prPicked : List V → Hp → Rp → Prop := fun vs H R => ∃ row ps v w, vs = [v, w] ∧ rpT row H v ∧ rpT ps H w ∧ Cols ps row.length ∧ R = rpT (pick row ps)
theorem scPicked : FnScope ["row", "places", "place"] ["row", "places"] (defScope (topS 21)) := ⟨rfl, rfl, rfl, by decide +kernel, rfl, by decide +kernel, by decide +kernel⟩
def prWithin : List V → Hp → Rp → Prop := fun vs H R => ∃ a b v w, vs = [v, w] ∧ rpT a H v ∧ rpT b H w ∧ a.length ≤ 100 ∧ R = rpV (.bl (within a b))
theorem scWithin : FnScope ["one", "other", "item"] ["one", "other"] (defScope (topS 25)) := ⟨rfl, rfl, rfl, by decide +kernel, rfl, by decide +kernel, by decide +kernel⟩
def prUnlikePair (C : Addr) : List V → Hp → Rp → Prop := fun vs H R => ∃ v vS vU rows n S U, vs = [v, vS, vU] ∧ rpTab C rows H v ∧ Good rows n ∧ rpT S H vS ∧ rpT U H vU ∧ Cols S n ∧ Cols U n ∧ R = rpUnlike rows S U
theorem scUnlikePair : FnScope ["table", "places", "others", "one", "late", "mine", "theirs"] ["table", "places", "others"] (defScope (topS 23)) := ⟨rfl, rfl, rfl, by decide +kernel, rfl, by decide +kernel, by decide +kernel⟩
section
variable {P : Program} {w : World} {K : PySem.W.Frag} {mg : Str → Option Value} {base : Heap} {T : Tb} {σ : L2.St} {H : Hp} {te ta tb tc : TE} {C : Addr} {rows : List (List Int)} {n : Nat}
theorem ok_picked {f : Addr} {fd : FuncData} (F : Fun K "picked" "picked" (topS 21) f fd) (m : mg "picked" = some (.ref f)) (N : Nm mg) : Has P w K mg base 1 "picked" ["row", "places"] (Pm T 2 prPicked) := by
  refine Has.of F m (F.binds fun _ _ _ _ _ _ us hl => match us, hl with | [_, _], _ => rfl) (F.ok scPicked (fun vs H Q E h => h.1) (fun cdv A outer s H vs Q E hr h => ?_))
  obtain ⟨_, R, ⟨row, ps, v, w, rfl, hv, hw, hp, rfl⟩, q⟩ := h
  refine ⟨_, pss_one (ps_ret (pe_callTy call_tuple_of (by rfl) N.tuple (by decide +kernel) (pa_cons (pe_lc (own := [("place", 2)]) (g := gName 2) (tt := tYes) rfl scPicked.nd (pi_tup (pv 1)) (blkOk_by (N := ["row", "places", "place"]) (sc := defScope (topS 21)) (by decide +kernel))
    (fun _ _ _ _ _ => pg_name (i := 2) scPicked.nd rfl (Or.inl rfl)) (fun _ _ _ _ _ => pts_nil) (fun _ _ _ _ _ => pe_ix (r := rIxT K) ix_tup (pv 0) (pv 2) (fun _ _ => rfl))) pa_nil))), ?_⟩
  refine of_start (σ := [some v, some w, none]) rfl ?_
  refine s_ret (T := T) (er_tupN (er_lcM (F := rpN) (RB := rpN) (fun p => row.getD p.toNat 0) (es_tupT (er_var (rpT ps) rfl hw)) (by have := hp.2; omega) (fun _ => rfl) fun p x H1 hm e hx => ?_)) q
  cases (show x = V.int p from hx)
  exact er_ixT (k := p.toNat) (er_var (rpT row) rfl (Mn.mono e hv)) (er_var (rpN p) rfl rfl) (by have := hp.1 p hm; omega) (pick_get hp rfl hm)
theorem ok_within {f : Addr} {fd : FuncData} (F : Fun K "is_within" "is_within" (topS 25) f fd) (m : mg "is_within" = some (.ref f)) (N : Nm mg) : Has P w K mg base 1 "is_within" ["one", "other"] (Pm T 2 prWithin) := by
  refine Has.of F m (F.binds fun _ _ _ _ _ _ us hl => match us, hl with | [_, _], _ => rfl) (F.ok scWithin (fun vs H Q E h => h.1) (fun cdv A outer s H vs Q E hr h => ?_))
  obtain ⟨_, R, ⟨a, b, v, w, rfl, hv, hw, hl, rfl⟩, q⟩ := h
  refine ⟨_, pss_one (ps_ret (pe_callB (cr_all rfl) (by rfl) N.all (by decide +kernel) (pa_cons (pe_lc (own := [("item", 2)]) (g := gName 2) (tt := tYes) rfl scWithin.nd (pi_tup (pv 0)) (blkOk_by (N := ["one", "other", "item"]) (sc := defScope (topS 25)) (by decide +kernel))
    (fun _ _ _ _ _ => pg_name (i := 2) scWithin.nd rfl (Or.inl rfl)) (fun _ _ _ _ _ => pts_nil) (fun _ _ _ _ _ => pe_cmpR (r := rIn K false) op_in_seq (pv 2) (pv 1) (by rfl))) pa_nil))), ?_⟩
  refine of_start (σ := [some v, some w, none]) rfl ?_
  have e : (a.map fun x => b.contains x).all id = within a b := by rw [List.all_map]; rfl
  rw [← e] at q
  refine s_ret (T := T) (er_all (er_lcM (F := rpN) (RB := fun b => rpV (.bl b)) (fun x => b.contains x) (es_tupT (er_var (rpT a) rfl hv)) (by omega) (fun _ => rfl) fun x y H1 hm e hx => ?_)) q
  cases (show y = V.int x from hx)
  exact er_inT (er_v rfl) (er_var (rpT b) rfl (Mn.mono e hw))
theorem ok_unlike_pair {f : Addr} {fd : FuncData} (F : Fun K "unlike_pair" "unlike_pair" (topS 23) f fd) (m : mg "unlike_pair" = some (.ref f)) (N : Nm mg) (TM : TabM P w K mg base T C) (GP : Has P w K mg base 1 "picked" ["row", "places"] (Pm T 2 prPicked)) :
    Has P w K mg base 4 "unlike_pair" ["table", "places", "others"] (Pm T 3 (prUnlikePair C)) := by
  refine Has.of F m (F.binds fun _ _ _ _ _ _ us hl => match us, hl with | [_, _, _], _ => rfl) (F.ok scUnlikePair (fun vs H Q E h => h.1) (fun cdv A outer s H vs Q E hr h => ?_))
  obtain ⟨_, R, ⟨v, vS, vU, rows, n, S, U, rfl, hv, G, hS, hU, cS, cU, rfl⟩, q⟩ := h
  obtain ⟨f1, fd1, G1, m1, k1, b1⟩ := GP
  obtain ⟨fl, fdl, Ll, Il, Gl, bl⟩ := TM.ln
  have nd := scUnlikePair.nd
  refine ⟨_, pss_cons (ps_for PassesOwn.never rfl (pi_range1 (by rfl) N.range (pa_cons (pe_callB (call_lenO Ll Il Gl (hr.mono (by decide)) bl) (by rfl) N.len (by decide +kernel) (pa_cons (pv 0) pa_nil)) pa_nil)) (pg_name (i := 3) nd rfl (Or.inl rfl))
      (pss_one (ps_for PassesOwn.never rfl (pi_range2 (by rfl) N.range (pa_cons (pe_op op_add (pv 3) pe_int) (pa_cons (pe_callB (call_lenO Ll Il Gl (hr.mono (by decide)) bl) (by rfl) N.len (by decide +kernel) (pa_cons (pv 0) pa_nil)) pa_nil))) (pg_name (i := 4) nd rfl (Or.inl rfl))
        (pss_cons (ps_par (i := 5) (j := 6) (by rfl) nd rfl rfl (by decide) rfl rfl (pa_cons (pe_ix ix_tup (pe_fld (pv 0) rfl) (pv 3) (fun _ _ => rfl)) (pa_cons (pe_ix ix_tup (pe_fld (pv 0) rfl) (pv 4) (fun _ _ => rfl)) pa_nil)) (by rfl))
        (pss_one (ps_if (PW.pt (pw_and (pt_cmpR (op_eqD hr.units) (pe_call G1 (hr.mono (by decide)) (by rfl) m1 k1 b1 .nil pass0 (pa_cons (pv 5) (pa_cons (pv 1) pa_nil))) (pe_call G1 (hr.mono (by decide)) (by rfl) m1 k1 b1 .nil pass0 (pa_cons (pv 6) (pa_cons (pv 1) pa_nil))) (nomark _))
            (pw_and1 (pt_cmpR (op_neD hr.units) (pe_call G1 (hr.mono (by decide)) (by rfl) m1 k1 b1 .nil pass0 (pa_cons (pv 5) (pa_cons (pv 2) pa_nil))) (pe_call G1 (hr.mono (by decide)) (by rfl) m1 k1 b1 .nil pass0 (pa_cons (pv 6) (pa_cons (pv 2) pa_nil))) (nomark _)))))
          (pss_one (ps_ret (pe_tup (pa_cons (pv 3) (pa_cons (pv 4) pa_nil))))) pss_nil))))))
    (pss_one (ps_ret pe_non)), ?_⟩
  refine of_start (σ := [some v, some vS, some vU, none, none, none, none]) rfl ?_
  have hlen := G.few
  let okP : Nat → Nat → Prop := fun a b => ∀ r r', rows[a]? = some r → rows[b]? = some r' → pick r S = pick r' S → pick r U = pick r' U
  have pk : ∀ {σ : L2.St} {H1 : Hp} {i j : Nat} {r L : List Int} {vr vL : V}, r ∈ rows → Cols L n → rpT r H1 vr → rpT L H1 vL → σ[i]? = some (some vr) → σ[j]? = some (some vL) → Er T (tCall (Pm T 2 prPicked) [] E0 (tCons (tVar i) (tCons (tVar j) tNil))) σ H1 (rpT (pick r L)) := fun hm hc h1 h2 e1 e2 =>
    er_call (ea_2 (er_var _ e1 h1) (er_var _ e2 h2)) fun H2 vs _ ⟨a, b, e3, e4, e5⟩ => ⟨by rw [e3]; rfl, _, _, a, b, e3, e4, e5, by rw [G.len _ hm]; exact hc, rfl⟩
  refine q_forE (T := T) (es_rng1 (n := rows.length) (by omega) ((ea_1 (er_lenTab (er_var (rpTab C rows) rfl hv) hlen)).imp fun H1 vs _ ⟨a, e1, e2⟩ => by rw [e1, show a = V.int _ from e2])) (fun i σ' _ => (∃ a b c d, σ' = [some v, some vS, some vU, a, b, c, d]) ∧ ∀ a, a < i → ∀ b, a < b → okP a b)
    (fun _ _ => ⟨⟨none, none, none, none, rfl⟩, fun a ha => absurd ha (Nat.not_lt_zero _)⟩) (fun H3 e3 i x σ1 Ha Hb hi ea I eb hx => ?_) (fun σ' H' e3 I => ?_)
  · obtain ⟨⟨z1, z2, z3, z4, rfl⟩, I⟩ := I
    cases (show x = V.int (i : Int) from hx)
    have e0 := (e3.trans ea).trans eb
    refine s_forE (T := T) (es_rng2 (lo := (i : Int) + 1) (hi := (rows.length : Int)) (by omega) ((ea_2 (er_N0 (g := fun i j => .int (i + j)) (i := (i : Int)) (j := 1) (er_v rfl) er_c) (er_lenTab (er_var (rpTab C rows) rfl (Mn.mono e0 hv)) hlen)).imp fun H1 vs _ ⟨a, b, e1, e2, e4⟩ => by rw [e1, show a = V.int _ from e2, show b = V.int _ from e4]))
      (fun k σ' _ => (∃ b c d, σ' = [some v, some vS, some vU, some (.int (i : Int)), b, c, d]) ∧ ∀ b, i < b → b < i + 1 + k → okP i b) (fun _ _ => ⟨⟨z2, z3, z4, rfl⟩, fun b h1 h2 => by omega⟩) (fun H5 e5 k x σ1 Hc Hd hk ec I' ed hx => ?_) (fun σ' H' e5 I' => ?_)
    · obtain ⟨⟨z2, z3, z4, rfl⟩, I'⟩ := I'
      cases (show x = V.int ((i : Int) + 1 + (k : Int)) from hx)
      have e7 := ((e0.trans e5).trans ec).trans ed
      have hj : i + 1 + k < rows.length := by omega
      obtain ⟨r, hr1⟩ : ∃ r, rows[i]? = some r := ⟨_, List.getElem?_eq_getElem hi⟩
      obtain ⟨r', hr2⟩ : ∃ r', rows[i + 1 + k]? = some r' := ⟨_, List.getElem?_eq_getElem hj⟩
      have hm1 := List.mem_of_getElem? hr1
      have hm2 := List.mem_of_getElem? hr2
      refine q_par (T := T) (ea_2 (er_ixU (e := r) (k := i) (er_rows TM.toTabC (er_var (rpTab C rows) rfl (Mn.mono e7 hv))) (er_v rfl) rfl hr1) (er_ixU (e := r') (k := i + 1 + k) (er_rows TM.toTabC (er_var (rpTab C rows) rfl (Mn.mono e7 hv))) (er_v rfl) (by omega) hr2)) fun vs H8 e8 ⟨a, b, e9, ha, hb⟩ => ⟨a, b, e9, ?_⟩
      have e10 := e7.trans e8
      refine s_if (T := T) (et_andB (a := decide (pick r S = pick r' S)) (b := !decide (pick r U = pick r' U)) (et_test (er_b (er_eqT (pk hm1 cS ha (Mn.mono e10 hS) rfl rfl) (pk hm2 cS hb (Mn.mono e10 hS) rfl rfl)))) fun _ => et_test (er_b (er_neT (pk hm1 cU ha (Mn.mono e10 hU) rfl rfl) (pk hm2 cU hb (Mn.mono e10 hU) rfl rfl)))) (fun hb H11 e11 => ?_) (fun hb H11 e11 => ?_)
      · have hb' : pick r S = pick r' S ∧ ¬ pick r U = pick r' U := by simpa using hb.symm
        refine s_ret (T := T) (er_tupI (ns := [(i : Int), ((i + 1 + k : Nat) : Int)]) ((ea_2 (RA := rpN (i : Int)) (RB := rpN ((i : Int) + 1 + (k : Int))) (er_v rfl) (er_v rfl)).imp fun H1 vs _ ⟨a, b, e12, e13, e14⟩ => by rw [e12, show a = V.int _ from e13, show b = V.int _ from e14]; rfl) (by show 2 ≤ 100000; decide)) fun u H12 e12 hu => q u H12 ((e10.trans e11).trans e12) ?_
        exact .inr ⟨i, i + 1 + k, hu, r, r', hr1, hr2, hb'.1, hb'.2⟩
      · refine ⟨((ec.trans ed).trans e8).trans e11, ⟨_, _, _, rfl⟩, fun b h1 h2 => ?_⟩
        by_cases h3 : b < i + 1 + k
        · exact I' b h1 h3
        · have h4 : b = i + 1 + k := by omega
          subst h4
          intro r1 r2 q1 q2 q3
          rw [hr1] at q1
          rw [hr2] at q2
          cases q1
          cases q2
          have hb' : pick r S = pick r' S → pick r U = pick r' U := by simpa using hb.symm
          exact hb' q3
    · obtain ⟨⟨z2, z3, z4, rfl⟩, I'⟩ := I'
      refine ⟨(ea.trans eb).trans e5, ⟨_, _, _, _, rfl⟩, fun a ha b hb => ?_⟩
      by_cases h : a < i
      · exact I a h b hb
      · have h2 : a = i := by omega
        subst h2
        by_cases h3 : b < rows.length
        · exact I' b hb (by omega)
        · intro r r' q1 q2
          rw [List.getElem?_eq_none (by omega)] at q2
          cases q2
  · obtain ⟨⟨z1, z2, z3, z4, rfl⟩, I⟩ := I
    refine s_ret (T := T) er_c fun u H12 e12 hu => q u H12 (e3.trans e12) (.inl ⟨hu, fun r hr1 r' hr2 he => ?_⟩)
    obtain ⟨a, ha⟩ := List.getElem?_of_mem hr1
    obtain ⟨b, hb⟩ := List.getElem?_of_mem hr2
    have h1 : a < rows.length := (List.getElem?_eq_some_iff.mp ha).1
    have h2 : b < rows.length := (List.getElem?_eq_some_iff.mp hb).1
    rcases Nat.lt_trichotomy a b with h | h | h
    · exact I a h1 b h r r' ha hb he
    · subst h
      rw [ha] at hb
      cases hb
      rfl
    · exact (I b h2 a h r' r hb ha he.symm).symm
end
end K8
set_option maxHeartbeats 4000000
namespace K8
open PySem L2
theorem told_no {rows : List (List Int)} {S U : List Int} {i j : Nat} (h : Unlike rows S U i j) : told rows S U = false := by
  obtain ⟨r, r', h1, h2, h3, h4⟩ := h
  exact decide_eq_false fun q => h4 (q r (List.mem_of_getElem? h1) r' (List.mem_of_getElem? h2) h3)
/-- two rows against a set of columns: as the program asks it -/
def isUnlike (rows : List (List Int)) (S : List Int) (i j : Int) : Bool :=
  ((isNumL i rows.length) && (isNumL j rows.length)) && (decide (pick (rows.getD i.toNat []) S = pick (rows.getD j.toNat []) S) && !decide (rows.getD i.toNat [] = rows.getD j.toNat []))
where isNumL (i : Int) (n : Nat) : Bool := decide (0 ≤ i) && decide (i < n)
def leastOf (good : List (List Int)) : List (List Int) := good.filter fun s => !(((good.filter fun o => !decide (o = s)).map fun o => within o s).any id)
def prTellBoth (C : Addr) : List V → Hp → Rp → Prop := fun vs H R => ∃ v rows n, ∃ a b : Int, vs = [v, .int a, .int b] ∧ rpTab C rows H v ∧ Good rows n ∧ Cols [a] n ∧ Cols [b] n ∧ R = rpV (.bl (told rows [a] [b] && told rows [b] [a]))
def prNeverMore (C : Addr) : List V → Hp → Rp → Prop := fun vs H R => ∃ v rows n, ∃ a b : Int, vs = [v, .int a, .int b] ∧ rpTab C rows H v ∧ Good rows n ∧ (0 ≤ a ∧ a < n) ∧ (0 ≤ b ∧ b < n) ∧ R = rpV (.bl (told rows [b] [a]))
def prIsUnlike (C : Addr) : List V → Hp → Rp → Prop := fun vs H R => ∃ v vS vp rows n S, ∃ i j : Int, vs = [v, vS, vp] ∧ rpTab C rows H v ∧ Good rows n ∧ rpT S H vS ∧ Cols S n ∧ rpT [i, j] H vp ∧ R = rpV (.bl (isUnlike rows S i j))
def prLeastOf : List V → Hp → Rp → Prop := fun vs H R => ∃ v good, vs = [v] ∧ rpL rpT good H v ∧ good.length ≤ 100 ∧ (∀ s ∈ good, s.length ≤ 100) ∧ R = rpL rpT (leastOf good)
theorem scTellBoth : FnScope ["table", "one", "other"] ["table", "one", "other"] (defScope (topS 31)) := ⟨rfl, rfl, rfl, by decide +kernel, rfl, by decide +kernel, by decide +kernel⟩
theorem scNeverMore : FnScope ["table", "one", "other"] ["table", "one", "other"] (defScope (topS 33)) := ⟨rfl, rfl, rfl, by decide +kernel, rfl, by decide +kernel, by decide +kernel⟩
theorem scIsUnlike : FnScope ["table", "places", "pair", "mine", "theirs", "index"] ["table", "places", "pair"] (defScope (topS 27)) := ⟨rfl, rfl, rfl, by decide +kernel, rfl, by decide +kernel, by decide +kernel⟩
theorem scLeastOf : FnScope ["good", "some", "one"] ["good"] (defScope (topS 24)) := ⟨rfl, rfl, rfl, by decide +kernel, rfl, by decide +kernel, by decide +kernel⟩
section
variable {P : Program} {w : World} {K : PySem.W.Frag} {mg : Str → Option Value} {base : Heap} {T : Tb} {σ : L2.St} {H : Hp} {te ta tb tc : TE} {C : Addr} {rows : List (List Int)} {n : Nat}
theorem er_isNone {S U : List Int} (h : Er T te σ H (rpUnlike rows S U)) : Er T (tIsN te) σ H (rpV (.bl (told rows S U))) := fun H1 e Q q =>
  h H1 e _ fun v H2 e2 hv => q _ H2 e2 (by
    rcases hv with ⟨h1, h2⟩ | ⟨i, j, ⟨a, h1, _⟩, h2⟩
    · rw [h1, show told rows S U = true from decide_eq_true h2]
      rfl
    · rw [h1, told_no h2]
      rfl)
/-- a pair of names, each in a tuple of its own -/
theorem er_one {i : Nat} {a : Int} (h : σ[i]? = some (some (.int a))) : Er T (tTup (tCons (tVar i) tNil)) σ H (rpT [a]) :=
  er_tupI ((ea_1 (er_v h)).imp fun _ vs _ ⟨v, e1, e2⟩ => by rw [e1, show v = V.int a from e2]; rfl) (by show 1 ≤ 100000; decide)
theorem er_unlike {ta tb tc : TE} {S U : List Int} (h : Er T ta σ H (rpTab C rows)) (G : Good rows n) (hS : Er T tb σ H (rpT S)) (hU : Er T tc σ H (rpT U)) (cS : Cols S n) (cU : Cols U n) : Er T (tCall (Pm T 3 (prUnlikePair C)) [] E0 (tCons ta (tCons tb (tCons tc tNil)))) σ H (rpUnlike rows S U) :=
  er_call (ea_3 h hS hU) fun H1 vs _ ⟨a, b, c, e1, e2, e3, e4⟩ => ⟨by rw [e1]; rfl, a, b, c, rows, n, S, U, e1, e2, G, e3, e4, cS, cU, rfl⟩
theorem cols1 {a : Int} (h : 0 ≤ a ∧ a < n) : Cols [a] n := ⟨fun p hp => by
  obtain rfl := List.mem_singleton.mp hp
  exact h, by show 1 ≤ 100; decide⟩
theorem ok_tell_both {f : Addr} {fd : FuncData} (F : Fun K "tell_both" "tell_both" (topS 31) f fd) (m : mg "tell_both" = some (.ref f)) (GU : Has P w K mg base 4 "unlike_pair" ["table", "places", "others"] (Pm T 3 (prUnlikePair C))) :
    Has P w K mg base 5 "tell_both" ["table", "one", "other"] (Pm T 3 (prTellBoth C)) := by
  refine Has.of F m (F.binds fun _ _ _ _ _ _ us hl => match us, hl with | [_, _, _], _ => rfl) (F.ok scTellBoth (fun vs H Q E h => h.1) (fun cdv A outer s H vs Q E hr h => ?_))
  obtain ⟨_, R, ⟨v, rows, n, a, b, rfl, hv, G, ca, cb, rfl⟩, q⟩ := h
  obtain ⟨f1, fd1, G1, m1, k1, b1⟩ := GU
  refine ⟨_, pss_one (ps_ret (pe_and (pe_cmp (pc_isN (pe_call G1 (hr.mono (by decide)) (by rfl) m1 k1 b1 .nil pass0 (pa_cons (pv 0) (pa_cons (pe_tup (pa_cons (pv 1) pa_nil)) (pa_cons (pe_tup (pa_cons (pv 2) pa_nil)) pa_nil))))) (nomark _))
    (pe_one (pe_cmp (pc_isN (pe_call G1 (hr.mono (by decide)) (by rfl) m1 k1 b1 .nil pass0 (pa_cons (pv 0) (pa_cons (pe_tup (pa_cons (pv 2) pa_nil)) (pa_cons (pe_tup (pa_cons (pv 1) pa_nil)) pa_nil))))) (nomark _))))), ?_⟩
  refine of_start (σ := [some v, some (.int a), some (.int b)]) rfl ?_
  exact s_ret (T := T) (er_andV (er_isNone (er_unlike (er_var (rpTab C rows) rfl hv) G (er_one rfl) (er_one rfl) ca cb)) fun _ => er_isNone (er_unlike (er_var (rpTab C rows) rfl hv) G (er_one rfl) (er_one rfl) cb ca)) q
theorem ok_never_more {f : Addr} {fd : FuncData} (F : Fun K "never_more" "never_more" (topS 33) f fd) (m : mg "never_more" = some (.ref f)) (GU : Has P w K mg base 4 "unlike_pair" ["table", "places", "others"] (Pm T 3 (prUnlikePair C))) (GT : Has P w K mg base 1 "check_table" ["table"] (Pm T 1 (prCheckTable C)))
    (GC : Has P w K mg base 3 "check_column" ["table", "place"] (Pm T 2 (prCheckColumn C))) : Has P w K mg base 5 "never_more" ["table", "one", "other"] (Pm T 3 (prNeverMore C)) := by
  refine Has.of F m (F.binds fun _ _ _ _ _ _ us hl => match us, hl with | [_, _, _], _ => rfl) (F.ok scNeverMore (fun vs H Q E h => h.1) (fun cdv A outer s H vs Q E hr h => ?_))
  obtain ⟨_, R, ⟨v, rows, n, a, b, rfl, hv, G, ca, cb, rfl⟩, q⟩ := h
  obtain ⟨f1, fd1, G1, m1, k1, b1⟩ := GU
  obtain ⟨f2, fd2, G2, m2, k2, b2⟩ := GT
  obtain ⟨f3, fd3, G3, m3, k3, b3⟩ := GC
  refine ⟨_, pss_cons (ps_expr (pe_call G2 (hr.mono (by decide)) (by rfl) m2 k2 b2 .nil pass0 (pa_cons (pv 0) pa_nil)))
    (pss_cons (ps_expr (pe_call G3 (hr.mono (by decide)) (by rfl) m3 k3 b3 .nil pass0 (pa_cons (pv 0) (pa_cons (pv 1) pa_nil))))
    (pss_cons (ps_expr (pe_call G3 (hr.mono (by decide)) (by rfl) m3 k3 b3 .nil pass0 (pa_cons (pv 0) (pa_cons (pv 2) pa_nil))))
    (pss_one (ps_ret (pe_cmp (pc_isN (pe_call G1 (hr.mono (by decide)) (by rfl) m1 k1 b1 .nil pass0 (pa_cons (pv 0) (pa_cons (pe_tup (pa_cons (pv 2) pa_nil)) (pa_cons (pe_tup (pa_cons (pv 1) pa_nil)) pa_nil))))) (nomark _)))))), ?_⟩
  refine of_start (σ := [some v, some (.int a), some (.int b)]) rfl ?_
  refine q_drop (T := T) (R := rpV .non) (er_call (ea_1 (er_var (rpTab C rows) rfl hv)) fun H1 vs _ ⟨x, e1, e2⟩ => ⟨by rw [e1]; rfl, x, rows, e1, e2, rfl⟩) fun _ H1 e1 _ => ?_
  refine q_drop (T := T) (R := rpV .non) (er_call (ea_2 (RB := rpN a) (er_var (rpTab C rows) rfl (Mn.mono e1 hv)) (er_v rfl)) fun H1 vs _ ⟨x, y, e1, e2, e3⟩ => ⟨by rw [e1]; rfl, x, rows, n, a, by rw [e1, show y = V.int a from e3], e2, G, ca.1, ca.2, rfl⟩) fun _ H2 e2 _ => ?_
  refine q_drop (T := T) (R := rpV .non) (er_call (ea_2 (RB := rpN b) (er_var (rpTab C rows) rfl (Mn.mono (e1.trans e2) hv)) (er_v rfl)) fun H1 vs _ ⟨x, y, e1, e2, e3⟩ => ⟨by rw [e1]; rfl, x, rows, n, b, by rw [e1, show y = V.int b from e3], e2, G, cb.1, cb.2, rfl⟩) fun _ H3 e3 _ => ?_
  have e4 := (e1.trans e2).trans e3
  exact s_ret (T := T) (er_isNone (er_unlike (er_var (rpTab C rows) rfl (Mn.mono e4 hv)) G (er_one rfl) (er_one rfl) (cols1 cb) (cols1 ca))) fun u H5 e5 hu => q u H5 (e4.trans e5) hu
theorem ok_least_of {f : Addr} {fd : FuncData} (F : Fun K "least_of" "least_of" (topS 24) f fd) (m : mg "least_of" = some (.ref f)) (N : Nm mg) (GW : Has P w K mg base 1 "is_within" ["one", "other"] (Pm T 2 prWithin)) : Has P w K mg base 2 "least_of" ["good"] (Pm T 1 prLeastOf) := by
  refine Has.of F m (F.binds fun _ _ _ _ _ _ us hl => match us, hl with | [_], _ => rfl) (F.ok scLeastOf (fun vs H Q E h => h.1) (fun cdv A outer s H vs Q E hr h => ?_))
  obtain ⟨_, R, ⟨v, good, rfl, hv, hl, hs, rfl⟩, q⟩ := h
  obtain ⟨f1, fd1, G1, m1, k1, b1⟩ := GW
  have nd := scLeastOf.nd
  refine ⟨_, pss_one (ps_ret (pe_lc (own := [("some", 1)]) (g := gName 1) rfl nd (pi_list (pv 0)) (blkOk_by (N := ["good", "some", "one"]) (sc := defScope (topS 24)) (by decide +kernel))
    (fun _ _ _ _ _ => pg_name (i := 1) nd rfl (Or.inr rfl)) (fun _ _ _ _ _ => pts_one (pt_not (pt_val (pe_callB (r := rAny K) (cr_any rfl) (by rfl) N.any (by decide +kernel) (pa_cons
      (pe_lc (own := [("one", 2)]) (g := gName 2) rfl nd (pi_listK K (pv 0)) (blkOk_by (N := ["good", "some", "one"]) (sc := lcS [(".0", .local), ("some", .cell), ("any", .globalImplicit), ("good", .cell)]) (by decide +kernel)) (fun _ _ _ _ _ => pg_name (i := 2) nd rfl (Or.inl rfl))
        (fun _ _ _ _ _ => pts_one (pt_cmpR (r := rNeD K) (op_neD hr.units) (pv 2) (pv 1) (nomark _))) (fun _ _ _ _ _ => pe_call G1 hr (by rfl) m1 k1 b1 .nil pass0 (pa_cons (pv 2) (pa_cons (pv 1) pa_nil)))) pa_nil))))) (fun _ _ _ _ _ => pv 1))), ?_⟩
  refine of_start (σ := [some v, none, none]) rfl ?_
  refine s_ret (T := T) ((er_lcF (F := rpT) (RB := rpT) (fun s => !(((good.filter fun o => !decide (o = s)).map fun o => within o s).any id)) id (es_list (F := rpT) (er_var (rpL rpT good) rfl hv)) (by omega) (fun _ => rfl) fun s x H1 hm e hx => ⟨?_, fun _ => er_var (rpT s) rfl hx⟩).imp fun H1 u _ hu => ?_) q
  · refine et_notB (et_B (er_b (er_any (er_lcF (F := rpT) (RB := fun b => rpV (.bl b)) (fun o => !decide (o = s)) (fun o => within o s) (es_list (F := rpT) (er_var (rpL rpT good) rfl (Mn.mono e hv))) (by omega) (fun _ => rfl) fun o y H2 hm2 e2 hy => ⟨?_, fun _ => ?_⟩))))
    · exact et_test (er_b (er_neT (er_var (rpT o) rfl hy) (er_var (rpT s) rfl (Mn.mono e2 hx))))
    · exact er_call (ea_2 (er_var (rpT o) rfl hy) (er_var (rpT s) rfl (Mn.mono e2 hx))) fun H3 vs _ ⟨a, b, e3, e4, e5⟩ => ⟨by rw [e3]; rfl, o, s, a, b, e3, e4, e5, hs o hm2, rfl⟩
  · rw [List.map_id] at hu
    exact hu
theorem ok_is_unlike {f : Addr} {fd : FuncData} (F : Fun K "is_unlike" "is_unlike" (topS 27) f fd) (m : mg "is_unlike" = some (.ref f)) (N : Nm mg) (TM : TabM P w K mg base T C) (GP : Has P w K mg base 1 "picked" ["row", "places"] (Pm T 2 prPicked)) :
    Has P w K mg base 4 "is_unlike" ["table", "places", "pair"] (Pm T 3 (prIsUnlike C)) := by
  refine Has.of F m (F.binds fun _ _ _ _ _ _ us hl => match us, hl with | [_, _, _], _ => rfl) (F.ok scIsUnlike (fun vs H Q E h => h.1) (fun cdv A outer s H vs Q E hr h => ?_))
  obtain ⟨_, R, ⟨v, vS, vp, rows, n, S, i, j, rfl, hv, G, hS, cS, hp, rfl⟩, q⟩ := h
  obtain ⟨f1, fd1, G1, m1, k1, b1⟩ := GP
  obtain ⟨fl, fdl, Ll, Il, Gl, bl⟩ := TM.ln
  have nd := scIsUnlike.nd
  refine ⟨_, pss_cons (ps_if (pt_not (pt_val (pe_callB (cr_all rfl) (by rfl) N.all (by decide +kernel) (pa_cons (pe_lc (own := [("index", 5)]) (g := gName 5) (tt := tYes) rfl nd (pi_tup (pv 2)) (blkOk_by (N := ["table", "places", "pair", "mine", "theirs", "index"]) (sc := defScope (topS 27)) (by decide +kernel))
      (fun _ _ _ _ _ => pg_name (i := 5) nd rfl (Or.inl rfl)) (fun _ _ _ _ _ => pts_nil) (fun _ _ _ _ _ => pe_chain op_le op_lt pe_int (pv 5) (pe_callB (r := rLenO C (Pm T 1 (prLen C))) (call_lenO Ll Il Gl (hr.mono (by decide)) bl) (by rfl) N.len (by decide +kernel) (pa_cons (pv 0) pa_nil)))) pa_nil)))) (pss_one (ps_ret pe_bl)) pss_nil)
    (pss_cons (ps_par (i := 3) (j := 4) (by rfl) nd rfl rfl (by decide) rfl rfl (pa_cons (pe_ix ix_tup (pe_fld (pv 0) rfl) (pe_ix ix_tup (pv 2) pe_int (fun _ _ => rfl)) (fun _ _ => rfl)) (pa_cons (pe_ix ix_tup (pe_fld (pv 0) rfl) (pe_ix ix_tup (pv 2) pe_int (fun _ _ => rfl)) (fun _ _ => rfl)) pa_nil)) (by rfl))
    (pss_one (ps_ret (pe_and (pe_cmpR (op_eqD hr.units) (pe_call G1 (hr.mono (by decide)) (by rfl) m1 k1 b1 .nil pass0 (pa_cons (pv 3) (pa_cons (pv 1) pa_nil))) (pe_call G1 (hr.mono (by decide)) (by rfl) m1 k1 b1 .nil pass0 (pa_cons (pv 4) (pa_cons (pv 1) pa_nil))) (nomark _))
      (pe_one (pe_cmpR (op_neD hr.units) (pv 3) (pv 4) (nomark _))))))), ?_⟩
  refine of_start (σ := [some v, some vS, some vp, none, none, none]) rfl ?_
  have hlen := G.few
  refine q_when (T := T) (et_notB (et_B (er_b (er_all (er_lcM (F := rpN) (RB := fun b => rpV (.bl b)) (fun x => isUnlike.isNumL x rows.length) (es_tupT (er_var (rpT [i, j]) rfl hp)) (by show 2 ≤ 40000; decide) (fun _ => rfl) fun x y H1 hm e hx => ?_))))) (fun e H1 e1 => ?_) (fun e H1 e1 => ?_)
  · cases (show y = V.int x from hx)
    exact er_chain (g := fun i j => decide (i ≤ j)) (g' := fun i j => decide (i < j)) er_c (er_v rfl) (er_lenTab (er_var (rpTab C rows) rfl (Mn.mono e hv)) hlen)
  · refine s_ret (T := T) er_c fun u H2 e2 hu => q u H2 (e1.trans e2) ?_
    have e3 : (isUnlike.isNumL i rows.length && isUnlike.isNumL j rows.length) = false := by
      have e' : (!(isUnlike.isNumL i rows.length && (isUnlike.isNumL j rows.length && true))) = true := e.symm
      rw [Bool.and_true] at e'
      cases h : (isUnlike.isNumL i rows.length && isUnlike.isNumL j rows.length) with
      | false => rfl
      | true =>
        rw [h] at e'
        cases e'
    unfold isUnlike
    rw [e3]
    exact hu
  · have e3 : (isUnlike.isNumL i rows.length && isUnlike.isNumL j rows.length) = true := by
      have e' : (!(isUnlike.isNumL i rows.length && (isUnlike.isNumL j rows.length && true))) = false := e.symm
      rw [Bool.and_true] at e'
      simpa using e'
    have hij : (0 ≤ i ∧ i < rows.length) ∧ (0 ≤ j ∧ j < rows.length) := by
      have e4 := e3
      unfold isUnlike.isNumL at e4
      simpa using e4
    have hi : i.toNat < rows.length := by omega
    have hj : j.toNat < rows.length := by omega
    have gi : rows[i.toNat]? = some (rows.getD i.toNat []) := by rw [List.getD_eq_getElem?_getD, List.getElem?_eq_getElem hi]; rfl
    have gj : rows[j.toNat]? = some (rows.getD j.toNat []) := by rw [List.getD_eq_getElem?_getD, List.getElem?_eq_getElem hj]; rfl
    have tabR : Er T (tFld K (tVar 0) "rows") [some v, some vS, some vp, none, none, none] H1 (rpU rpT rows) := er_rows TM.toTabC (er_var (rpTab C rows) rfl (Mn.mono e1 hv))
    have pairE : Er T (tVar 2) [some v, some vS, some vp, none, none, none] H1 (rpT [i, j]) := er_var (rpT [i, j]) rfl (Mn.mono e1 hp)
    refine q_par (T := T) (ea_2 (er_ixU tabR (er_ixT (k := 0) (n := i) pairE er_c rfl rfl) (by omega) gi) (er_ixU tabR (er_ixT (k := 1) (n := j) pairE er_c rfl rfl) (by omega) gj)) fun vs H2 e2 ⟨a, b, e4, ha, hb⟩ => ⟨a, b, e4, ?_⟩
    have e5 := e1.trans e2
    have pk : ∀ {k : Nat} {r : List Int} {vr : V}, r ∈ rows → rpT r H2 vr → ([some v, some vS, some vp, some a, some b, none] : L2.St)[k]? = some (some vr) → Er T (tCall (Pm T 2 prPicked) [] E0 (tCons (tVar k) (tCons (tVar 1) tNil))) [some v, some vS, some vp, some a, some b, none] H2 (rpT (pick r S)) := fun hm h1 e6 =>
      er_call (ea_2 (er_var _ e6 h1) (er_var (rpT S) rfl (Mn.mono e5 hS))) fun H3 vs _ ⟨a, b, e7, e8, e9⟩ => ⟨by rw [e7]; rfl, _, _, a, b, e7, e8, e9, by rw [G.len _ hm]; exact cS, rfl⟩
    refine s_ret (T := T) (er_andV (er_eqT (pk (List.mem_of_getElem? gi) ha rfl) (pk (List.mem_of_getElem? gj) hb rfl)) fun _ => er_neT (er_var _ rfl ha) (er_var _ rfl hb)) fun u H3 e6 hu => q u H3 (e5.trans e6) ?_
    unfold isUnlike
    rw [e3, Bool.true_and]
    exact hu
end
end K8
set_option maxHeartbeats 4000000
namespace K8
open PySem L2
def both (rows : List (List Int)) (a b : Int) : Bool := told rows [a] [b] && told rows [b] [a]
/-- the groups whose first column is kin to a column -/
def mineIx (rows : List (List Int)) (gs : List (List Int)) (p : Int) : List Int := ((List.range gs.length).filter fun i => both rows ((gs.getD i []).headD 0) p).map fun i : Nat => (i : Int)
def kinStep (rows : List (List Int)) (gs : List (List Int)) (p : Int) : List (List Int) := match mineIx rows gs p with
  | [] => gs ++ [[p]]
  | k :: _ => gs.set k.toNat (gs.getD k.toNat [] ++ [p])
def kinTo (rows : List (List Int)) : Nat → List (List Int)
  | 0 => []
  | i + 1 => kinStep rows (kinTo rows i) (i : Int)
theorem mem_set_or {α : Type} : ∀ {l : List α} {i : Nat} {x y : α}, y ∈ l.set i x → y = x ∨ y ∈ l
  | [], i, x, y, h => by simp at h
  | a :: l, 0, x, y, h => by
    rcases List.mem_cons.mp h with h | h
    · exact .inl h
    · exact .inr (List.mem_cons_of_mem _ h)
  | a :: l, i + 1, x, y, h => by
    rcases List.mem_cons.mp h with h | h
    · exact .inr (by rw [h]; exact List.mem_cons_self)
    · exact (mem_set_or h).elim .inl fun h => .inr (List.mem_cons_of_mem _ h)
theorem mine_lt {rows gs : List (List Int)} {p k : Int} (h : k ∈ mineIx rows gs p) : ∃ j : Nat, k = (j : Int) ∧ j < gs.length ∧ both rows ((gs.getD j []).headD 0) p = true := by
  unfold mineIx at h
  obtain ⟨j, h1, h2⟩ := List.mem_map.mp h
  obtain ⟨h3, h4⟩ := List.mem_filter.mp h1
  exact ⟨j, h2.symm, List.mem_range.mp h3, h4⟩
/-- groups of columns below n -/
structure Gps (gs : List (List Int)) (n : Nat) : Prop where
  ne : ∀ g ∈ gs, g ≠ []
  col : ∀ g ∈ gs, ∀ c ∈ g, 0 ≤ c ∧ c < n
  few : gs.length ≤ n
  len : ∀ g ∈ gs, g.length ≤ n
theorem gps_step {rows gs : List (List Int)} {n : Nat} (g : Gps gs n) : Gps (kinStep rows gs n) (n + 1) := by
  unfold kinStep
  have up : ∀ g' ∈ gs, ∀ c ∈ g', 0 ≤ c ∧ c < ((n + 1 : Nat) : Int) := fun g' hg c hc => by
    have := g.col g' hg c hc
    omega
  cases hm : mineIx rows gs n with
  | nil =>
    refine ⟨fun g' h => ?_, fun g' h c hc => ?_, ?_, fun g' h => ?_⟩
    · rcases List.mem_append.mp h with h | h
      · exact g.ne g' h
      · rw [List.mem_singleton.mp h]
        exact List.cons_ne_nil _ _
    · rcases List.mem_append.mp h with h | h
      · exact up g' h c hc
      · rw [List.mem_singleton.mp h] at hc
        rw [List.mem_singleton.mp hc]
        omega
    · rw [List.length_append]
      have := g.few
      show gs.length + 1 ≤ n + 1
      omega
    · rcases List.mem_append.mp h with h | h
      · have := g.len g' h
        omega
      · rw [List.mem_singleton.mp h]
        show 1 ≤ n + 1
        omega
  | cons k r =>
    obtain ⟨j, e, hj, _⟩ := mine_lt (show k ∈ mineIx rows gs n by rw [hm]; exact List.mem_cons_self)
    subst e
    show Gps (gs.set ((j : Int).toNat) (gs.getD ((j : Int).toNat) [] ++ [(n : Int)])) (n + 1)
    rw [Int.toNat_natCast]
    have hmem : gs.getD j [] ∈ gs := by
      rw [List.getD_eq_getElem?_getD, List.getElem?_eq_getElem hj]
      exact List.getElem_mem hj
    refine ⟨fun g' h => ?_, fun g' h c hc => ?_, by rw [List.length_set]; have := g.few; omega, fun g' h => ?_⟩
    · rcases mem_set_or h with h | h
      · rw [h]
        simp
      · exact g.ne g' h
    · rcases mem_set_or h with h | h
      · rw [h] at hc
        rcases List.mem_append.mp hc with hc | hc
        · exact up _ hmem c hc
        · rw [List.mem_singleton.mp hc]
          omega
      · exact up g' h c hc
    · rcases mem_set_or h with h | h
      · rw [h, List.length_append]
        have := g.len _ hmem
        show _ + 1 ≤ n + 1
        omega
      · have := g.len g' h
        omega
theorem gps_to (rows : List (List Int)) : ∀ n, Gps (kinTo rows n) n
  | 0 => ⟨fun _ h => absurd h (by simp [kinTo]), fun _ h => absurd h (by simp [kinTo]), Nat.le_refl _, fun _ h => absurd h (by simp [kinTo])⟩
  | n + 1 => gps_step (gps_to rows n)
def prKin (C : Addr) : List V → Hp → Rp → Prop := fun vs H R => ∃ v rows n, vs = [v] ∧ rpTab C rows H v ∧ Good rows n ∧ R = rpL rpT (kinTo rows n)
theorem scKin : FnScope ["table", "found", "place", "mine", "at", "some"] ["table"] (defScope (topS 30)) := ⟨rfl, rfl, rfl, by decide +kernel, rfl, by decide +kernel, by decide +kernel⟩
section
variable {P : Program} {w : World} {K : PySem.W.Frag} {mg : Str → Option Value} {base : Heap} {T : Tb} {σ : L2.St} {H : Hp} {te ta tb tc : TE} {C : Addr} {rows : List (List Int)} {n : Nat}
theorem ok_kin {f : Addr} {fd : FuncData} (F : Fun K "kin" "kin" (topS 30) f fd) (m : mg "kin" = some (.ref f)) (N : Nm mg) (TM : TabM P w K mg base T C) (GT : Has P w K mg base 1 "check_table" ["table"] (Pm T 1 (prCheckTable C))) (GB : Has P w K mg base 5 "tell_both" ["table", "one", "other"] (Pm T 3 (prTellBoth C))) :
    Has P w K mg base 6 "kin" ["table"] (Pm T 1 (prKin C)) := by
  refine Has.of F m (F.binds fun _ _ _ _ _ _ us hl => match us, hl with | [_], _ => rfl) (F.ok scKin (fun vs H Q E h => h.1) (fun cdv A outer s H vs Q E hr h => ?_))
  obtain ⟨_, R, ⟨v, rows, n, rfl, hv, G, rfl⟩, q⟩ := h
  obtain ⟨f1, fd1, G1, m1, k1, b1⟩ := GT
  obtain ⟨f2, fd2, G2, m2, k2, b2⟩ := GB
  obtain ⟨pw, gw, fdw, Pw, Gw, bw⟩ := TM.wd
  have nd := scKin.nd
  refine ⟨_, pss_cons (ps_expr (pe_call G1 (hr.mono (by decide)) (by rfl) m1 k1 b1 .nil pass0 (pa_cons (pv 0) pa_nil)))
    (pss_cons (ps_set (i := 1) nd rfl (Or.inl rfl) (pe_lst pa_nil))
    (pss_cons (ps_for PassesOwn.never rfl (pi_range1 (by rfl) N.range (pa_cons (pe_prop (pv 0) TM.cl Pw Gw (hr.mono (by decide)) bw .nil pass0 rfl) pa_nil)) (pg_name (i := 2) nd rfl (Or.inr rfl))
      (pss_cons (ps_setLc (i := 3) (own := [("at", 4), ("some", 5)]) (g := gTup K 2 (gCons (gName 4) (gCons (gName 5) gNil))) (by rfl) nd rfl rfl (sw_true rfl rfl rfl (by decide +kernel)) (pi_enum (by rfl) N.enumerate (pa_cons (pv 1) pa_nil)) (blkOk_by (N := ["table", "found", "place", "mine", "at", "some"]) (sc := defScope (topS 30)) (by decide +kernel))
          (fun _ _ _ _ _ => pg_tup rfl (pgs_cons (pg_name (i := 4) nd rfl (Or.inl rfl)) (pgs_cons (pg_name (i := 5) nd rfl (Or.inl rfl)) pgs_nil))) (fun _ _ _ _ _ => pts_one (pt_val (pe_call G2 hr (by rfl) m2 k2 b2 .nil pass0 (pa_cons (pv 0) (pa_cons (pe_ix (r := rIxT K) ix_tup (pv 5) pe_int (fun _ _ => rfl)) (pa_cons (pv 2) pa_nil)))))) (fun _ _ _ _ _ => pv 4))
        (pss_one (ps_if (pt_cmpR (op_eqD hr.units) (pv 3) (pe_lst pa_nil) (nomark _)) (pss_one (ps_expr (pe_bm PySem.F.plainAttrs_list PySem.F.slot_list_append PySem.F.type_list_append mt_append (pv 1) (pa_cons (pe_tup (pa_cons (pv 2) pa_nil)) pa_nil))))
          (pss_one (ps_asg (pe_tup (StX.pa_star (pe_ix ix_list (pv 1) (pe_ix ix_list (pv 3) pe_int (fun _ _ => rfl)) (fun _ _ => rfl)) (pa_cons (pv 2) pa_nil))) (pg_sub (pv 1) (pe_ix ix_list (pv 3) pe_int (fun _ _ => rfl)) set_list)))))))
      (pss_one (ps_ret (pv 1))))), ?_⟩
  refine of_start (σ := [some v, none, none, none, none, none]) rfl ?_
  refine q_drop (T := T) (R := rpV .non) (er_call (ea_1 (er_var (rpTab C rows) rfl hv)) fun H1 vs _ ⟨x, e1, e2⟩ => ⟨by rw [e1]; rfl, x, rows, e1, e2, rfl⟩) fun _ H1 e1 _ => ?_
  refine q_newL fun p hp => ?_
  have ex0 : Xt T H1 (upd H1 p (.lst [])) := Xt.new hp
  have w4 := G.w4
  refine q_forR (T := T) (n := n) (by omega) ((ea_1 (er_width (er_var (rpTab C rows) rfl (Mn.mono (e1.trans ex0) hv)) G)).imp fun H1 vs _ ⟨a, e1, e2⟩ => by rw [e1, show a = V.int _ from e2])
    (fun i σ' H' => (∃ a b c d, σ' = [some v, some (.ref p), a, b, c, d]) ∧ Xt T H1 H' ∧ i ≤ n ∧ ∃ ys, H' p = some (.lst ys) ∧ Paired (fun y x => rpT x H' y) ys (kinTo rows i)) (fun H2 e2 => ⟨⟨none, none, none, none, rfl⟩, ex0.trans e2, Nat.zero_le _, [], e2.lst upd_same, .nil⟩) (fun i σ' H2 hi I => ?_) (fun σ' H2 I => ?_)
  · obtain ⟨⟨z1, z2, z3, z4, rfl⟩, eX, hin, ys, hys, hg⟩ := I
    have gp := gps_to rows i
    have glen := gp.few
    -- mine = [..]
    have hG : ∀ {σ : L2.St} {H3 : Hp}, Xt T H2 H3 → σ[1]? = some (some (.ref p)) → Er T (tVar 1) σ H3 (rpL rpT (kinTo rows i)) := fun e h => er_var _ h ⟨p, ys, rfl, e.lst hys, pmono e hg⟩
    refine q_asg (T := T) (R := rpL rpN (mineIx rows (kinTo rows i) i)) ?_ fun u H3 e3 hu => ?_
    · refine (er_lcG (RB := rpN) (fun k acc => acc = ((List.range k).filter fun j => both rows (((kinTo rows i).getD j []).headD 0) i).map fun j : Nat => (j : Int)) (es_enum (F := rpT) (ea_1 (hG (Xt.refl T H2) rfl))) (gm_two 4 5 2) (by omega) rfl fun j x H3 acc hj e3 hx ha => ?_).imp fun H3 u _ hu => ?_
      · obtain ⟨S, y, g, rfl, hS, hgj, hy⟩ := hx
        have hgm := List.mem_of_getElem? hgj
        obtain ⟨c0, gt, eg⟩ : ∃ c0 gt, g = c0 :: gt := by
          cases g with
          | nil => exact absurd rfl (gp.ne _ hgm)
          | cons c0 gt => exact ⟨c0, gt, rfl⟩
        have hc0 := gp.col g hgm c0 (by rw [eg]; exact List.mem_cons_self)
        have eD : (kinTo rows i).getD j [] = g := by rw [List.getD_eq_getElem?_getD, hgj]; rfl
        have eH : ((kinTo rows i).getD j []).headD 0 = c0 := by rw [eD, eg]; rfl
        refine g_two hS ⟨Xt.refl T H3, rfl, (· = both rows c0 i), et_B (er_b ?_), fun hb => ?_, fun hb => (er_v rfl).imp fun H4 u _ hu => ⟨(j : Int), ?_, hu⟩⟩
        · refine er_call (ea_3 (RB := rpN c0) (RC := rpN (i : Int)) (er_var (rpTab C rows) rfl (Mn.mono (e1.trans (eX.trans e3)) hv)) (er_ixT (k := 0) (er_var (rpT g) rfl hy) er_c rfl (by rw [eg]; rfl)) (er_v rfl)) fun H4 vs _ ⟨a, b, c, e4, e5, e6, e7⟩ => ⟨by rw [e4]; rfl, a, rows, n, c0, (i : Int), by rw [e4, show b = V.int c0 from e6, show c = V.int (i : Int) from e7], e5, G, cols1 (by omega), cols1 (by omega), rfl⟩
        · rw [List.range_succ, List.filter_append, List.map_append, ← ha, List.filter_cons_of_neg (by rw [eH, ← hb]; decide), List.filter_nil, List.map_nil, List.append_nil]
        · rw [List.range_succ, List.filter_append, List.map_append, ← ha, List.filter_cons_of_pos (by rw [eH]; exact hb.symm), List.filter_nil] <;> rfl
      · obtain ⟨acc, ha, q'⟩ := hu
        rw [ha] at q'
        exact q'
    · have eX3 := eX.trans e3
      refine s_if (T := T) (et_test (er_b (er_eqN (er_var _ rfl hu) (er_nil (F := rpN))))) (fun hb H4 e4 => ?_) (fun hb H4 e4 => ?_)
      · have hm : mineIx rows (kinTo rows i) i = [] := of_decide_eq_true hb.symm
        have hys4 := (e3.trans e4).lst hys
        refine s_app (T := T) (R := rpT [(i : Int)]) rfl hys4 (by rw [plen hg]; omega) (er_one rfl) fun u H5 e5 hu5 => ⟨⟨_, _, _, _, rfl⟩, ((eX3.trans e4).trans e5).mut hp (e5.lst hys4) True.intro, by omega, _, upd_same, ?_⟩
        have hy5 := e5.lst hys4
        show Paired _ _ (kinStep rows (kinTo rows i) i)
        unfold kinStep
        rw [hm]
        exact papp (pflat hy5 (pmono ((e3.trans e4).trans e5) hg)) (.cons (Ft.flat hu5 hy5 fun _ z => by cases z) .nil)
      · have hm : mineIx rows (kinTo rows i) i ≠ [] := of_decide_eq_false hb.symm
        obtain ⟨k, r, hk⟩ : ∃ k r, mineIx rows (kinTo rows i) i = k :: r := by
          cases h : mineIx rows (kinTo rows i) i with
          | nil => exact absurd h hm
          | cons k r => exact ⟨k, r, rfl⟩
        obtain ⟨j, ej, hj, _⟩ := mine_lt (show k ∈ mineIx rows (kinTo rows i) i by rw [hk]; exact List.mem_cons_self)
        obtain ⟨g, hg1⟩ : ∃ g, (kinTo rows i)[j]? = some g := ⟨_, List.getElem?_eq_getElem hj⟩
        have eD : (kinTo rows i).getD j [] = g := by rw [List.getD_eq_getElem?_getD, hg1]; rfl
        have hgl := gp.len g (List.mem_of_getElem? hg1)
        have hys4 := (e3.trans e4).lst hys
        have hix : ∀ {H5 : Hp}, Xt T H4 H5 → Er T (tOp (rIxL K) (tVar 3) (tC (.int 0))) [some v, some (.ref p), some (.int (i : Int)), some u, z3, z4] H5 (rpN k) := fun e5 => er_ixL (F := rpN) (k := 0) (er_var _ rfl (Mn.mono (e4.trans e5) hu)) er_c rfl (by rw [hk]; rfl)
        refine s_set (T := T) (R := rpT (g ++ [(i : Int)])) rfl hys4 ?_ (hix (Xt.refl T H4)) ej (by rw [plen hg]; exact hj) fun u5 H5 e5 hu5 => ⟨⟨_, _, _, _, rfl⟩, ((eX3.trans e4).trans e5).mut hp (e5.lst hys4) True.intro, by omega, _, upd_same, ?_⟩
        · refine er_tupI ((ea_starT (er_ixL (F := rpT) (k := j) (hG (e3.trans e4) rfl) (hix (Xt.refl T H4)) ej hg1) (ea_1 (R := rpN (i : Int)) (er_v rfl))).imp fun H5 vs _ ⟨r', e5, x', e6, e7⟩ => by rw [e5, e6, show x' = V.int _ from e7, List.map_append]; rfl) (by rw [List.length_append]; show _ + 1 ≤ 100000; omega)
        · have hy5 := e5.lst hys4
          show Paired _ _ (kinStep rows (kinTo rows i) i)
          unfold kinStep
          rw [hk]
          show Paired _ _ ((kinTo rows i).set k.toNat ((kinTo rows i).getD k.toNat [] ++ [(i : Int)]))
          rw [ej, Int.toNat_natCast, eD]
          exact pset (G := fun y (x : List Int) => rpT x (upd H5 p (.lst (ys.set j u5))) y) (Ft.flat hu5 hy5 fun _ z => by cases z) j (pflat hy5 (pmono ((e3.trans e4).trans e5) hg))
  · obtain ⟨⟨z1, z2, z3, z4, rfl⟩, eX, hin, ys, hys, hg⟩ := I
    exact s_ret (T := T) (er_var (rpL rpT (kinTo rows n)) rfl ⟨p, ys, rfl, hys, hg⟩) fun u H3 e3 hu => q u H3 ((e1.trans eX).trans e3) hu
end
def priceOf (ps g : List Int) : Int := (g.map fun c => ps.getD c.toNat 0).sum
def mergeTo (ps : List Int) : List (List Int) → List Int → List Int
  | [], acc => acc
  | g :: gs, acc => mergeTo ps gs (acc.set (g.headD 0).toNat (priceOf ps g))
def mergedP (rows : List (List Int)) (n : Nat) (ps : List Int) : List Int := mergeTo ps (kinTo rows n) (List.replicate n 0)
theorem mergeTo_app (ps : List Int) : ∀ (a b : List (List Int)) (acc : List Int), mergeTo ps (a ++ b) acc = mergeTo ps b (mergeTo ps a acc)
  | [], _, _ => rfl
  | _ :: a, b, acc => mergeTo_app ps a b _
theorem mergeTo_len (ps : List Int) : ∀ (a : List (List Int)) (acc : List Int), (mergeTo ps a acc).length = acc.length
  | [], _ => rfl
  | g :: a, acc => by
    show (mergeTo ps a _).length = _
    rw [mergeTo_len ps a, List.length_set]
def prMerged (C : Addr) : List V → Hp → Rp → Prop := fun vs H R => ∃ v u rows n ps, vs = [v, u] ∧ rpTab C rows H v ∧ Good rows n ∧ rpT ps H u ∧ priceOk ps n ∧ R = rpT (mergedP rows n ps)
theorem scMerged : FnScope ["table", "prices", "found", "some", "place"] ["table", "prices"] (defScope (topS 32)) := ⟨rfl, rfl, rfl, by decide +kernel, rfl, by decide +kernel, by decide +kernel⟩
theorem rep1 (x : V) : ∀ n : Nat, (List.replicate n [x]).flatten = List.replicate n x
  | 0 => rfl
  | n + 1 => by
    rw [List.replicate_succ, List.replicate_succ, List.flatten_cons, rep1 x n]
    rfl
section
variable {P : Program} {w : World} {K : PySem.W.Frag} {mg : Str → Option Value} {base : Heap} {T : Tb} {σ : L2.St} {H : Hp} {te ta tb tc : TE} {C : Addr} {rows : List (List Int)} {n : Nat} {D : Ends} {tz : TS}
/-- x = [0] * e -/
theorem q_rep0 {i : Nat} (hn : n ≤ 100000) (h : Er T tb σ H (rpN (n : Int))) (k : ∀ p H1, Xt T H H1 → H1 p = none → tz D (σ.set i (some (.ref p))) (upd H1 p (.lst (List.replicate n (.int 0))))) : tSeq (tAsg (tOp rRep (tLst (tCons (tC (.int 0)) tNil)) tb) (gName i)) tz D σ H :=
  ⟨sz_small (by show 1 ≤ 100000; decide), fun l hl => h _ (Xt.new hl) _ fun v H2 e2 hv => ⟨l, n, [.int 0], rfl, hv, e2.lst upd_same, by omega, by omega, by
    rw [Int.toNat_natCast]
    exact sz_small (by show 1 * n ≤ 100000; omega), fun p hp => by
    rw [Int.toNat_natCast, rep1]
    exact k p H2 ((Xt.new hl).trans e2) hp⟩⟩
theorem ok_merged {f : Addr} {fd : FuncData} (F : Fun K "merged_prices" "merged_prices" (topS 32) f fd) (m : mg "merged_prices" = some (.ref f)) (N : Nm mg) (TM : TabM P w K mg base T C) (GT : Has P w K mg base 1 "check_table" ["table"] (Pm T 1 (prCheckTable C)))
    (GP : Has P w K mg base 3 "check_prices" ["table", "prices"] (Pm T 2 (prCheckPrices C))) (GK : Has P w K mg base 6 "kin" ["table"] (Pm T 1 (prKin C))) : Has P w K mg base 7 "merged_prices" ["table", "prices"] (Pm T 2 (prMerged C)) := by
  refine Has.of F m (F.binds fun _ _ _ _ _ _ us hl => match us, hl with | [_, _], _ => rfl) (F.ok scMerged (fun vs H Q E h => h.1) (fun cdv A outer s H vs Q E hr h => ?_))
  obtain ⟨_, R, ⟨v, u, rows, n, ps, rfl, hv, G, hu, hp, rfl⟩, q⟩ := h
  obtain ⟨f1, fd1, G1, m1, k1, b1⟩ := GT
  obtain ⟨f2, fd2, G2, m2, k2, b2⟩ := GP
  obtain ⟨f3, fd3, G3, m3, k3, b3⟩ := GK
  obtain ⟨pw, gw, fdw, Pw, Gw, bw⟩ := TM.wd
  have nd := scMerged.nd
  refine ⟨_, pss_cons (ps_expr (pe_call G1 (hr.mono (by decide)) (by rfl) m1 k1 b1 .nil pass0 (pa_cons (pv 0) pa_nil)))
    (pss_cons (ps_expr (pe_call G2 (hr.mono (by decide)) (by rfl) m2 k2 b2 .nil pass0 (pa_cons (pv 0) (pa_cons (pv 1) pa_nil))))
    (pss_cons (ps_set (i := 2) nd rfl (Or.inl rfl) (pe_op op_rep (pe_lst (pa_cons pe_int pa_nil)) (pe_prop (pv 0) TM.cl Pw Gw (hr.mono (by decide)) bw .nil pass0 rfl)))
    (pss_cons (ps_for PassesOwn.never rfl (pi_list (pe_call G3 hr (by rfl) m3 k3 b3 .nil pass0 (pa_cons (pv 0) pa_nil))) (pg_name (i := 3) nd rfl (Or.inl rfl))
      (pss_one (ps_asg (pe_callB (cr_sum rfl) (by rfl) N.sum (by decide +kernel) (pa_cons (pe_lc (own := [("place", 4)]) (g := gName 4) (tt := tYes) rfl nd (pi_tup (pv 3)) (blkOk_by (N := ["table", "prices", "found", "some", "place"]) (sc := defScope (topS 32)) (by decide +kernel))
        (fun _ _ _ _ _ => pg_name (i := 4) nd rfl (Or.inl rfl)) (fun _ _ _ _ _ => pts_nil) (fun _ _ _ _ _ => pe_ix (r := rIxT K) ix_tup (pv 1) (pv 4) (fun _ _ => rfl))) pa_nil)) (pg_sub (pv 2) (pe_ix ix_tup (pv 3) pe_int (fun _ _ => rfl)) set_list))))
    (pss_one (ps_ret (pe_callTy call_tuple_of (by rfl) N.tuple (by decide +kernel) (pa_cons (pv 2) pa_nil))))))), ?_⟩
  refine of_start (σ := [some v, some u, none, none, none]) rfl ?_
  refine q_drop (T := T) (R := rpV .non) (er_call (ea_1 (er_var (rpTab C rows) rfl hv)) fun H1 vs _ ⟨x, e1, e2⟩ => ⟨by rw [e1]; rfl, x, rows, e1, e2, rfl⟩) fun _ H1 e1 _ => ?_
  refine q_drop (T := T) (R := rpV .non) (er_call (ea_2 (er_var (rpTab C rows) rfl (Mn.mono e1 hv)) (er_var (rpT ps) rfl (Mn.mono e1 hu))) fun H1 vs _ ⟨x, y, e1, e2, e3⟩ => ⟨by rw [e1]; rfl, x, y, rows, n, ps, e1, e2, G, e3, hp, rfl⟩) fun _ H2 e2 _ => ?_
  have e12 := e1.trans e2
  have w4 := G.w4
  refine q_rep0 (T := T) (n := n) (by omega) (er_width (er_var (rpTab C rows) rfl (Mn.mono e12 hv)) G) fun p H3 e3 hp3 => ?_
  have e13 := e12.trans e3
  have ex0 : Xt T H3 (upd H3 p (.lst (List.replicate n (.int 0)))) := Xt.new hp3
  refine q_forL (T := T) (er_call (ea_1 (er_var (rpTab C rows) rfl (Mn.mono (e13.trans ex0) hv))) fun H1 vs _ ⟨x, e1, e2⟩ => ⟨by rw [e1]; rfl, x, rows, n, e1, e2, G, rfl⟩) fun a ys H4 e4 ha hpr => ?_
  have e34 := ex0.trans e4
  have hp4 : H4 p = some (.lst (List.replicate n (.int 0))) := e4.lst upd_same
  have nap : a ≠ p := fun z => by
    rw [z, hp4] at ha
    have e5 : List.replicate n (V.int 0) = ys := by injection Option.some.inj ha
    cases ys with
    | nil =>
      have h6 := congrArg List.length e5
      rw [List.length_replicate] at h6
      have := G.w1
      have h7 : n = 0 := h6
      omega
    | cons y0 yt =>
      obtain ⟨x, _, b, h8, _⟩ := pget hpr (i := 0) (x := y0) rfl
      have h9 : y0 ∈ List.replicate n (V.int 0) := by rw [e5]; exact List.mem_cons_self
      rw [(List.mem_replicate.mp h9).2] at h8
      cases h8
  refine ⟨fun i σ' H' => (∃ z1 z2, σ' = [some v, some u, some (.ref p), z1, z2]) ∧ Xt T H3 H' ∧ H' p = some (.lst ((mergeTo ps ((kinTo rows n).take i) (List.replicate n 0)).map V.int)) ∧ H' a = some (.lst ys) ∧ Paired (fun y x => rpT x H' y) ys (kinTo rows n),
    ⟨⟨none, none, rfl⟩, e34, by rw [hp4]; show _ = some (HO.lst (List.map V.int (List.replicate n 0))); rw [List.map_replicate], ha, hpr⟩, fun i σ' H' I => I.2.2.2.1, fun i y x σ1 Ha hy hx _ I => ?_, fun σ' H' I => ?_⟩
  · obtain ⟨⟨z1, z2, rfl⟩, eX, hpA, haA, hprA⟩ := I
    have hyx : rpT x Ha y := by
      obtain ⟨x', h1, h2⟩ := pget hprA hy
      rw [hx] at h1
      cases h1
      exact h2
    have gp := gps_to rows n
    have hxm := List.mem_of_getElem? hx
    obtain ⟨c0, xt, ex⟩ : ∃ c0 xt, x = c0 :: xt := by
      cases x with
      | nil => exact absurd rfl (gp.ne _ hxm)
      | cons c0 xt => exact ⟨c0, xt, rfl⟩
    have hc0 := gp.col x hxm c0 (by rw [ex]; exact List.mem_cons_self)
    have eXo := e13.trans eX
    refine s_set (T := T) (R := rpN (priceOf ps x)) (j := c0.toNat) (n := c0) rfl hpA (er_sum (er_lcM (F := rpN) (RB := rpN) (fun c => ps.getD c.toNat 0) (es_tupT (er_var (rpT x) rfl hyx)) (by have := gp.len x hxm; omega) (fun _ => rfl) fun c z H5 hm e5 hz => ?_)) (er_ixT (k := 0) (er_var (rpT x) rfl hyx) er_c rfl (by rw [ex]; rfl)) (by omega) (by rw [List.length_map, mergeTo_len, List.length_replicate]; omega) fun z H5 e5 hz => ?_
    · cases (show z = V.int c from hz)
      have hc := gp.col x hxm c hm
      refine er_ixT (k := c.toNat) (er_var (rpT ps) rfl (Mn.mono (eXo.trans e5) hu)) (er_var (rpN c) rfl rfl) (by omega) ?_
      have h2 : c.toNat < ps.length := by have := hp.1; omega
      rw [List.getD_eq_getElem?_getD, List.getElem?_eq_getElem h2]
      rfl
    · cases (show z = V.int _ from hz)
      have hp5 := e5.lst hpA
      refine ⟨⟨_, _, rfl⟩, (eX.trans e5).mut hp3 hp5 True.intro, ?_, by rw [upd_ne nap]; exact e5.lst haA, pflat hp5 (pmono e5 hprA)⟩
      rw [upd_same, take_next hx, mergeTo_app]
      show _ = some (HO.lst (((mergeTo ps ((kinTo rows n).take i) (List.replicate n 0)).set (x.headD 0).toNat (priceOf ps x)).map V.int))
      rw [List.map_set, ex]
      rfl
  · obtain ⟨⟨z1, z2, rfl⟩, eX, hpA, _⟩ := I
    rw [List.take_length] at hpA
    exact s_ret (T := T) (er_tupN (er_var (rpL rpN (mergedP rows n ps)) rfl ⟨p, _, rfl, hpA, pints _⟩)) fun z H5 e5 hz => q z H5 ((e13.trans eX).trans e5) hz
end
end K8
set_option maxHeartbeats 4000000
namespace K8
open PySem L2 PyProof.Rows
section
variable {prog : Program} {w : World} {A : Around} {s : Shared} {base : Heap} {K : PySem.W.Frag} {mg : Str → Option Value}
/-- the key -/
def keyD (ns : List Int) : PyData := .tuple [.int ns.length, .tuple (ns.map .int)]
theorem reads_ints {h : Heap} : ∀ {its : List Value} {ns : List Int}, IntsAre its ns → ReadsAll h its (ns.map .int) []
  | _, _, .nil => .nil
  | _, _, .cons n t hd => .cons (as := []) (bs := []) (.int _ _) (reads_ints hd)
/-- what the lambda's names are -/
structure KeyS (x : Str) (scope : Scope) : Prop where
  kind : scope.kind = .function
  co : scope.isCoroutine = false
  gen : scope.isGenerator = false
  cell : ∀ y ∈ scope.names, y.2 ≠ .cell
  own : scope.names.lookup x = some .local
  len : scope.names.lookup ("len" : Str) = some .globalImplicit
abbrev keyE (x : Str) (p1 p2 p3 p4 p5 : Pos) (k : Nat) : Expr := .Tuple [.Call (.Name "len" p1) [.Name x p2] [] p3, .Name x p4] k p5
theorem key_turn {f c' t : Addr} {x qual : Str} {params : Arguments} {scope : Scope} {clos : List (Str × Addr)} {pm ctv : Value} {p1 p2 p3 p4 p5 : Pos} {k : Nat} (M : L2.Mod K mg base) (hb : ∀ b o, base.get? b = some o → s.heap.get? b = some o) (hd : A.depth < recursionLimit)
    (ho : s.heap.get? f = some (PySem.W.kla_obj "<lambda>" qual params (keyE x p1 p2 p3 p4 p5 k) scope clos pm c' ctv)) (hc : ∃ (oc : Obj) (vs : Array Value) (t : Tok), s.heap.get? c' = some oc ∧ oc.data = .fields vs ∧ vs[1]? = some (.str qual t))
    (hbind : ∀ v : Value, bindArgs (PySem.W.kla_fn "<lambda>" qual params (keyE x p1 p2 p3 p4 p5 k) scope clos pm (.ref c') ctv) ⟨[v], []⟩ = pure [(x, v)]) (S : KeyS x scope) (hm : mg "len" = none) (hdx : (x == ("__debug__" : Str)) = false)
    {its : List Value} {ns : List Int} (ht : IsTup s.heap t its.toArray) (hi : IntsAre its ns) (hz : ns.length ≤ 1000) :
    wpAny (model prog w) A (call (.ref f) [.ref t]) (PySem.W.KeyPure (keyD ns) s) (fun _ _ => False) s := by
  obtain ⟨oc, vs, tq, hoc, hdc, hvc⟩ := hc
  have hlen : its.length = ns.length := by rw [hi.length]
  refine wpAny_call ?_
  refine PySem.W.kla_callFunE hd ho rfl S.co S.gen rfl ⟨c', oc, vs, tq, rfl, hoc, hdc, hvc⟩ ?_
  rw [hbind]
  refine wpAny_pure (wpAny_newFunctionEnv S.cell (fun y hy => ?_) (fun h₁ hns hsb => ?_) S.kind)
  · rw [List.mem_singleton] at hy
    rw [hy]
    exact S.own
  have kp : ∀ b o, s.heap.get? b = some o → h₁.get? b = some o := fun b o e => hsb.extBut b o (Nat.ne_of_lt (Heap.lt_size e)) (Heap.get?_push_of_some _ e)
  obtain ⟨mb, hb1, hb2⟩ := M.blt
  refine ⟨(M.nolimit.keeps fun b o e => kp b o (hb b o e)), ?_⟩
  show codeAny _ _ (.expr (keyE x p1 p2 p3 p4 p5 k) (PySem.W.envX qual scope s.heap.objs.size f (.ref c') clos)) _ _
  have hX : ∀ {E : Value → Shared → Prop} {A : Around} {p : Pos} {h₂ : Heap} {tk : Nat} {Q : Value → Shared → Prop}, h₂.Ns s.heap.objs.size (fun y => [(x, Value.ref t)].reverse.lookup y) → Q (.ref t) { s with heap := h₂, toks := tk } →
      wpAny (model prog w) A (eval (.Name x p) (PySem.W.envX qual scope s.heap.objs.size f (.ref c') clos)) Q E { s with heap := h₂, toks := tk } := fun {E A p h₂ tk Q} hn q =>
    wpAny_Name (wpAny_loadName_local S.kind S.own hn (by show List.lookup x [(x, Value.ref t)] = _; simp) q) hdx
  refine PySem.W.kla_codeExpr (wpAny_Tuple (wpAny_items_cons ?_))
  refine wpAny_Call_Name_kw ?_
  refine Calls.Name_function_global (x := ("len" : Str)) S.kind S.len (Calls.loadGlobal_builtin (mg := mg) (mb := mb) (v := .builtin "len") (M.glob.keeps fun b o e => kp b o (hb b o e)) hm (hb1.keeps fun b o e => kp b o (hb b o e)) ((hb2 _ (by decide)).trans rfl) ?_)
  refine PyProof.Rows.callWith_builtin1 (wpAny_items_cons (hX hns (wpAny_items_nil ?_)))
  refine PyProof.Rows.len_tuple (ht.keeps kp) (by rw [List.size_toArray]; omega) ?_
  refine wpAny_items_cons (hX hns (wpAny_items_nil ?_))
  refine ⟨sz_small (by show 2 ≤ 100000; decide), ?_⟩
  refine ⟨_, _, rfl, fun b o e => Heap.get?_push_of_some _ (kp b o e), ?_⟩
  obtain ⟨ot, e1, e2, n, e3⟩ := ht.keeps kp
  refine .tuple (Heap.get?_push_size _ rfl) rfl rfl (.cons (as := []) (bs := []) ?_ (.cons (as := []) (bs := []) (.tuple (Heap.get?_push_of_some _ e1) e2 e3 (reads_ints hi)) .nil))
  rw [List.size_toArray, hlen]
  exact .int _ _
theorem alike_key (a b : List Int) : PySem.W.alike (keyD a) (keyD b) = true := by
  simp [keyD, PySem.W.alike, PySem.W.alikeAll, PySem.W.alike_ints]
theorem depth_ints : ∀ ns : List Int, PyData.depthAll (ns.map .int) = 0
  | [] => rfl
  | n :: r => by
    show max (PyData.depth (.int n)) (PyData.depthAll (r.map .int)) = 0
    rw [depth_ints r]
    rfl
theorem depth_key (a : List Int) : (keyD a).depth = 2 := by
  simp [keyD, PyData.depth, PyData.depthAll, depth_ints]
/-- sorted by size, then in order -/
def bySize (l : List (List Int)) : List (List Int) := l.mergeSort (PySem.W.dataLe false keyD)
end
/-- a tuple of ints, tracked -/
def RefT (H : Hp) (u : Value) (b : List Int) : Prop := ∃ t, u = .ref t ∧ H t = some (.tup (b.map V.int))
theorem each_T {H : Hp} : ∀ {ys : List V} {its : List Value} {l : List (List Int)}, Vals ys its → Paired (fun y x => rpT x H y) ys l → PySem.W.EachIs (RefT H) its l
  | _, _, _, .nil, .nil => .nil
  | _, _, _, .cons r rs, .cons h t => .cons (by
      obtain ⟨b, e1, e2⟩ := h
      subst e1
      exact ⟨b, r, e2⟩) (each_T rs t)
theorem T_each {H : Hp} : ∀ {out : List Value} {l : List (List Int)}, PySem.W.EachIs (RefT H) out l → ∃ ys, Vals ys out ∧ Paired (fun y x => rpT x H y) ys l
  | _, _, .nil => ⟨[], .nil, .nil⟩
  | _, _, .cons ⟨t, e1, e2⟩ rs => by
    obtain ⟨ys, h1, h2⟩ := T_each rs
    subst e1
    exact ⟨.ref t :: ys, .cons rfl h1, .cons ⟨t, rfl, e2⟩ h2⟩
/-- the call -/
def tSortBy (T : Tb) (te : TE) : TE := fun σ H Q => te σ H fun x H1 => ∃ l, rpL rpT l H1 x ∧ l.length ≤ 1000 ∧ (∀ s ∈ l, s.length ≤ 1000) ∧ LamX.Tabs T H1 ∧ Wt T (rpL rpT (bySize l)) H1 Q
section
variable {X : Cx} {T : Tb}
theorem pe_sortBy {c P : Addr} {x : Str} {params : Arguments} {scope : Scope} {p1 p2 p3 p4 p5 p6 p7 p8 kp : Pos} {k : Nat} {e : Expr} {te : TE} (TB : LamX.TabB X.base X.mg c P) (hcode : X.env.code = .ref c) (hr : Room 1 X.A) (hTm : (P, X.env.qual ++ "<lambda>") ∈ T) (hTu : ∀ p ∈ T, p.1 = P → p.2 = X.env.qual ++ "<lambda>")
    (hdef : defaultsOf params X.env = ([], [])) (hnf : ∀ y ∈ scope.names, y.2 ≠ .free) (S : KeyS x scope) (hdx : (x == ("__debug__" : Str)) = false)
    (hbind : ∀ (q : Str) (cl : List (Str × Addr)) (pm cv ctv v : Value), bindArgs (PySem.W.kla_fn "<lambda>" q params (keyE x p1 p2 p3 p4 p5 k) scope cl pm cv ctv) ⟨[v], []⟩ = pure [(x, v)])
    (hm : X.mg "len" = none) (hms : X.mg "sorted" = none) (hg : Gl X "sorted") (he : PE X e te)
    (hee : starEach [e] X.env = (false, eval e X.env) :: starEach [] X.env := by rfl) (hee2 : backTo p8 (starEach [e] X.env) = (false, eval e X.env) :: backTo p8 (starEach [] X.env) := by rfl) (hee3 : (backTo p8 (starEach [e] X.env)).any (·.1) = false := by rfl) :
    PE X (.Call (.Name "sorted" p6) [e] [⟨some "key", .Lambda params (keyE x p1 p2 p3 p4 p5 k) scope p7, kp⟩] p8) (tSortBy T te) := by
  refine ⟨fun pins s σ H Q I h => ?_⟩
  refine wpAny_Call_Name_kw (ld_blt I hg hms (u := .builtin "sorted") rfl ?_ (by decide) (by decide))
  refine PyProof.Rows.callWith_kw (wpAny_items_cons (thn (he.run pins s σ H _ I h) fun u s1 ⟨v, H1, I1, r1, q1⟩ => wpAny_items_nil ?_) hee) hee2 hee3 rfl rfl
  obtain ⟨l, ⟨a, ys, ev, ha, hp⟩, hl1, hl2, hT, q⟩ := q1
  subst ev
  obtain rfl : u = Value.ref a := r1
  refine PyProof.Rows.kws_cons (LamX.lam_make2 I1 TB hcode hTm hTu hT hdef (fun y hy e => absurd e (hnf y hy)) fun f c' pm ctv H2 s2 I2 hE hT2 hf nf _ hcO => PyProof.Rows.kws_nil ?_)
  have ex : Xt T H1 H2 := ⟨hE, fun _ => hT2⟩
  have ha2 := ex.lst ha
  have hp2 := pmono ex hp
  obtain ⟨its, rv, pl, hz⟩ := I2.list (SqL.of (K := X.K) ha2)
  have eI := each_T rv hp2
  have hzl : l.length ≤ sizeLine := by
    rw [← plen hp2]
    exact hz
  have hU := hr.units
  refine PySem.W.sorted_key_data (b := false) keyD pl.isList eI (PySem.W.AllAlike.of alike_key) (PySem.W.Sortable.tuples fun b => ⟨_, _, rfl⟩) hzl (fun b _ => by rw [depth_key]; omega) (PyProof.Rows.ksk_s1 _ _) (fun _ => PyProof.Rows.ksk_l1 _ _) (fun _ => PyProof.Rows.ksk_t1 _ _)
    (fun v b hR hb h tk kp => ?_) fun out c2 h' tk kp _ hD hol eo => ?_
  · obtain ⟨t, e1, e2⟩ := hR
    subst e1
    obtain ⟨its2, rv2, pt, hz2⟩ := I2.tuple (SqT.of (K := X.K) e2)
    obtain ⟨⟨oc, vs, tq, hoc, hdc, hvc⟩, _⟩ := I2.hok c' _ hcO
    exact key_turn (s := { s2 with heap := h, toks := tk }) (base := X.base) (K := X.K) (mg := X.mg) I2.mod (fun b o e => kp b o (I2.bk b o e)) (by have := hr.dp; show X.A.depth < _; omega) (kp _ _ hf) ⟨oc, vs, tq, kp _ _ hoc, hdc, hvc⟩ (hbind _ _ _ _ _) S hm hdx (pt.keeps kp) rv2.ints (hl2 _ hb)
  · obtain ⟨ys2, v2, p2⟩ := T_each eo
    have hf2 : H2 (s2.heap.objs.size + 1) = none := I2.hok.fresh (Nat.le_succ _)
    refine ⟨.ref (s2.heap.objs.size + 1), upd H2 (s2.heap.objs.size + 1) (.lst ys2), I2.laid (t' := tk) kp (Nat.le_succ _) ⟨?_, out, c2, v2, hD⟩, rfl, q _ _ (ex.trans (Xt.new hf2)) ⟨_, ys2, rfl, upd_same, pmono (T := T) (Xt.new hf2) p2⟩⟩
    rw [plen p2, List.length_mergeSort]
    exact hzl
end
end K8
set_option maxHeartbeats 4000000
namespace K8
open PySem L2 PyProof.Rows PySem.W PySem.SeqAt
section
variable {prog : Program} {w : World} {A : Around} {s : Shared}
def tupD (ns : List Int) : PyData := .tuple (ns.map .int)
theorem alike_tup (a b : List Int) : alike (tupD a) (tupD b) = true := by
  simp [tupD, alike, alikeAll, alike_ints]
theorem depth_tup (a : List Int) : (tupD a).depth = 1 := by
  simp [tupD, PyData.depth, depth_ints]
theorem call_tup_lt {E : Value → Shared → Prop} {Q : Value → Shared → Prop} {l b : Addr} {items items2 : Array Value} {e r : Nat → Bool} (hl : s.heap.IsTuple l items) (hb : s.heap.IsTuple b items2)
    (he : ∀ j (h1 : j < items.size) (h2 : j < items2.size), EqAt A.in1 s items[j] items2[j] (e j)) (hr : ∀ j (h1 : j < items.size) (h2 : j < items2.size), e j = false → RcLt A.in1 s items[j] items2[j] (r j))
    (h : Q (.bool (firstLt e r (decide (items.size < items2.size)) (List.range (min items.size items2.size)))) s) : wpAny (model prog w) A (call (.builtin "tuple.__lt__") [.ref l, .ref b]) Q E s := by
  obtain ⟨⟨cls, dd, data, sl⟩, ho, hc, n, hd⟩ := id hl
  obtain ⟨⟨cls2, dd2, data2, sl2⟩, ho2, hc2, n2, hd2⟩ := id hb
  simp only at hc hd hc2 hd2
  subst hc hd hc2 hd2
  exact call_meets F.slot_tuple_lt ⟨_, ho, rfl⟩ F.entry_tuple_lt (F.args_tuple_lt_2 _ _) (tuple_ltAt l b items items2 n n2 dd dd2 sl sl2 e r) ⟨ho, ho2, he, hr, h⟩
/-- one tuple against another, both known to be tuples -/
theorem oneLt_tup {E : Value → Shared → Prop} {xs ys : List PyData} {a b : Value} {as bs : List Addr} {Q : Bool → Shared → Prop} (ra : Reads s.heap a (.tuple xs) as) (rb : Reads s.heap b (.tuple ys) bs) (h : alike (.tuple xs) (.tuple ys) = true)
    (hu : A.units + min (PyData.tuple xs).depth (PyData.tuple ys).depth < cLine) (hq : Q (dataLt (.tuple xs) (.tuple ys)) s) : wpAny (model prog w) A (oneLt' true a b) Q E s := by
  have hal : alikeAll xs ys = true := by simpa [alike] using h
  cases ra with
  | @tuple l o vs n _ as₁ h1 h2 h3 h4 =>
    cases rb with
    | @tuple l' o' vs' n' _ bs₁ k1 k2 k3 k4 =>
      have n1 : vs.size = xs.length := by simpa using ReadsAll.length _ _ _ h4
      have n2 : vs'.size = ys.length := by simpa using ReadsAll.length _ _ _ k4
      rw [dataLt_tuple, ← firstLt_toks xs ys hal, ← n1, ← n2] at hq
      rw [oneLt'_eq]
      simp only [if_true]
      refine wpAny_bind (wpAny_cRoomFor (room_here hu) ?_)
      refine wpAny_bind (wpAny_callSpecialIfBound?_slot (T := "tuple") ⟨_, h1, h2⟩ F.slot_tuple_lt (call_tup_lt (e := pairEq xs ys) (r := fun j => dataLt (xs.getD j .none) (ys.getD j .none)) ⟨_, h1, h2, _, h3⟩ ⟨_, k1, k2, _, k3⟩ (fun j j1 j2 => ?_) (fun j j1 j2 hj => ?_) ?_))
      · have := eqAt_alikeAll xs ys A.in1 s vs.toList vs'.toList _ _ h4 k4 hal (room_in hu) j (by simpa using j1) (by simpa using j2)
        simpa using this
      · have := rcLt_alikeAll xs ys A.in1 s vs.toList vs'.toList _ _ h4 k4 hal (room_in hu) j (by simpa using j1) (by simpa using j2) hj
        simpa using this
      · exact wpAny_truthy_bool hq
/-- the tuples' firsts -/
theorem firsts_mapM {M : Model} {E : Value → Shared → Prop} : ∀ {vs : List Value} {l : List (List Int)}, EachIs (fun v d => ∃ as, Reads s.heap v d as) vs (l.map tupD) → ∀ {Q : List (Option Value) → Shared → Prop},
    (∀ fs : List (Option Value), fs.map (·.isSome) = l.map (fun ns => !ns.isEmpty) → Q fs s) → wpAny M A (vs.mapM firstOfTuple') Q E s
  | [], [], _, Q, h => by
    rw [List.mapM_nil]
    exact wpAny_pure (h [] rfl)
  | v :: vs, ns :: l, e, Q, h => by
    cases e with
    | cons h1 t =>
      obtain ⟨as, r⟩ := h1
      cases r with
      | @tuple a o xs n _ _ ho hc hd hr =>
        rw [List.mapM_cons]
        refine wpAny_bind ?_
        rw [kas_first_eq]
        refine wpAny_bind (Looks.here (show Looks M s.heap (typeOf (.ref a)) o.cls from (Looks.ld ho).andThen .now) ?_)
        rw [hc, if_neg (by first | decide | simp)]
        refine wpAny_bind (listItems_at ho hd (wpAny_pure ?_))
        refine wpAny_bind (firsts_mapM t fun fs hfs => wpAny_pure (h _ ?_))
        rw [List.map_cons, List.map_cons, hfs]
        congr 1
        have n1 : xs.size = ns.length := by simpa using ReadsAll.length _ _ _ hr
        cases ns with
        | nil =>
          have : xs[0]? = none := Array.getElem?_eq_none (by rw [n1]; exact Nat.le_refl _)
          rw [this]
          rfl
        | cons x r =>
          have : 0 < xs.size := by rw [n1]; exact Nat.succ_pos _
          rw [Array.getElem?_eq_getElem this]
          rfl
theorem tups_sorts {vs : List Value} {l : List (List Int)} (e : EachIs (fun v d => ∃ as, Reads s.heap v d as) vs (l.map tupD)) (hu : A.units + 2 < cLine) : SortsAt prog w A s (dataKind s.heap (l.map tupD)) vs := by
  have hal : AllAlike (l.map tupD) := AllAlike.of alike_tup
  have hud : ∀ d, d ∈ l.map tupD → A.units + d.depth < cLine := bound_map (A := A) fun b _ => by rw [depth_tup]; omega
  by_cases hall : ∀ ns ∈ l, ns ≠ []
  · refine SortsAt.data e hal (.inl fun d hd => ?_) hud
    obtain ⟨ns, h1, rfl⟩ := List.mem_map.mp hd
    cases ns with
    | nil => exact absurd rfl (hall _ h1)
    | cons x r => exact ⟨.int x, r.map .int, rfl⟩
  have room : ∀ {d d' : PyData}, d ∈ l.map tupD → A.units + min d.depth d'.depth < cLine := fun {d d'} hd => Nat.lt_of_le_of_lt (Nat.add_le_add_left (Nat.min_le_left _ _) _) (hud d hd)
  have hne : (l.map fun ns : List Int => !ns.isEmpty).all id = false := by
    rw [Bool.eq_false_iff]
    intro hq
    refine hall fun ns hns z => ?_
    have := List.all_eq_true.mp hq _ (List.mem_map.mpr ⟨ns, hns, rfl⟩)
    rw [z] at this
    cases this
  refine ⟨fun v hv => ?_, ?_⟩
  · obtain ⟨d, hd, as, r⟩ := e.left v hv
    exact ⟨_, dataKind_some hal hd r⟩
  · cases l with
    | nil => exact absurd (fun ns h => absurd h (by simp)) hall
    | cons n0 l =>
      by_cases h0 : n0 = []
      · refine ⟨oneType', fun E x y a b Q ha hb hq => ?_, fun h2 E Q hq => ?_⟩
        · obtain ⟨d, as, hd, ra, rfl⟩ := dataKind_inv ha
          obtain ⟨d', as', hd', rb, rfl⟩ := dataKind_inv hb
          rw [keyLt'_oneType]
          obtain ⟨n1, m1, rfl⟩ := List.mem_map.mp hd
          obtain ⟨n2, m2, rfl⟩ := List.mem_map.mp hd'
          exact oneLt_tup ra rb (alike_tup n1 n2) (room hd) hq
        · rw [kat_kind_eq, List.mapM_toArray, map_eq_pure_bind]
          refine wpAny_bind (wpAny_bind (firsts_mapM e fun fs hfs => wpAny_pure ?_))
          have a1 : (fs.toArray.all fun x => x.isSome) = false := by
            rw [List.all_toArray, ← hne, ← hfs, List.all_map]
            rfl
          have a2 : (fs.toArray[0]?.bind id).isSome = false := by
            cases fs with
            | nil => rfl
            | cons f r =>
              have := (List.cons.inj hfs).1
              rw [h0] at this
              simpa using this
          rw [if_neg (by rw [a1]; decide), if_neg (by rw [a2]; decide)]
          rw [oneTypeOnly'_eq, List.mapM_toArray, map_eq_pure_bind]
          refine wpAny_bind (wpAny_bind (wpAny_bind (kas_mapM (r := Value.type "tuple") _ (fun v hv Q' hq => ?_) (wpAny_pure ?_))))
          · obtain ⟨d, hd, as, r⟩ := e.left v hv
            obtain ⟨n1, m1, rfl⟩ := List.mem_map.mp hd
            exact (looks_reads r).here hq
          · have hall : ((List.map (fun _ => Value.type "tuple") vs).toArray.all fun x => x == Value.type "tuple") = true := by
              simp
            cases vs with
            | nil => exact absurd h2 (by simp)
            | cons v0 vs =>
              have h0 : (List.map (fun _ => Value.type "tuple") (v0 :: vs)).toArray[0]? = some (Value.type "tuple") := by simp
              rw [h0]
              simp only [hall, if_true]
              exact wpAny_pure (wpAny_pure hq)
      · refine ⟨general', fun E x y a b Q ha hb hq => ?_, fun h2 E Q hq => ?_⟩
        · obtain ⟨d, as, hd, ra, rfl⟩ := dataKind_inv ha
          obtain ⟨d', as', hd', rb, rfl⟩ := dataKind_inv hb
          obtain ⟨n1, m1, rfl⟩ := List.mem_map.mp hd
          obtain ⟨n2, m2, rfl⟩ := List.mem_map.mp hd'
          show wpAny _ _ (oneLt' false x y) _ _ _
          exact oneLt_alike (fun z => by cases z) ra rb (alike_tup n1 n2) (by unfold tupD; simp) (room hd) hq
        · rw [kat_kind_eq, List.mapM_toArray, map_eq_pure_bind]
          refine wpAny_bind (wpAny_bind (firsts_mapM e fun fs hfs => wpAny_pure ?_))
          have a1 : (fs.toArray.all fun x => x.isSome) = false := by
            rw [List.all_toArray, ← hne, ← hfs, List.all_map]
            rfl
          have a2 : (fs.toArray[0]?.bind id).isSome = true := by
            cases fs with
            | nil => cases hfs
            | cons f r =>
              have := (List.cons.inj hfs).1
              cases n0 with
              | nil => exact absurd rfl h0
              | cons x r => simpa using this
          rw [if_neg (by rw [a1]; decide), if_pos a2]
          exact wpAny_pure hq
end
/-- sorted in order -/
def sortL (l : List (List Int)) : List (List Int) := l.mergeSort (dataLe false tupD)
def rSortT : List V → Hp → VK → Prop := fun vs H Q => ∃ v l, vs = [v] ∧ rpL rpT l H v ∧ ∀ p ys, H p = none → Paired (fun y x => rpT x H y) ys (sortL l) → Q (.ref p) (upd H p (.lst ys))
theorem reads_tup {X : Cx} {pins : List (Addr × Obj)} {σ : L2.St} {H : Hp} {s : Shared} (I : L2.Inv X pins σ H s) {h : Heap} (hk : ∀ b o, s.heap.get? b = some o → h.get? b = some o) : ∀ {its : List Value} {l : List (List Int)}, EachIs (RefT H) its l → EachIs (fun v b => ∃ as, Reads h v (tupD b) as) its l
  | _, _, .nil => .nil
  | _, _, .cons ⟨t, e1, e2⟩ rs => .cons (by
      subst e1
      obtain ⟨its2, rv2, pt, hz2⟩ := I.tuple (SqT.of (K := X.K) e2)
      obtain ⟨o, h1, h2, n, h3⟩ := pt
      exact ⟨[], .tuple (hk _ _ h1) h2 h3 (reads_ints rv2.ints)⟩) (reads_tup I hk rs)
theorem cr_sortT {X : Cx} {k : Nat} (hr : Room k X.A) : CallR X (.builtin "sorted") rSortT := by
  intro pins s σ H vs us Q I r h
  obtain ⟨v, l, rfl, ⟨a, ys, ev, ha, hp⟩, q⟩ := h
  subst ev
  rw [Vals.ref1 r]
  obtain ⟨its, rv, pl, hz⟩ := I.list (SqL.of (K := X.K) ha)
  have eI := each_T rv hp
  have hzl : its.length ≤ sizeLine := by rw [← rv.length]; exact hz
  have hU := hr.units
  have er' := reads_tup I (h := sortingHeap (copyHeap s.heap its) (s.heap.objs.size + 1) its) (fun _ _ => sorting_copy_old) eI
  refine sorted_vals pl.isList (tups_sorts (s := { s with heap := sortingHeap (copyHeap s.heap its) (s.heap.objs.size + 1) its }) (each_map (R := fun v d => ∃ as, Reads (sortingHeap (copyHeap s.heap its) (s.heap.objs.size + 1) its) v d as) tupD er') (by show X.A.units + 2 + 2 < _; omega)) hzl ?_
  have eo := sortVals_data false eI er' (AllAlike.of alike_tup)
  obtain ⟨ys2, v2, p2⟩ := T_each eo
  have hf : H (s.heap.objs.size + 1) = none := I.hok.fresh (Nat.le_succ _)
  obtain ⟨ep, he'⟩ := PyProof.Rows.sortedAll_at s.heap its (sortVals (dataKind (sortingHeap (copyHeap s.heap its) (s.heap.objs.size + 1) its) (l.map tupD)) false its its).toArray
  refine ⟨.ref (s.heap.objs.size + 1), upd H (s.heap.objs.size + 1) (.lst ys2), I.laid (t' := s.toks) (fun _ _ => PyProof.Rows.sortedAll_old) (Nat.le_succ _) ⟨?_, _, ep, v2, he'⟩, rfl, q _ _ hf p2⟩
  rw [plen p2, List.length_mergeSort, ← plen hp]
  exact hz
theorem er_sortT {T : Tb} {σ : L2.St} {H : Hp} {te : TE} {l : List (List Int)} (h : Er T te σ H (rpL rpT l)) : Er T (tCB rSortT (tCons te tNil)) σ H (rpL rpT (sortL l)) :=
  er_cb (ea_1 h) fun H1 vs _ ⟨v, ev, hv⟩ => fun Q q => ⟨v, l, ev, hv, fun p ys hp hy => q _ _ (Xt.new hp) ⟨p, ys, rfl, upd_same, pmono (T := T) (Xt.new hp) hy⟩⟩
end K8
set_option maxHeartbeats 4000000
namespace K8
open PySem L2 PyProof.Rows PySem.Spec
section
variable {β : Type} {R : β → Rp} {H H' : Hp}
def look (l : List (List Int × β)) (k : List Int) : Option β := (l.find? fun p => decide (p.1 = k)).map (·.2)
def putD (l : List (List Int × β)) (k : List Int) (v : β) : List (List Int × β) := if (l.any fun p => decide (p.1 = k)) = true then l.map (fun p => if p.1 = k then (p.1, v) else p) else l ++ [(k, v)]
def dropD (l : List (List Int × β)) (k : List Int) : List (List Int × β) := l.filter fun p => decide (p.1 ≠ k)
abbrev kI (k : List Int) : List Key := k.map Sum.inl
theorem kI_inj : ∀ {a b : List Int}, kI a = kI b → a = b
  | [], [], _ => rfl
  | [], _ :: _, e => by simp [kI] at e
  | _ :: _, [], e => by simp [kI] at e
  | x :: xs, y :: ys, e => by
    have e2 : Sum.inl x :: kI xs = Sum.inl y :: kI ys := e
    injection e2 with e3 e4
    injection e3 with e3
    rw [e3, kI_inj e4]
theorem kI_V (k : List Int) : (kI k).map kV = k.map V.int := by rw [List.map_map]; rfl
abbrev PD (R : β → Rp) (H : Hp) : List (List Key × V) → List (List Int × β) → Prop := Paired fun p q => p.1 = q.1.map Sum.inl ∧ R q.2 H p.2
theorem kI_iff {a : List Key} {b k : List Int} (e : a = kI b) : a = kI k ↔ b = k := ⟨fun h => kI_inj (e.symm.trans h), fun h => by rw [e, h]⟩
theorem pd_any {kvs : List (List Key × V)} {l : List (List Int × β)} (p : PD R H kvs l) (k : List Int) : (kvs.any fun q => decide (q.1 = kI k)) = l.any fun q => decide (q.1 = k) := by
  induction p with
  | nil => rfl
  | cons h t ih =>
    rw [List.any_cons, List.any_cons, ih]
    congr 1
    exact decide_eq_decide.mpr (kI_iff h.1)
theorem pd_look {kvs : List (List Key × V)} {l : List (List Int × β)} (p : PD R H kvs l) (k : List Int) :
    (∀ b, look l k = some b → ∃ v, valV kvs (kI k) = some v ∧ R b H v) ∧ (look l k = none → valV kvs (kI k) = none) := by
  induction p with
  | nil => exact ⟨fun b e => (by cases e), fun _ => rfl⟩
  | @cons a b as bs h t ih =>
    by_cases e : b.1 = k
    · have e1 : look (b :: bs) k = some b.2 := by
        show ((b :: bs).find? fun p => decide (p.1 = k)).map (·.2) = some b.2
        simp [List.find?_cons, e]
      refine ⟨fun c hc => ?_, fun z => ?_⟩
      · rw [e1] at hc
        cases hc
        exact ⟨a.2, valV_pos ((kI_iff h.1).mpr e), h.2⟩
      · rw [e1] at z
        cases z
    · have e1 : look (b :: bs) k = look bs k := by
        show ((b :: bs).find? fun p => decide (p.1 = k)).map (·.2) = _
        simp [List.find?_cons, e, look]
      rw [e1, valV_neg (fun z => e ((kI_iff h.1).mp z))]
      exact ih
theorem pd_repl {kvs : List (List Key × V)} {l : List (List Int × β)} (p : PD R H kvs l) {k : List Int} {v : V} {b : β} (hv : R b H v) : PD R H (kvs.map fun q => if q.1 = kI k then (q.1, v) else q) (l.map fun q => if q.1 = k then (q.1, b) else q) := by
  induction p with
  | nil => exact .nil
  | cons h t ih =>
    rw [List.map_cons, List.map_cons]
    refine .cons ?_ ih
    rename_i x y _ _
    by_cases e : y.1 = k
    · rw [if_pos e, if_pos ((kI_iff h.1).mpr e)]
      exact ⟨h.1, hv⟩
    · rw [if_neg e, if_neg (fun z => e ((kI_iff h.1).mp z))]
      exact h
theorem pd_put {kvs : List (List Key × V)} {l : List (List Int × β)} (p : PD R H kvs l) {k : List Int} {v : V} {b : β} (hv : R b H v) : PD R H (putK kvs (kI k) v) (putD l k b) := by
  unfold putK putD
  rw [pd_any p k]
  split
  · exact pd_repl p hv
  · exact papp p (.cons ⟨rfl, hv⟩ .nil)
theorem pd_drop {kvs : List (List Key × V)} {l : List (List Int × β)} (p : PD R H kvs l) {k : List Int} : PD R H (dropK kvs (kI k)) (dropD l k) := by
  unfold dropK dropD
  induction p with
  | nil => exact .nil
  | cons h t ih =>
    rename_i x y _ _
    rw [List.filter_cons, List.filter_cons]
    by_cases e : y.1 = k
    · have e2 := (kI_iff h.1).mpr e
      rw [if_neg (by simp [e2]), if_neg (by simp [e])]
      exact ih
    · have e2 : ¬ x.1 = kI k := fun z => e ((kI_iff h.1).mp z)
      rw [if_pos (decide_eq_true e2), if_pos (decide_eq_true e)]
      exact .cons h ih
theorem putD_len (l : List (List Int × β)) (k : List Int) (b : β) : (putD l k b).length ≤ l.length + 1 := by
  unfold putD
  split
  · rw [List.length_map]; omega
  · rw [List.length_append]; exact Nat.le_refl _
theorem dropD_len (l : List (List Int × β)) (k : List Int) : (dropD l k).length ≤ l.length := List.length_filter_le _ _
end
/-- a pair of ints -/
abbrev rpP (q : Int × Int) : Rp := rpT [q.1, q.2]
/-- a pair of a key and a value, in a tuple -/
def rpPr {β : Type} (R : β → Rp) (q : List Int × β) : Rp := fun H v => ∃ t kq w, v = .ref t ∧ H t = some (.tup [.ref kq, w]) ∧ H kq = some (.tup (q.1.map V.int)) ∧ R q.2 H w
instance {T : Tb} {β : Type} (R : β → Rp) (q : List Int × β) [h : ∀ x, Mn T (R x)] : Mn T (rpPr R q) := ⟨fun e ⟨t, kq, w, h1, h2, h3, h4⟩ => ⟨t, kq, w, h1, e.tup h2, e.tup h3, (h q.2).mono e h4⟩⟩
instance {β : Type} (R : β → Rp) (q : List Int × β) [h : ∀ x, Ft (R x)] : Ft (rpPr R q) := ⟨fun ⟨t, kq, w, h1, h2, h3, h4⟩ hp n => ⟨t, kq, w, h1, by rw [upd_ne (ne_of h2 hp fun z => n _ z.symm)]; exact h2, by rw [upd_ne (ne_of h3 hp fun z => n _ z.symm)]; exact h3, (h q.2).flat h4 hp n⟩⟩
section
variable {T : Tb} {σ : L2.St} {H : Hp} {td tk te tv : TE} {β : Type} {R : β → Rp} {l : List (List Int × β)} {k : List Int}
theorem er_dget {b : β} [m : ∀ x, Mn T (R x)] (hd : Er T td σ H (rpD R l)) (hk : Er T tk σ H (rpT k)) (e : look l k = some b) : Er T (tDGet td tk) σ H (R b) := fun H1 e1 Q q =>
  hd H1 e1 _ fun v H2 e2 ⟨a, kvs, h1, h2, h3⟩ => hk H2 (e1.trans e2) _ fun y H3 e3 ⟨c, h4, h5⟩ => by
    obtain ⟨w, w1, w2⟩ := (pd_look h3 k).1 b e
    refine ⟨a, w, h1, ?_, q w H3 (e2.trans e3) ((m b).mono e3 w2)⟩
    rw [h4, ← w1]
    exact .t (e3.dT h2) (by rw [kI_V]; exact h5)
theorem er_din [m : ∀ x, Mn T (R x)] (hk : Er T tk σ H (rpT k)) (hd : Er T td σ H (rpD R l)) : Er T (tDIn tk td) σ H (rpV (.bl (look l k).isSome)) := fun H1 e1 Q q =>
  hk H1 e1 _ fun y H2 e2 ⟨c, h4, h5⟩ => hd H2 (e1.trans e2) _ fun v H3 e3 ⟨a, kvs, h1, h2, h3⟩ => by
    refine ⟨a, valV kvs (kI k), h1, by rw [h4]; exact .t h2 (by rw [kI_V]; exact e3.tup h5), ?_⟩
    have e : (valV kvs (kI k)).isSome = (look l k).isSome := by
      cases hl : look l k with
      | none => rw [(pd_look h3 k).2 hl]; rfl
      | some b =>
        obtain ⟨w, w1, _⟩ := (pd_look h3 k).1 b hl
        rw [w1]
        rfl
    rw [e]
    exact q _ H3 (e2.trans e3) rfl
theorem er_lenD (hd : Er T td σ H (rpD R l)) : Er T (tCB rLenT (tCons td tNil)) σ H (rpN l.length) :=
  er_cb (ea_1 hd) fun H1 vs _ ⟨v, ev, a, kvs, h1, h2, h3⟩ => fun Q q => ⟨a, kvs, by rw [ev, h1], h2, q _ H1 (Xt.refl T H1) (by rw [plen h3]; rfl)⟩
theorem er_dnew : Er T tDNewT σ H (rpD R []) := fun H1 _ Q q => fun p hp => q _ _ (Xt.new hp) ⟨p, [], rfl, upd_same, .nil⟩
theorem dropK_none {kvs : List (List Key × V)} {k : List Key} (h : valV kvs k = none) : dropK kvs k = kvs := by
  unfold dropK
  rw [List.filter_eq_self]
  intro p hp
  refine decide_eq_true fun z => ?_
  have e : (kvs.any fun kv => decide (kv.1 = k)) = true := List.any_eq_true.mpr ⟨p, hp, decide_eq_true z⟩
  rw [valV_any, h] at e
  cases e
variable {D : Ends} {tz : TS}
theorem q_newD {i : Nat} (k : ∀ p, H p = none → tz D (σ.set i (some (.ref p))) (upd H p (.dT []))) : tSeq (tAsg tDNewT (gName i)) tz D σ H := fun p hp => k p hp
theorem s_dput {i : Nat} {p : Addr} {kvs : List (List Key × V)} {R : Rp} [m : Mn T R] (hs : σ[i]? = some (some (.ref p))) (hp : H p = some (.dT kvs)) (hz : kvs.length < 100000) (hv : Er T tv σ H R) (hk : Er T tk σ H (rpT k)) (q : ∀ v H1, Xt T H H1 → R H1 v → D.nx σ (upd H1 p (.dT (putK kvs (kI k) v)))) : sDPut (tVar i) tk tv D σ H :=
  hv H (Xt.refl T H) _ fun v H1 e1 h1 => ⟨.ref p, hs, hk H1 e1 _ fun y H2 e2 ⟨c, h4, h5⟩ => ⟨p, _, rfl, by rw [h4]; exact .t ((e1.trans e2).dT hp) (by rw [kI_V]; exact h5) (Nat.lt_of_lt_of_le hz (by decide)), q v H2 (e1.trans e2) (m.mono e2 h1)⟩⟩
theorem q_dput {i : Nat} {p : Addr} {kvs : List (List Key × V)} {R : Rp} [m : Mn T R] (hs : σ[i]? = some (some (.ref p))) (hp : H p = some (.dT kvs)) (hz : kvs.length < 100000) (hv : Er T tv σ H R) (hk : Er T tk σ H (rpT k)) (q : ∀ v H1, Xt T H H1 → R H1 v → tz D σ (upd H1 p (.dT (putK kvs (kI k) v)))) : tSeq (sDPut (tVar i) tk tv) tz D σ H :=
  s_dput (D := { D with nx := tz D }) hs hp hz hv hk q
/-- d.pop(k, None) -/
theorem q_dpop {K : PySem.W.Frag} {i : Nat} {p : Addr} {kvs : List (List Key × V)} (hs : σ[i]? = some (some (.ref p))) (hp : H p = some (.dT kvs)) (hk : Er T tk σ H (rpT k)) (q : ∀ H1, Xt T H H1 → tz D σ (upd H1 p (.dT (dropK kvs (kI k))))) : tSeq (tDrop (tBM K "dict" DX.rPopT (tVar i) (tCons tk (tCons (tC .non) tNil)))) tz D σ H :=
  ⟨.ref p, hs, .inr (.inr (.inl ⟨rfl, .inr ⟨kvs, hp⟩⟩)), hk H (Xt.refl T H) _ fun y H1 e1 ⟨c, h4, h5⟩ => ⟨p, kvs, kI k, c, .non, rfl, by rw [h4], e1.dT hp, by rw [kI_V]; exact h5, fun v _ => q H1 e1, fun z => by
    have e : upd H1 p (.dT (dropK kvs (kI k))) = H1 := by
      have e2 : dropK kvs (kI k) = kvs := dropK_none z
      rw [e2]
      funext b
      by_cases hb : b = p
      · rw [hb, upd_same]
        exact (e1.dT hp).symm
      · rw [upd_ne hb]
    have := q H1 e1
    rw [e] at this
    exact this⟩⟩
end
end K8
set_option maxHeartbeats 4000000
namespace K8
open PySem L2 PyProof.Rows PySem.Spec PySem.W
section
variable {X : Cx}
/-- d.setdefault(k, x) -/
def rSetdef : V → List V → Hp → VK → Prop := fun x xs H Q => ∃ (a : Addr) (kvs : List (List Key × V)) (k : List Key) (b : Addr) (d : V), x = .ref a ∧ xs = [.ref b, d] ∧ H a = some (.dT kvs) ∧ H b = some (.tup (k.map kV)) ∧ kvs.length < sizeLine ∧
  (∀ v, valV kvs k = some v → Q v H) ∧ (valV kvs k = none → Q d (upd H a (.dT (putK kvs k d))))
theorem mt_setdef (hu : X.A.units + 1 < cLine) : MtR X "dict.setdefault" rSetdef := by
  intro pins s σ H x xs v us Q I rx rxs h
  obtain ⟨a, kvs, k, b, d, rfl, rfl, ha, hb, hlt, q1, q2⟩ := h
  cases rx
  obtain ⟨u1, u2, rfl, r1, r2⟩ := vals2 rxs
  cases r1
  obtain ⟨z, hd, xs', rel, dd⟩ := dt_of I.hok ha
  have l0 : kvs.length = xs'.length := Paired.length rel
  have r := rel.val k
  refine call_setdefault_heap (hsz := by omega) (tupleKind_room_in1 hu) (key_of I.hok hb) hd dd (fun p hp => ?_) fun hn h' dd' hs => ?_
  · rw [hp] at r
    obtain ⟨v0, ev, rv⟩ : ∃ v0, valV kvs k = some v0 ∧ RelV v0 p.2 := by
      cases ev : valV kvs k with
      | none =>
        rw [ev] at r
        exact (show False from r).elim
      | some v0 =>
        rw [ev] at r
        exact ⟨v0, rfl, r⟩
    exact ⟨v0, H, I.tok _, rv, q1 v0 ev⟩
  · rw [hn] at r
    have e : valV kvs k = none := by
      cases ev : valV kvs k with
      | none => rfl
      | some v0 =>
        rw [ev] at r
        exact (show False from r).elim
    obtain ⟨o, es, ep, hq, h2, h3, h4, _, h5⟩ := dd'
    have hl : (putK kvs k d).length ≤ sizeLine := by
      unfold putK
      split
      · rw [List.length_map]; omega
      · rw [List.length_append]; exact hlt
    have I2 : Inv X pins σ (upd H a (.dT (putK kvs k d))) { s with heap := h', toks := s.toks + (tupleKind (mixKind X.prog X.w)).draws k } :=
      d_write I (by rw [ha]; exact True.intro) hs ⟨o, hq⟩ ⟨hl, hd, _, (rel.put k hb r2).keeps (fun c ys ec => by rw [upd_ne (ne_of ec ha (fun z => nomatch z))]; exact ec), o, es, ep, hq, h2, h3, h4, h5⟩
    exact ⟨d, _, I2, r2, q2 e⟩
/-- the pairs of a list -/
abbrev PrT (H : Hp) : List Addr → List (List Key × V) → Prop := Paired fun b kv => ∃ kq, H b = some (.tup [.ref kq, kv.2]) ∧ H kq = some (.tup (kv.1.map kV))
/-- list(d.items()) -/
def rListIt : List V → Hp → VK → Prop := fun xs H Q => ∃ (p a : Addr) (kvs : List (List Key × V)), xs = [.ref p] ∧ H p = some (DX.itemsO p a) ∧ H a = some (.dT kvs) ∧
  ∀ H2 l bs, (∀ b o, H b = some o → H2 b = some o) → H2 l = some (.lst (bs.map V.ref)) → PrT H2 bs kvs → Q (.ref l) H2
theorem paired_of {α β : Type} {F : α → β → Prop} : ∀ {l : List α} {m : List β}, l.length = m.length → (∀ (i : Nat) a b, l[i]? = some a → m[i]? = some b → F a b) → Paired F l m
  | [], [], _, _ => .nil
  | [], _ :: _, e, _ => by simp at e
  | _ :: _, [], e, _ => by simp at e
  | a :: l, b :: m, e, h => .cons (h 0 a b rfl rfl) (paired_of (by simpa using e) fun i x y h1 h2 => h (i + 1) x y (by simpa using h1) (by simpa using h2))
theorem cr_listIt (hc : X.calm = true) : CallR X (.type "list") rListIt := by
  intro pins s σ H xs us Q I r h
  obtain ⟨p, a, kvs, rfl, hp, ha, q⟩ := h
  obtain rfl := Vals.ref1 r
  have view : s.heap.IsItemsView p a := (show ObjOk X.prog X.w H s.heap p (DX.itemsO p a) from I.hok p _ hp).1
  obtain ⟨z, hd, xs', rel, o, es, ep, ho, hx, hdat, hes, his, hn⟩ := dt_of I.hok ha
  have l1 : kvs.length = xs'.length := Paired.length rel
  have l2 : es.size = xs'.length := size_of_entries hes
  refine dil_call (es := es) (ep := ep) (I.ok.hd hc) view ⟨o, ho, hx, hdat⟩ (by omega) fun h' tk acc c as hk hS hl hG hacc => ?_
  have nd : as.Nodup := List.Pairwise.imp (fun h => Nat.ne_of_lt h) hG.rise
  have pr : ∀ (j : Nat) (b : Addr), as[j]? = some b → ∃ (e : List Key × V) (kq : Addr) (u : Value), kvs[j]? = some e ∧ H kq = some (.tup (e.1.map kV)) ∧ RelV e.2 u ∧ h'.get? b = some { cls := .type "tuple", data := .seq #[Value.ref kq, u] } := by
    intro j b hj
    obtain ⟨hj2, hg⟩ := hG.pairs j b hj
    have he := entry_at hes j
    rw [Array.getElem?_eq_getElem hj2] at he
    cases hxj : xs'[j]? with
    | none =>
      rw [hxj] at he
      cases he
    | some x =>
      rw [hxj] at he
      have een : es[j] = entryOfKey (tupleKind (mixKind X.prog X.w)) x := Option.some.inj he
      obtain ⟨e0, he0, r1, r2, r3⟩ := pget' rel hxj
      refine ⟨e0, x.2.1, x.2.2, he0, r2, r3, ?_⟩
      rw [hg, een]
      rfl
  have hn0 : H s.heap.objs.size = none := I.hok.fresh (Nat.le_refl _)
  have rv : Vals (as.map V.ref) acc.toList := by rw [hacc]; exact vals_refs _
  have I2 : Inv X pins σ (upd H s.heap.objs.size (.lst (as.map V.ref))) { s with heap := h', toks := tk } :=
    I.laid (t' := tk) hk (Nat.le_refl _) ⟨by rw [List.length_map]; omega, acc.toList, c, rv, by rw [Array.toArray_toList]; exact hS⟩
  obtain ⟨H2, I3, g, qt⟩ := DX.takeT (P := fun b vs => ∃ (j : Nat) (e : List Key × V) (kq : Addr), as[j]? = some b ∧ kvs[j]? = some e ∧ vs = [.ref kq, e.2] ∧ H kq = some (.tup (e.1.map kV))) I as _ I2 nd fun b hb => by
    obtain ⟨j, hj⟩ := List.mem_iff_getElem?.mp hb
    obtain ⟨e, kq, u, he, hkq, ru, hg⟩ := pr j b hj
    have hbl : s.heap.objs.size < b := hG.above b hb
    refine ⟨Nat.le_of_lt hbl, ?_, [.ref kq, e.2], ⟨j, e, kq, hj, he, rfl, hkq⟩, fun H3 => ⟨sz_small (by show 2 ≤ 100000; decide), [Value.ref kq, u], .cons rfl (.cons ru .nil), ⟨_, hg, rfl, 0, rfl⟩⟩⟩
    rw [upd_ne (Nat.ne_of_gt hbl)]
    exact I.hok.fresh (Nat.le_of_lt hbl)
  have gr : ∀ b o, H b = some o → H2 b = some o := fun b o e => g b o (by rw [upd_ne (ne_of_none e hn0)]; exact e)
  refine ⟨.ref s.heap.objs.size, H2, I3, rfl, q H2 s.heap.objs.size as gr (g _ _ upd_same) (paired_of (by omega) fun i b e h1 h2 => ?_)⟩
  obtain ⟨vs, ⟨j, e', kq, j1, j2, ev, hkq⟩, hH⟩ := qt b (List.mem_of_getElem? h1)
  have eij : i = j := (List.getElem?_inj (List.getElem?_eq_some_iff.mp h1).1 nd).mp (h1.trans j1.symm)
  subst eij
  have ee : e' = e := Option.some.inj (j2.symm.trans h2)
  subst ee
  rw [ev] at hH
  exact ⟨kq, hH, gr _ _ hkq⟩
/-- dict(list of pairs), the keys unlike each other -/
def rDictL : List V → Hp → VK → Prop := fun xs H Q => ∃ (p : Addr) (bs : List Addr) (kvs : List (List Key × V)), xs = [.ref p] ∧ H p = some (.lst (bs.map V.ref)) ∧ PrT H bs kvs ∧ (kvs.map (·.1)).Nodup ∧ kvs.length ≤ 100000 ∧
  ∀ q, H q = none → Q (.ref q) (upd H q (.dT kvs))
theorem kt_keys {H : Hp} : ∀ {kvs : List (List Key × V)} {xs : List (List Key × Addr × Value)}, KT H kvs xs → xs.map (·.1) = kvs.map (·.1)
  | _, _, .nil => rfl
  | _, _, .cons h t => by rw [List.map_cons, List.map_cons, kt_keys t, h.1]
theorem refs_inv : ∀ {bs : List Addr} {its : List Value}, Vals (bs.map V.ref) its → its = bs.map Value.ref
  | [], _, .nil => rfl
  | b :: bs, _, .cons h t => by
    rw [List.map_cons, ← refs_inv t]
    exact congrArg (· :: _) h
theorem prT_all {pins : List (Addr × Obj)} {σ : L2.St} {H : Hp} {s : Shared} (I : Inv X pins σ H s) : ∀ {bs : List Addr} {kvs : List (List Key × V)}, PrT H bs kvs → ∃ xs : List (List Key × Addr × Value), KT H kvs xs ∧ Paired (fun b x => PairAt s.heap b (.ref x.2.1) x.2.2) bs xs
  | _, _, .nil => ⟨[], .nil, .nil⟩
  | _, _, .cons ⟨kq, h1, h2⟩ t => by
    obtain ⟨xs, x1, x2⟩ := prT_all I t
    obtain ⟨_, its, rv, o, ho, hc, n, hd⟩ := I.hok _ _ h1
    obtain ⟨u1, u2, rfl, r1, r2⟩ := vals2 rv
    obtain rfl : u1 = Value.ref kq := r1
    exact ⟨(_, kq, u2) :: xs, .cons ⟨rfl, h2, r2⟩ x1, .cons (.inl ⟨o, ho, hc, n, hd⟩) x2⟩
theorem cr_dictL (hc : X.calm = true) (hu : X.A.units + 3 < cLine) : CallR X (.type "dict") rDictL := by
  intro pins s σ H xs us Q I r h
  obtain ⟨p, bs, kvs, rfl, hp, hpr, hnd, hz, q⟩ := h
  obtain rfl := Vals.ref1 r
  obtain ⟨_, its, n, rv, hob⟩ := I.hok _ _ hp
  obtain ⟨xs, x1, x2⟩ := prT_all I hpr
  have l1 : kvs.length = xs.length := Paired.length x1
  have l2 : bs.length = xs.length := Paired.length x2
  have eits := refs_inv rv
  subst eits
  have hnx : (xs.map (·.1)).Nodup := by
    rw [kt_keys x1]
    exact hnd
  have his : ∀ h' : Heap, (∀ b o, s.heap.get? b = some o → h'.get? b = some o) → ∀ x ∈ xs, (tupleKind (mixKind X.prog X.w)).is h' x.1 x.2.1 := by
    intro h' hk x hx
    obtain ⟨i, hi⟩ := List.getElem?_of_mem hx
    obtain ⟨e, _, z1, z2, _⟩ := pget' x1 hi
    have k := key_of I.hok z2
    rw [← z1]
    exact tupleKind_stays.stays (fun b o _ _ e _ => hk b o e) k
  let ps : List (Value × Value) := xs.map fun x => (.ref x.2.1, x.2.2)
  have hps : ps.length = xs.length := List.length_map _
  refine call_dict_pairsH (knd := tupleKind (mixKind X.prog X.w)) (ps := xs) (n := ps.length) (PairArg.list p ((bs.map Value.ref).toArray) (fun j => bs.getD j 0) ps) (I.ok.hd hc) (by show X.A.units + 1 + 1 < cLine; omega) ⟨⟨_, n, hob, rfl, rfl, rfl⟩, ?_, fun j k v hj => ?_⟩ ⟨hps.symm, fun i key v hi => ?_⟩
    (fun h' hk x hx => his h' (fun b o e => hk b o (Nat.ne_of_lt (Heap.lt_size e)) (by simp) e) x hx) (by rw [hps, ← l1]; exact sz_small hz) fun h' tk hd' hk => ?_
  · rw [List.size_toArray, List.length_map, hps, l2]
  · rw [List.getElem?_map] at hj
    cases hx : xs[j]? with
    | none => rw [hx] at hj; cases hj
    | some x =>
      rw [hx] at hj
      cases hj
      obtain ⟨b, hb, hpa⟩ := pget' x2 hx
      have eb : bs.getD j 0 = b := by rw [List.getD_eq_getElem?_getD, hb]; rfl
      show _ = some (Value.ref (bs.getD j 0)) ∧ PairAt s.heap (bs.getD j 0) _ _
      rw [eb]
      exact ⟨by rw [List.getElem?_toArray, List.getElem?_map, hb]; rfl, hpa⟩
  · have hi' : ps[i]? = some (key, v) := hi
    rw [List.getElem?_map] at hi'
    cases hx : xs[i]? with
    | none => rw [hx] at hi'; cases hi'
    | some x =>
      rw [hx] at hi'
      cases hi'
      exact ⟨x.1, x.2.1, rfl, rfl⟩
  · rw [storedAllH_nil_of_nodup xs hnx] at hd'
    obtain ⟨o, es, ep, hq, h2, h3, h4, _, h5⟩ := hd'
    have kp : ∀ b o, s.heap.get? b = some o → h'.get? b = some o := fun b o e => hk b o (by simp) e
    have hn0 : H s.heap.objs.size = none := I.hok.fresh (Nat.le_refl _)
    have hb := I.big
    exact ⟨.ref s.heap.objs.size, _, I.laid (t' := tk) (o := .dT kvs) kp (Nat.le_refl _) ⟨sz_small hz, beq_eq_false_iff_ne.mpr (Nat.ne_of_gt hb), xs, x1.keeps (fun c ys ec => by rw [upd_ne (ne_of_none ec hn0)]; exact ec), o, es, ep, hq, h2, h3, h4, h5⟩, rfl, q _ hn0⟩
/-- dict(d), the keys' hashes unlike each other -/
def rDictD (HN : List (List Key) → Prop) : List V → Hp → VK → Prop := fun xs H Q => ∃ (p : Addr) (kvs : List (List Key × V)), xs = [.ref p] ∧ H p = some (.dT kvs) ∧ HN (kvs.map (·.1)) ∧ ∀ q, H q = none → Q (.ref q) (upd H q (.dT kvs))
theorem cr_dictD {HN : List (List Key) → Prop} (hHN : ∀ ks, HN ks → (ks.map (tupleKind (mixKind X.prog X.w)).hash).Nodup) (hu : X.A.units + 3 < cLine) : CallR X (.type "dict") (rDictD HN) := by
  intro pins s σ H xs us Q I r h
  obtain ⟨p, kvs, rfl, hp, hnd, q⟩ := h
  obtain rfl := Vals.ref1 r
  obtain ⟨z, hd, xs, x1, dd⟩ := dt_of I.hok hp
  have l1 : kvs.length = xs.length := Paired.length x1
  have ek := kt_keys x1
  have hap : (xs.map fun x => (tupleKind (mixKind X.prog X.w)).hash x.1).Nodup := by
    have := hHN _ hnd
    rw [← ek, List.map_map] at this
    exact this
  refine callType_codes (Q₁ := fun obj s₁ => obj = .ref s.heap.objs.size ∧ s₁ = { s with heap := s.heap.push { cls := .type "dict", data := .dict #[] } }) PySem.F.kt_called_dict (PySem.F.kt_typeCall_dict_1 _) PySem.F.entry_dict_init (kt_code_dict_new _ ⟨rfl, rfl⟩) ?_
  rintro obj s₁ ⟨rfl, rfl⟩
  have hnew : (s.heap.push { cls := .type "dict", data := .dict #[] }).DictOfH (tupleKind (mixKind X.prog X.w)) s.heap.objs.size [] := Heap.DictOfH.new s.heap
  have ho' : (s.heap.push { cls := .type "dict", data := .dict #[] }).DictOfH (tupleKind (mixKind X.prog X.w)) p xs := by
    obtain ⟨o, es, ep, h1, h2, h3, h4, h5, h6⟩ := dd
    exact ⟨o, es, ep, Heap.get?_push_of_some _ h1, h2, h3, h4, fun x hx => tupleKind_stays.stays (fun b o _ _ e _ => Heap.get?_push_of_some _ e) (h5 x hx), h6⟩
  have hdo : s.heap.objs.size ≠ p := by
    obtain ⟨_, _, _, hg, _⟩ := dd
    exact fun e => absurd (Heap.lt_size hg) (by rw [e]; exact Nat.lt_irrefl _)
  have hn0 : H s.heap.objs.size = none := I.hok.fresh (Nat.le_refl _)
  have hb := I.big
  refine ⟨hnew.typeIs, PySem.F.args_dict_init_2 _ _, ?_⟩
  unfold Builtin.«dict.__init__»
  refine wpAny_bind ?_
  unfold Builtin.Dict.selfAndRest
  refine wpAny_bind (wpAny_notOrdered_dict hnew.typeIs ?_)
  show wpAny _ _ (pure (s.heap.objs.size, [Value.ref p])) _ _ _
  refine wpAny_pure ?_
  show wpAny _ _ (Builtin.Dict.updateFrom "dict.__init__" s.heap.objs.size (.ref p) [] .none) _ _ _
  refine updateFrom_dictH (A := X.A.in1) (knd := tupleKind (mixKind X.prog X.w)) (kvs := []) .none (by show X.A.units + 1 + 1 < cLine; omega) hdo hd hnew ho' (.inr ⟨keyed_apart (s := { s with heap := s.heap.push { cls := .type "dict", data := .dict #[] } }) tupleKind_stays ho', hap⟩) (by rw [← l1]; simpa using z) fun h' hd' _ hs => ?_
  rw [storedAllH_nil_of_nodup xs dd.nodup] at hd'
  obtain ⟨o, es, ep, hq, h2, h3, h4, _, h5⟩ := hd'
  have kp : ∀ b o, s.heap.get? b = some o → h'.get? b = some o := fun b o e => (hs.2 b (Nat.ne_of_lt (Heap.lt_size e))).trans (Heap.get?_push_of_some _ e)
  exact ⟨rfl, .ref s.heap.objs.size, _, I.laid (t' := s.toks) (o := .dT kvs) kp (Nat.le_refl _) ⟨z, beq_eq_false_iff_ne.mpr (Nat.ne_of_gt hb), xs, x1.keeps (fun c ys ec => by rw [upd_ne (ne_of_none ec hn0)]; exact ec), o, es, ep, hq, h2, h3, h4, h5⟩, rfl, q _ hn0⟩
/-- sorted(d) -/
def rSortD : List V → Hp → VK → Prop := fun xs H Q => ∃ (d : Addr) (kvs : List (List Key × V)) (l : List (List Int)), xs = [.ref d] ∧ H d = some (.dT kvs) ∧ kvs.map (·.1) = l.map kI ∧ ∀ p ys, H p = none → Paired (fun y x => rpT x H y) ys (sortL l) → Q (.ref p) (upd H p (.lst ys))
theorem keys_T {H : Hp} : ∀ {kvs : List (List Key × V)} {xs : List (List Key × Addr × Value)} {l : List (List Int)}, KT H kvs xs → kvs.map (·.1) = l.map kI → PySem.W.EachIs (RefT H) (xs.map fun x => Value.ref x.2.1) l
  | [], [], [], .nil, _ => .nil
  | [], [], _ :: _, .nil, e => by simp at e
  | _ :: _, _ :: _, [], .cons _ _, e => by simp at e
  | _ :: _, _ :: _, _ :: _, .cons h t, e => by
    rw [List.map_cons, List.map_cons] at e
    injection e with e1 e2
    refine .cons ⟨_, rfl, ?_⟩ (keys_T t e2)
    have := h.2.1
    rw [e1, kI_V] at this
    exact this
theorem cr_sortD {k : Nat} (hr : Room k X.A) (hc : X.calm = true) : CallR X (.builtin "sorted") rSortD := by
  intro pins s σ H vs us Q I r h
  obtain ⟨d, kvs, l, rfl, hd, hl, q⟩ := h
  rw [Vals.ref1 r]
  obtain ⟨z, hs, xs, x1, o, es, ep, ho, hx, hdt, he, his, hn⟩ := dt_of I.hok hd
  have l1 : es.size = xs.length := size_of_entries he
  have l2 : kvs.length = xs.length := Paired.length x1
  have l3 : kvs.length = l.length := by have := congrArg List.length hl; simpa using this
  have hU := hr.units
  refine Calls.call_function_entry kind_sorted plain_sorted entry_sorted (args_sorted1 _) ?_
  unfold Builtin.«sorted»
  refine wpAny_bind (m := checkCount "sorted" 1 1 _) (wpAny_pure ?_)
  refine wpAny_bind (kdu_collect (kdl_raw hs hx hdt) (I.ok.hd hc) ho (by omega) fun h' tk acc hk it => ?_)
  have ea : acc.toList = xs.map fun x => Value.ref x.2.1 := by
    have hl : acc.toList.length = xs.length := by rw [Array.length_toList, it.1]; exact l1
    apply List.ext_getElem?
    intro j
    rw [List.getElem?_map]
    cases hj : acc.toList[j]? with
    | none =>
      have h1 := List.getElem?_eq_none_iff.mp hj
      rw [List.getElem?_eq_none (by omega)]
      all_goals rfl
    | some v =>
      obtain ⟨en, hen, hv⟩ := it.2 j v (by rw [← Array.getElem?_toList]; exact hj)
      have qe := entry_at he j
      rw [hen] at qe
      cases hb : xs[j]? with
      | none =>
        rw [hb] at qe
        exact nomatch (show some en = none from qe)
      | some b =>
        rw [hb] at qe
        have e2 : en = entryOfKey (tupleKind (mixKind X.prog X.w)) b := Option.some.inj qe
        rw [hv, e2]
        all_goals rfl
  generalize hits : acc.toList = its at ea
  have eI : PySem.W.EachIs (RefT H) its l := by rw [ea]; exact keys_T x1 hl
  have hzl : its.length ≤ sizeLine := by rw [ea, List.length_map]; omega
  refine wpAny_bind (wpAny_newList ?_ hzl)
  have hob : (h'.push { cls := .type "list", data := .seq its.toArray }).get? h'.objs.size = some (seqObj "list" its.toArray 0) := Heap.get?_push_size _ rfl
  have kb : ∀ b o, s.heap.get? b = some o → (h'.push { cls := .type "list", data := .seq its.toArray }).get? b = some o := fun b o e => Heap.get?_push_of_some _ (hk b o e)
  have I' : Inv X pins σ H { s with heap := h', toks := tk } := I.kept (t' := tk) hk
  have hf : H h'.objs.size = none := I'.hok.fresh (Nat.le_refl _)
  have ne0 : ∀ b o, h'.get? b = some o → b ≠ h'.objs.size := fun b o e => Nat.ne_of_lt (Heap.lt_size e)
  generalize hh2 : h'.push { cls := .type "list", data := .seq its.toArray } = h2 at hob kb ⊢
  have ka : ∀ b o, h'.get? b = some o → h2.get? b = some o := fun b o e => by rw [← hh2]; exact Heap.get?_push_of_some _ e
  have er' := reads_tup I (h := sortingHeap h2 h'.objs.size its) (fun b o e => sortingHeap_old (ne0 b o (hk b o e)) (kb b o e)) eI
  have eo := sortVals_data false eI er' (AllAlike.of alike_tup)
  obtain ⟨ys2, v2, p2⟩ := T_each eo
  obtain ⟨ep2, he2⟩ := PyProof.Rows.sortedHeap_at (vs := its) (out := (sortVals (dataKind (sortingHeap h2 h'.objs.size its) (l.map tupD)) false its its).toArray) hob
  refine wpAny_bind (wpAny_holding (wpAny_call_entry slot_list_sort ⟨_, hob, rfl⟩ entry_list_sort (list_sort_vals (s := { s with heap := h2, toks := tk }) hob (tups_sorts (s := { s with heap := sortingHeap h2 h'.objs.size its, toks := tk }) (each_map (R := fun v d => ∃ as, Reads (sortingHeap h2 h'.objs.size its) v d as) tupD er') (by show X.A.units + 1 + 1 + 2 < _; omega)) hzl ?_) (args_list_sort _)))
  refine ⟨.none, rfl, wpAny_pure ⟨_, rfl, ?_⟩⟩
  have kF : ∀ b o, h'.get? b = some o → (sortedHeap h2 h'.objs.size its (sortVals (dataKind (sortingHeap h2 h'.objs.size its) (l.map tupD)) false its its).toArray).get? b = some o := fun b o e => (PyProof.Rows.sortedHeap_old (ne0 b o e) (Heap.lt_size (ka b o e))).trans (ka b o e)
  refine ⟨.ref h'.objs.size, upd H h'.objs.size (.lst ys2), I'.laid (t' := tk) kF (Nat.le_refl _) ⟨?_, _, ep2, v2, he2⟩, rfl, q _ _ hf p2⟩
  rw [plen p2, List.length_mergeSort, ← l3]
  exact z
end
section
variable {T : Tb} {K : PySem.W.Frag} {σ : L2.St} {H : Hp} {td te : TE} {β : Type} {R : β → Rp} {l : List (List Int × β)}
theorem pd_keys : ∀ {kvs : List (List Key × V)} {l : List (List Int × β)}, PD R H kvs l → kvs.map (·.1) = (l.map (·.1)).map kI
  | _, _, .nil => rfl
  | _, _, .cons h t => by
    rw [List.map_cons, List.map_cons, List.map_cons, ← pd_keys t, h.1]
theorem er_sortD (hd : Er T td σ H (rpD R l)) : Er T (tCB rSortD (tCons td tNil)) σ H (rpL rpT (sortL (l.map (·.1)))) :=
  er_cb (ea_1 hd) fun H1 vs _ ⟨v, ev, a, kvs, h1, h2, h3⟩ => fun Q q => ⟨a, kvs, l.map (·.1), by rw [ev, h1], h2, pd_keys h3, fun p ys hp hy => q _ _ (Xt.new hp) ⟨p, ys, rfl, upd_same, pmono (T := T) (Xt.new hp) hy⟩⟩
/-- list(d.items()) -/
theorem er_listIt [m : ∀ x, Mn T (R x)] (hd : Er T td σ H (rpD R l)) : Er T (tCB rListIt (tCons (tBM0 K "dict" DX.rItemsT td) tNil)) σ H (rpL (rpPr R) l) := fun H1 e1 Q q =>
  hd H1 e1 _ fun v H2 e2 ⟨a, kvs, h1, h2, h3⟩ => by
    refine ⟨by rw [h1]; exact .inr (.inr (.inl ⟨rfl, .inr ⟨kvs, h2⟩⟩)), a, kvs, h1, rfl, h2, fun p hp => ?_⟩
    have e3 : Xt T H2 (upd H2 p (DX.itemsO p a)) := Xt.new hp
    refine ⟨p, a, kvs, rfl, upd_same, e3.dT h2, fun H3 lp bs g hl hpr => ?_⟩
    have e4 : Xt T H2 H3 := e3.trans (Xt.all g)
    refine q _ _ (e2.trans e4) ⟨lp, bs.map V.ref, rfl, hl, ?_⟩
    have z := pimp h3 fun x y w => (⟨w.1, (m y.2).mono e4 w.2⟩ : x.1 = y.1.map Sum.inl ∧ R y.2 H3 x.2)
    exact pr_join hpr z
where
  pr_join {R : β → Rp} {H3 : Hp} : ∀ {bs : List Addr} {kvs : List (List Key × V)} {l : List (List Int × β)}, PrT H3 bs kvs → PD R H3 kvs l → Paired (fun y x => rpPr R x H3 y) (bs.map V.ref) l
    | _, _, _, .nil, .nil => .nil
    | _, _, _, .cons ⟨kq, a1, a2⟩ t, .cons ⟨b1, b2⟩ u => .cons ⟨_, kq, _, rfl, a1, by rw [← kI_V, show kI _ = _ from b1.symm]; exact a2, b2⟩ (pr_join t u)
theorem pr_split {H : Hp} : ∀ {ys : List V} {l : List (List Int × β)}, Paired (fun y x => rpPr R x H y) ys l → ∃ bs kvs, ys = bs.map V.ref ∧ PrT H bs kvs ∧ PD R H kvs l
  | _, _, .nil => ⟨[], [], rfl, .nil, .nil⟩
  | _, _, .cons ⟨t, kq, w, h1, h2, h3, h4⟩ r => by
    obtain ⟨bs, kvs, e1, e2, e3⟩ := pr_split r
    exact ⟨t :: bs, (kI _, w) :: kvs, by rw [h1, e1]; rfl, .cons ⟨kq, h2, by rw [kI_V]; exact h3⟩ e2, .cons ⟨rfl, h4⟩ e3⟩
theorem kI_nodup {ks : List (List Int)} (h : ks.Nodup) : (ks.map kI).Nodup := by
  rw [List.nodup_iff_pairwise_ne, List.pairwise_map] at *
  exact h.imp fun hne e => hne (kI_inj e)
/-- dict(list of pairs) -/
theorem er_dictL [m : ∀ x, Mn T (R x)] (h : Er T te σ H (rpL (rpPr R) l)) (hn : (l.map (·.1)).Nodup) (hz : l.length ≤ 100000) : Er T (tCB rDictL (tCons te tNil)) σ H (rpD R l) :=
  er_cb (ea_1 h) fun H1 vs _ ⟨v, ev, a, ys, h1, h2, h3⟩ => fun Q q => by
    obtain ⟨bs, kvs, e1, e2, e3⟩ := pr_split h3
    exact ⟨a, bs, kvs, by rw [ev, h1], by rw [← e1]; exact h2, e2, by rw [pd_keys e3]; exact kI_nodup hn, by rw [plen e3]; exact hz, fun p hp => q _ _ (Xt.new hp) ⟨p, kvs, rfl, upd_same, pimp e3 fun x y w => ⟨w.1, (m y.2).mono (Xt.new hp) w.2⟩⟩⟩
def sets4 : List (List Int) := [[], [0], [1], [2], [3], [0, 1], [0, 2], [0, 3], [1, 2], [1, 3], [2, 3], [0, 1, 2], [0, 1, 3], [0, 2, 3], [1, 2, 3], [0, 1, 2, 3]]
theorem hash_inj : ∀ a ∈ sets4, ∀ b ∈ sets4, reduceHash (Builtin.Tuple.tupleHashOf (a.map hashInt)) = reduceHash (Builtin.Tuple.tupleHashOf (b.map hashInt)) → a = b := by decide +kernel
/-- keys that may be copied -/
def KeysOk (ks : List (List Int)) : Prop := ks.Nodup ∧ ∀ k ∈ ks, k ∈ sets4
def HN4 (ks : List (List Key)) : Prop := ∃ l, ks = l.map kI ∧ KeysOk l
theorem hash_kI (P : Program) (w : World) (a : List Int) : (tupleKind (mixKind P w)).hash (kI a) = reduceHash (Builtin.Tuple.tupleHashOf (a.map hashInt)) := by
  show tupleKeyHash (mixKind P w) (kI a) = _
  unfold tupleKeyHash
  rw [List.map_map]
  rfl
theorem hn4 (P : Program) (w : World) : ∀ ks, HN4 ks → (ks.map (tupleKind (mixKind P w)).hash).Nodup := by
  rintro ks ⟨l, rfl, hn, hm⟩
  rw [List.map_map, List.nodup_iff_pairwise_ne, List.pairwise_map]
  rw [List.nodup_iff_pairwise_ne] at hn
  refine hn.imp_of_mem fun ha hb hne e => hne (hash_inj _ (hm _ ha) _ (hm _ hb) ?_)
  have e2 : (tupleKind (mixKind P w)).hash (kI _) = (tupleKind (mixKind P w)).hash (kI _) := e
  rw [hash_kI, hash_kI] at e2
  exact e2
/-- dict(d) -/
theorem er_dictD [m : ∀ x, Mn T (R x)] (hd : Er T td σ H (rpD R l)) (hk : KeysOk (l.map (·.1))) : Er T (tCB (rDictD HN4) (tCons td tNil)) σ H (rpD R l) :=
  er_cb (ea_1 hd) fun H1 vs _ ⟨v, ev, a, kvs, h1, h2, h3⟩ => fun Q q => ⟨a, kvs, by rw [ev, h1], h2, ⟨_, pd_keys h3, hk⟩, fun p hp => q _ _ (Xt.new hp) ⟨p, kvs, rfl, upd_same, pimp h3 fun x y w => ⟨w.1, (m y.2).mono (Xt.new hp) w.2⟩⟩⟩
end
end K8
set_option maxHeartbeats 4000000
namespace K8
open PySem L2 PySem.Spec PyProof.Rows
/-- a def whose code object is known -/
theorem okC {P : Program} {w : World} {K : PySem.W.Frag} {mg : Str → Option Value} {base : Heap} {x qual : Str} {st : Stmt} {f : Addr} {fd : FuncData} {N ps : List Str} {k : Nat} {sp : Sp} {c : Addr} (F : Fun K x qual st f fd) (hc : fd.code = .ref c) (S : FnScope N ps (defScope st)) (len : ∀ vs H Q E, sp vs H Q E → vs.length = ps.length)
    (hbody : ∀ (A : Around) (outer : List Env) (s : Shared) (H : Hp) (vs : List V) (Q : VK) (E : XK), Room k (A.deeper (envOfC qual (defScope st) s.heap.objs.size f (.ref c))) → sp vs H Q E →
      ∃ t, PSs (cxOf CX0 P w K mg base N qual (defScope st) f (.ref c) A outer s H E).nox (defBody st) t ∧ t { nx := fun _ H' => Q .non H', rt := Q } (start N vs) H) : FnOk P w K mg base CX0 (k + 1) f fd ps sp := by
  obtain ⟨oc, od, kV, doc, pm, an, cdv, ct, osl, rfl, lk, hcd⟩ := F.ex
  obtain rfl : cdv = .ref c := hc
  refine fn_of lk hcd S len fun A outer s H vs Q E hr hsp => ?_
  obtain ⟨t, h, q⟩ := hbody A outer s H vs Q E hr hsp
  exact ⟨t, h.nox, q⟩
theorem pa_starK {X : Cx} {e : Expr} {es : List Expr} {te : TE} {t : TA} {p : Pos} (K : PySem.W.Frag) (he : PE X e te) (hr : PA X es t) (hK : X.K = K := by rfl) (hs : starEach (.Starred e p :: es) X.env = (true, eval e X.env) :: starEach es X.env := by rfl) : PA X (.Starred e p :: es) (StX.tStar K te t) := by
  subst hK
  exact StX.pa_star he hr hs
/-- the sets of some columns, as they are made -/
def setsRaw (ps : List Int) : List (List Int) := ps.foldl (fun f p => f ++ f.map (· ++ [p])) [[]]
theorem setsRaw_snoc (ps : List Int) (p : Int) : setsRaw (ps ++ [p]) = setsRaw ps ++ (setsRaw ps).map (· ++ [p]) := by
  unfold setsRaw
  rw [List.foldl_append]
  rfl
theorem setsRaw_len : ∀ n (ps : List Int), ps.length = n → (setsRaw ps).length = 2 ^ n ∧ ∀ s ∈ setsRaw ps, s.length ≤ n
  | 0, ps, h => by
    cases List.length_eq_zero_iff.mp h
    exact ⟨rfl, fun s hs => by rw [List.mem_singleton.mp hs]; exact Nat.le_refl _⟩
  | n + 1, ps, h => by
    have hne : ps ≠ [] := fun z => by rw [z] at h; cases h
    have e := (List.dropLast_concat_getLast hne).symm
    have hl : ps.dropLast.length = n := by rw [List.length_dropLast, h]; rfl
    obtain ⟨h1, h2⟩ := setsRaw_len n ps.dropLast hl
    rw [e, setsRaw_snoc]
    refine ⟨by rw [List.length_append, List.length_map, h1, Nat.pow_succ]; omega, fun s hs => ?_⟩
    rcases List.mem_append.mp hs with hs | hs
    · exact Nat.le_succ_of_le (h2 s hs)
    · obtain ⟨t, ht, rfl⟩ := List.mem_map.mp hs
      rw [List.length_append]
      exact Nat.succ_le_succ (h2 t ht)
def setsOf (ps : List Int) : List (List Int) := bySize (setsRaw ps)
def prSets (T : Tb) : List V → Hp → Rp → Prop := fun vs H R => ∃ v ps, vs = [v] ∧ rpT ps H v ∧ ps.length ≤ 4 ∧ LamX.Tabs T H ∧ R = rpL rpT (setsOf ps)
abbrev lamQ : Str := "sets_of.<locals>.<lambda>"
/-- what the table of sets_of is -/
structure LamT (base : Heap) (mg : Str → Option Value) (T : Tb) (c P : Addr) : Prop where
  tb : LamX.TabB base mg c P
  mem : (P, lamQ) ∈ T
  all : ∀ p ∈ T, p.1 = P → p.2 = lamQ
theorem scSetsOf : FnScope ["places", "found", "place", "some"] ["places"] (defScope (topS 22)) := ⟨rfl, rfl, rfl, by decide +kernel, rfl, by decide +kernel, by decide +kernel⟩
section
variable {P : Program} {w : World} {K : PySem.W.Frag} {mg : Str → Option Value} {base : Heap} {T : Tb} {σ : L2.St} {H : Hp} {te ta tb tc : TE} {C : Addr} {rows : List (List Int)} {n : Nat} {D : Ends} {tz : TS}
theorem er_sortBy {l : List (List Int)} (h : Er T te σ H (rpL rpT l)) (hl : l.length ≤ 1000) (hl2 : ∀ s ∈ l, s.length ≤ 1000) (hT : LamX.Tabs T H) : Er T (tSortBy T te) σ H (rpL rpT (bySize l)) := fun H1 e Q q =>
  h H1 e _ fun v H2 e2 hv => ⟨l, hv, hl, hl2, (e.trans e2).2 hT, fun u H3 e3 hu => q u H3 (e2.trans e3) hu⟩
theorem ok_sets_of {f c Pt : Addr} {fd : FuncData} (F : Fun K "sets_of" "sets_of" (topS 22) f fd) (m : mg "sets_of" = some (.ref f)) (N : Nm mg) (hc : fd.code = .ref c) (L : LamT base mg T c Pt) : Has P w K mg base 2 "sets_of" ["places"] (Pm T 1 (prSets T)) := by
  refine Has.of F m (F.binds fun _ _ _ _ _ _ us hl => match us, hl with | [_], _ => rfl) (okC F hc scSetsOf (fun vs H Q E h => h.1) (fun A outer s H vs Q E hr h => ?_))
  obtain ⟨_, R, ⟨v, ps, rfl, hv, hl, hT, rfl⟩, q⟩ := h
  have nd := scSetsOf.nd
  refine ⟨_, pss_cons (ps_set (i := 1) nd rfl (Or.inl rfl) (pe_lst (pa_cons (pe_tup pa_nil) pa_nil)))
    (pss_cons (ps_for PassesOwn.never rfl (pi_tup (pv 0)) (pg_name (i := 2) nd rfl (Or.inr rfl))
      (pss_one (ps_set (i := 1) nd rfl (Or.inl rfl) (pe_lst (StX.pa_star (pv 1) (StX.pa_star (pe_lc (own := [("some", 3)]) (g := gName 3) (tt := tYes) rfl nd (pi_list (pv 1)) (blkOk_by (N := ["places", "found", "place", "some"]) (sc := defScope (topS 22)) (by decide +kernel))
        (fun _ _ _ _ _ => pg_name (i := 3) nd rfl (Or.inl rfl)) (fun _ _ _ _ _ => pts_nil) (fun _ _ _ _ _ => pe_tup (pa_starK K (pv 3) (pa_cons (pv 2) pa_nil)))) pa_nil))))))
    (pss_one (ps_ret (pe_sortBy L.tb rfl hr L.mem L.all rfl (by decide +kernel) ⟨rfl, rfl, rfl, by decide +kernel, rfl, rfl⟩ (by decide) (fun _ _ _ _ _ _ => rfl) N.len N.sorted rfl (pv 1))))), ?_⟩
  refine of_start (σ := [some v, none, none, none]) rfl ?_
  refine q_asg (T := T) (R := rpL rpT (setsRaw [])) (er_lst (ea_1 (R := rpT []) (er_tupI (ns := []) ea_nil (by show 0 ≤ 100000; decide))) (fun _ vs ⟨x, e, _⟩ => by rw [e]; show 1 ≤ 100000; decide) fun H1 vs p _ ⟨x, e, hx⟩ hp => ?_) fun x H1 e1 hx => ?_
  · subst e
    exact ⟨p, [x], rfl, upd_same, .cons (Mn.mono (T := T) (Xt.new hp) hx) .nil⟩
  refine q_forE (T := T) (es_tupT (er_var (rpT ps) rfl (Mn.mono e1 hv))) (fun i σ' H' => ∃ x z1 z2, σ' = [some v, some x, z1, z2] ∧ rpL rpT (setsRaw (ps.take i)) H' x) (fun H2 e2 => ⟨x, none, none, rfl, Mn.mono e2 hx⟩) (fun H3 e3 i y σ1 Ha Hb hi ea I eb hy => ?_) (fun σ' H' e3 I => ?_)
  · obtain ⟨x, z1, z2, rfl, hx⟩ := I
    obtain ⟨p, hp, hy'⟩ := hy
    cases (show y = V.int p from hy')
    have hx := Mn.mono eb hx
    have hlt : (ps.take i).length = i := by rw [List.length_take]; omega
    obtain ⟨h1, h2⟩ := setsRaw_len i (ps.take i) hlt
    have h3 : 2 ^ i ≤ 2 ^ 4 := Nat.pow_le_pow_right (by decide) (by omega)
    refine s_asg (T := T) (R := rpL rpT (setsRaw (ps.take (i + 1)))) (er_lst (ea_starL (F := rpT) (er_var (rpL rpT (setsRaw (ps.take i))) rfl hx) (ea_starL (F := rpT) (er_lcM (F := rpT) (RB := rpT) (fun s => s ++ [p]) (es_list (er_var (rpL rpT (setsRaw (ps.take i))) rfl hx)) (by omega) (fun _ => rfl) fun s u H4 hm e4 hu => ?_) ea_nil)) (fun H4 vs ⟨a, r, e, pa, b, r', e', pb, e''⟩ => ?_) fun H4 vs q2 _ ⟨a, r, e, pa, b, r', e', pb, e''⟩ hq => ?_) fun u H4 e4 hu => ⟨(ea.trans eb).trans e4, u, _, _, rfl, hu⟩
    · refine er_tupI ((ea_starT (er_var (rpT s) rfl hu) (ea_1 (R := rpN p) (er_v rfl))).imp fun H5 vs _ ⟨r', e5, x', e6, e7⟩ => by rw [e5, e6, show x' = V.int _ from e7, List.map_append]; rfl) (by rw [List.length_append]; have := h2 s hm; show _ + 1 ≤ 100000; omega)
    · rw [e, e', e'', List.length_append, List.length_append, plen pa, plen pb, List.length_map]
      show _ + (_ + 0) ≤ 100000
      omega
    · subst e e' e''
      rw [List.append_nil, take_next hp, setsRaw_snoc]
      exact ⟨q2, _, rfl, upd_same, papp (pmono (T := T) (Xt.new hq) pa) (pmono (T := T) (Xt.new hq) pb)⟩
  · obtain ⟨x, z1, z2, rfl, hx⟩ := I
    rw [List.take_length] at hx
    obtain ⟨h1, h2⟩ := setsRaw_len ps.length ps rfl
    have h3 : 2 ^ ps.length ≤ 2 ^ 4 := Nat.pow_le_pow_right (by decide) hl
    have e0 := e1.trans e3
    exact s_ret (T := T) (er_sortBy (er_var (rpL rpT (setsRaw ps)) rfl hx) (by omega) (fun s hs => by have := h2 s hs; omega) (e0.2 hT)) fun u H5 e5 hu => q u H5 (e0.trans e5) hu
end
end K8
set_option maxHeartbeats 4000000
namespace K8
open PySem L2 PySem.Spec PyProof.Rows
abbrev sKeysInit : Stmt := inClass (topS 26) 0
abbrev sKeysShows : Stmt := inClass (topS 26) 2
/-- its attributes -/
def kf1 (l : Addr) : List (Str × V) := putF "least" (.ref l) []
def kf (l p : Addr) : List (Str × V) := putF "pairs" (.ref p) (kf1 l)
theorem kf_least (l p : Addr) : (kf l p).lookup ("least" : Str) = some (.ref l) := by
  unfold kf kf1
  rw [lookup_putF, if_neg (by decide), lookup_putF, if_pos rfl]
theorem kf_pairs (l p : Addr) : (kf l p).lookup ("pairs" : Str) = some (.ref p) := by
  unfold kf
  rw [lookup_putF, if_pos rfl]
/-- the pairs -/
abbrev Prs := List (List Int × (Int × Int))
def rpKeys (CK : Addr) (ls : List (List Int)) (l : Prs) : Rp := fun H v => ∃ a dx pl pp, v = .ref a ∧ H a = some (.ins CK dx (kf pl pp)) ∧ rpL rpT ls H (.ref pl) ∧ rpD rpP l H (.ref pp)
instance {T : Tb} (CK : Addr) (ls : List (List Int)) (l : Prs) : Mn T (rpKeys CK ls l) := ⟨fun e ⟨a, dx, pl, pp, h1, h2, h3, h4⟩ => ⟨a, dx, pl, pp, h1, e.ins h2, Mn.mono e h3, Mn.mono e h4⟩⟩
structure KeysC (P : Program) (w : World) (K : PySem.W.Frag) (mg : Str → Option Value) (base : Heap) (CK : Addr) : Prop where
  cl : Cls K CK
  nL : NoAttr K CK "least"
  nP : NoAttr K CK "pairs"
  mgC : mg "Keys" = some (.ref CK)
def spKeysInit (T : Tb) (CK : Addr) : Sp := fun vs H Q _ => ∃ (x dx : Addr) (v u : V) (ls : List (List Int)) (l : Prs) (H0 : Hp), vs = [.ref x, v, u] ∧ H x = some (.ins CK dx []) ∧ H0 x = none ∧ Xt T H0 H ∧ rpL rpT ls H v ∧ rpD rpP l H u ∧ KeysOk (l.map (·.1)) ∧
  ∀ t t' H4, Xt T H0 H4 → H4 x = some (.ins CK dx (kf t t')) → rpL rpT ls H4 (.ref t) → rpD rpP l H4 (.ref t') → Q .non H4
theorem scKeysInit : FnScope ["self", "least", "pairs"] ["self", "least", "pairs"] (defScope sKeysInit) := ⟨rfl, rfl, rfl, by decide +kernel, rfl, by decide +kernel, by decide +kernel⟩
/-- lists and dicts stay where an instance changes -/
theorem insL {C dx : Addr} {fs : List (Str × V)} {o : HO} {H : Hp} {p : Addr} {ls : List (List Int)} {v : V} (h : rpL rpT ls H v) (hp : H p = some (.ins C dx fs)) : rpL rpT ls (upd H p o) v := by
  obtain ⟨a, ys, h1, h2, h3⟩ := h
  exact ⟨a, ys, h1, by rw [upd_ne (ne_of h2 hp fun z => nomatch z)]; exact h2, pimp h3 fun _ x z => Ft.flat z hp (fun _ e => by cases e)⟩
theorem insD {C dx : Addr} {fs : List (Str × V)} {o : HO} {H : Hp} {p : Addr} {l : Prs} {v : V} (h : rpD rpP l H v) (hp : H p = some (.ins C dx fs)) : rpD rpP l (upd H p o) v := by
  obtain ⟨a, ys, h1, h2, h3⟩ := h
  exact ⟨a, ys, h1, by rw [upd_ne (ne_of h2 hp fun z => nomatch z)]; exact h2, pimp h3 fun _ x z => ⟨z.1, Ft.flat z.2 hp (fun _ e => by cases e)⟩⟩
section
variable {P : Program} {w : World} {K : PySem.W.Frag} {mg : Str → Option Value} {base : Heap} {T : Tb} {σ : L2.St} {H : Hp} {te ta tb tc : TE} {C CK : Addr} {rows : List (List Int)} {n : Nat}
theorem s_fld {D : Ends} {tv : TE} {R : Rp} {i : Nat} {x C dx : Addr} {fs : List (Str × V)} {f : Str} (hs : σ[i]? = some (some (.ref x))) (hx : H x = some (.ins C dx fs)) (c : Cls K C) (n : NoAttr K C f) (l : fs.length < 1000) (h : Er T tv σ H R) (k : ∀ v H1, Xt T H H1 → R H1 v → D.nx σ (upd H1 x (.ins C dx (putF f v fs)))) :
    sFld K (tVar i) tv f D σ H := h H (Xt.refl T H) _ fun v H1 e1 hv => ⟨.ref x, hs, x, C, dx, fs, rfl, e1.ins hx, c, n, l, k v H1 e1 hv⟩
theorem q_fld {D : Ends} {tz : TS} {tv : TE} {R : Rp} {i : Nat} {x C dx : Addr} {fs : List (Str × V)} {f : Str} (hs : σ[i]? = some (some (.ref x))) (hx : H x = some (.ins C dx fs)) (c : Cls K C) (n : NoAttr K C f) (l : fs.length < 1000) (h : Er T tv σ H R) (k : ∀ v H1, Xt T H H1 → R H1 v → tz D σ (upd H1 x (.ins C dx (putF f v fs)))) :
    tSeq (sFld K (tVar i) tv f) tz D σ H := s_fld (D := { D with nx := tz D }) hs hx c n l h k
theorem ok_keysInit {f : Addr} {fd : FuncData} (F : Fun K "__init__" "Keys.__init__" sKeysInit f fd) (N : Nm mg) (KC : KeysC P w K mg base CK) : FnOk P w K mg base CX0 1 f fd ["self", "least", "pairs"] (spKeysInit T CK) := by
  refine F.ok scKeysInit (fun vs H Q E h => ?_) (fun cdv A outer s H vs Q E hr h => ?_)
  · obtain ⟨x, dx, v, u, ls, l, H0, rfl, _⟩ := h
    rfl
  obtain ⟨x, dx, v, u, ls, l, H0, rfl, hx, hx0, e0, hv, hu, hk, q⟩ := h
  refine ⟨_, pss_cons (ps_fld (pv 0) (pe_callTy call_list_of (by rfl) N.list (by decide +kernel) (pa_cons (pv 1) pa_nil)) rfl)
    (pss_one (ps_fld (pv 0) (pe_callTy (cr_dictD (hn4 P w) (by have := hr.units; show A.units + 3 + 3 < _; have h2 : (A.deeper (envOfC "Keys.__init__" (defScope sKeysInit) s.heap.objs.size f cdv)).units = A.units + 3 := rfl; omega)) (by rfl) N.dict (by decide +kernel) (pa_cons (pv 2) pa_nil)) rfl)), ?_⟩
  refine of_start (σ := [some (.ref x), some v, some u]) rfl ?_
  refine q_fld (T := T) (R := rpL rpT ls) rfl hx KC.cl KC.nL (by show 0 < 1000; decide) (er_lstL (F := rpT) (er_var (rpL rpT ls) rfl hv)) fun r H1 e1 hr1 => ?_
  obtain ⟨t, ys, er, h1, h2⟩ := id hr1
  subst er
  have hx1 := e1.ins hx
  have hu1 : rpD rpP l (upd H1 x (.ins CK dx (kf1 t))) u := insD (Mn.mono e1 hu) hx1
  have e01 : Xt T H0 (upd H1 x (.ins CK dx (kf1 t))) := (e0.trans e1).mut hx0 hx1 True.intro
  refine s_fld (T := T) (R := rpD rpP l) rfl (upd_same (H := H1) (a := x) (o := .ins CK dx (kf1 t))) KC.cl KC.nP (by show 1 < 1000; decide) (er_dictD (R := rpP) (er_var (rpD rpP l) rfl hu1) hk) fun r H2 e2 hr2 => ?_
  obtain ⟨t', kvs, er, h3, h4⟩ := id hr2
  subst er
  have hx2 := e2.ins (upd_same (H := H1) (a := x) (o := .ins CK dx (kf1 t)))
  exact q t t' _ ((e01.trans e2).mut hx0 hx2 True.intro) upd_same (insL (Mn.mono e2 (insL hr1 hx1)) hx2) (insD hr2 hx2)
/-- Keys(least, pairs) -/
theorem er_mkKeys {ls : List (List Int)} {l : Prs} (ha : Er T ta σ H (rpL rpT ls)) (hb : Er T tb σ H (rpD rpP l)) (hk : KeysOk (l.map (·.1))) : Er T (tMake CK (spKeysInit T CK) [] E0 (tCons ta (tCons tb tNil))) σ H (rpKeys CK ls l) := fun H0 e Q q =>
  (ea_2 ha hb) H0 e _ fun vs H1 e1 ⟨v, u, ev, hv, hu⟩ => fun x dx nx ndx hne => by
    have s1 : Xt T H1 (upd H1 dx (.own x)) := Xt.new ndx
    have nx' : upd H1 dx (.own x) x = none := by rw [upd_ne hne.symm]; exact nx
    have s2 := s1.trans (Xt.new (T := T) (o := .ins CK dx []) nx')
    exact ⟨x, dx, v, u, ls, l, H1, by rw [ev]; rfl, upd_same, nx, s2, Mn.mono s2 hv, Mn.mono s2 hu, hk, fun t t' H4 e4 h1 h2 h3 => ⟨rfl, q _ _ (e1.trans e4) ⟨x, dx, t, t', rfl, h1, h2, h3⟩⟩⟩
theorem er_least {ls : List (List Int)} {l : Prs} (KC : KeysC P w K mg base CK) (h : Er T te σ H (rpKeys CK ls l)) : Er T (tFld K te "least") σ H (rpL rpT ls) := fun H1 e Q q =>
  h H1 e _ fun v H2 e2 ⟨a, dx, pl, pp, h1, h2, h3, h4⟩ => ⟨a, CK, dx, _, .ref pl, h1, h2, KC.cl, KC.nL, kf_least pl pp, q _ H2 e2 h3⟩
theorem er_pairs {ls : List (List Int)} {l : Prs} (KC : KeysC P w K mg base CK) (h : Er T te σ H (rpKeys CK ls l)) : Er T (tFld K te "pairs") σ H (rpD rpP l) := fun H1 e Q q =>
  h H1 e _ fun v H2 e2 ⟨a, dx, pl, pp, h1, h2, h3, h4⟩ => ⟨a, CK, dx, _, .ref pp, h1, h2, KC.cl, KC.nP, kf_pairs pl pp, q _ H2 e2 h4⟩
end
end K8
set_option maxHeartbeats 4000000
namespace K8
open PySem PySem.W PyProof.Rows
/-- two sorted rearrangements are one -/
theorem perm_sorted {α : Type} {r : α → α → Prop} : ∀ {l m : List α}, (∀ a ∈ l, ∀ b ∈ l, r a b → r b a → a = b) → l.Perm m → l.Pairwise r → m.Pairwise r → l = m
  | [], m, _, h, _, _ => (List.Perm.eq_nil h.symm).symm
  | a :: l, m, hA, h, hl, hm => by
    cases m with
    | nil => exact absurd h.length_eq (by simp)
    | cons b m =>
      have e : a = b := by
        rcases List.mem_cons.mp (h.mem_iff.mp (List.mem_cons_self (a := a) (l := l))) with e | h1
        · exact e
        · rcases List.mem_cons.mp (h.mem_iff.mpr (List.mem_cons_self (a := b) (l := m))) with e | h2
          · exact e.symm
          · exact hA a List.mem_cons_self b (List.mem_cons_of_mem _ h2) ((List.pairwise_cons.mp hl).1 b h2) ((List.pairwise_cons.mp hm).1 a h1)
      subst e
      rw [perm_sorted (fun x hx y hy => hA x (List.mem_cons_of_mem _ hx) y (List.mem_cons_of_mem _ hy)) h.cons_inv (List.pairwise_cons.mp hl).2 (List.pairwise_cons.mp hm).2]
theorem le_tup (a b : List Int) : dataLe false tupD a b = decide (a ≤ b) := by
  have e := congrFun (congrFun (dataLe_rows (β := List Int) id) a) b
  exact e
theorem lt_tup (a b : List Int) : dataLt (tupD a) (tupD b) = decide (a < b) := by
  unfold tupD
  rw [dataLt_tuple]
  exact dataLt_ints a b
theorem eqvAll_ints : ∀ a b : List Int, PyData.eqvAll (a.map .int) (b.map .int) = decide (a = b)
  | [], [] => by simp [PyData.eqvAll]
  | [], _ :: _ => by simp [PyData.eqvAll]
  | _ :: _, [] => by simp [PyData.eqvAll]
  | x :: xs, y :: ys => by
    rw [List.map_cons, List.map_cons, eqv_all_cons, eqvAll_ints xs ys]
    by_cases h1 : x = y <;> by_cases h2 : xs = ys <;> simp [PyData.eqv, h1, h2]
theorem eqv_tup (a b : List Int) : PyData.eqv (.tuple (a.map .int)) (.tuple (b.map .int)) = decide (a = b) := by
  rw [← eqvAll_ints]
  simp [PyData.eqv]
theorem le_key (a b : List Int) : dataLe false keyD a b = decide (a.length < b.length ∨ (a.length = b.length ∧ a ≤ b)) := by
  show (!dataLt (keyD b) (keyD a)) = _
  unfold keyD
  have h2 := alike_tup b a
  unfold tupD at h2
  rw [dataLt_pair (by simp [alike]) h2, dataLt_int]
  have h3 := lt_tup b a
  unfold tupD at h3
  rw [h3, eqv_tup]
  by_cases e : b.length = a.length
  · have e2 : PyData.eqv (.int (b.length : Int)) (.int (a.length : Int)) = true := by simp [PyData.eqv, e]
    rw [if_pos e2]
    by_cases e3 : b = a
    · subst e3
      simp
    · have e4 : decide (b = a) = false := decide_eq_false e3
      rw [e4, if_neg (by decide), ← decide_not]
      refine decide_eq_decide.mpr ⟨fun h => .inr ⟨e.symm, List.not_lt.mp h⟩, fun h => ?_⟩
      rcases h with h | h
      · omega
      · exact List.not_lt.mpr h.2
  · have e2 : ¬ PyData.eqv (.int (b.length : Int)) (.int (a.length : Int)) = true := by
      simp [PyData.eqv]
      omega
    rw [if_neg e2, ← decide_not]
    refine decide_eq_decide.mpr ⟨fun h => .inl (by omega), fun h => by omega⟩
theorem sortL_perm (l : List (List Int)) : (sortL l).Perm l := List.mergeSort_perm _ _
theorem le_total : TotalLe (dataLe (β := List Int) false tupD) := sortLe_total _ _ _
theorem sortL_sorted (l : List (List Int)) : (sortL l).Pairwise (fun a b => a ≤ b) := by
  have h := sort_pairwise le_total l
  exact h.imp fun {a b} e => by
    rw [le_tup] at e
    exact of_decide_eq_true e
theorem sortL_eq (a b : List (List Int)) : sortL a = sortL b ↔ a.Perm b := by
  refine ⟨fun e => (sortL_perm a).symm.trans (by rw [e]; exact sortL_perm b), fun e => ?_⟩
  exact perm_sorted (r := fun a b => a ≤ b) (fun x _ y _ h1 h2 => List.le_antisymm h1 h2) ((sortL_perm a).trans (e.trans (sortL_perm b).symm)) (sortL_sorted a) (sortL_sorted b)
theorem key_total : TotalLe (dataLe (β := List Int) false keyD) := sortLe_total _ _ _
def leK (a b : List Int) : Prop := a.length < b.length ∨ (a.length = b.length ∧ a ≤ b)
instance (a b : List Int) : Decidable (leK a b) := by
  unfold leK
  exact inferInstance
theorem bySize_sorted (l : List (List Int)) : (bySize l).Pairwise leK := by
  have h := sort_pairwise key_total l
  exact h.imp fun {a b} e => by
    rw [le_key] at e
    exact of_decide_eq_true e
theorem bySize_is {l m : List (List Int)} (h : l.Perm m) (hm : m.Pairwise leK) : bySize l = m := by
  refine perm_sorted (r := leK) (fun a _ b _ h1 h2 => ?_) ((List.mergeSort_perm _ _).trans h) (bySize_sorted l) hm
  rcases h1 with h1 | h1
  · rcases h2 with h2 | h2 <;> omega
  · rcases h2 with h2 | h2
    · omega
    · exact List.le_antisymm h1.2 h2.2
/-- every column -/
def evy (n : Nat) : List Int := (List.range n).map fun i : Nat => (i : Int)
/-- the sets of n columns -/
def setsN (n : Nat) : List (List Int) := sets4.filter fun s => s.all fun x => decide (x < n)
theorem setsOf_evy {n : Nat} (h1 : 1 ≤ n) (h4 : n ≤ 4) : setsOf (evy n) = setsN n := by
  have : n = 1 ∨ n = 2 ∨ n = 3 ∨ n = 4 := by omega
  rcases this with rfl | rfl | rfl | rfl <;> exact bySize_is (List.isPerm_iff.mp (by decide)) (by decide)
/-- as the law makes them -/
def lawSets (n : Nat) : List (List Int) := (List.range (n + 1)).flatMap fun k => (sortL (setsRaw (evy n))).filter fun s => decide (s.length = k)
theorem sortL_is {l m : List (List Int)} (h : l.Perm m) (hm : m.Pairwise fun a b => a ≤ b) : sortL l = m :=
  perm_sorted (r := fun a b => a ≤ b) (fun x _ y _ h1 h2 => List.le_antisymm h1 h2) ((sortL_perm l).trans h) (sortL_sorted l) hm
theorem lawSets_eq {n : Nat} (h1 : 1 ≤ n) (h4 : n ≤ 4) : lawSets n = setsN n := by
  have : n = 1 ∨ n = 2 ∨ n = 3 ∨ n = 4 := by omega
  unfold lawSets
  rcases this with rfl | rfl | rfl | rfl
  · rw [sortL_is (m := [[], [0]]) (List.isPerm_iff.mp (by decide)) (by decide)]; decide
  · rw [sortL_is (m := [[], [0], [0, 1], [1]]) (List.isPerm_iff.mp (by decide)) (by decide)]; decide
  · rw [sortL_is (m := [[], [0], [0, 1], [0, 1, 2], [0, 2], [1], [1, 2], [2]]) (List.isPerm_iff.mp (by decide)) (by decide)]; decide
  · rw [sortL_is (m := [[], [0], [0, 1], [0, 1, 2], [0, 1, 2, 3], [0, 1, 3], [0, 2], [0, 2, 3], [0, 3], [1], [1, 2], [1, 2, 3], [1, 3], [2], [2, 3], [3]]) (List.isPerm_iff.mp (by decide)) (by decide)]; decide
theorem setsN_mem {n : Nat} {s : List Int} : s ∈ setsN n ↔ s ∈ sets4 ∧ ∀ x ∈ s, x < n := by
  unfold setsN
  rw [List.mem_filter, List.all_eq_true]
  simp
theorem sets4_nodup : sets4.Nodup := by decide
theorem sets4_nn : ∀ s ∈ sets4, (∀ x ∈ s, 0 ≤ x) ∧ s.length ≤ 4 := by decide
theorem setsN_nodup (n : Nat) : (setsN n).Nodup := sets4_nodup.filter _
/-- what lies in a later one does not hold it -/
theorem sets4_later : sets4.Pairwise fun a b => within b a = false := by decide
theorem setsN_later (n : Nat) : (setsN n).Pairwise fun a b => within b a = false := sets4_later.filter _
theorem setsN_len (n : Nat) : (setsN n).length ≤ 16 := List.length_filter_le _ _
theorem setsN_cols {n : Nat} {s : List Int} (h : s ∈ setsN n) : Cols s n := by
  obtain ⟨h1, h2⟩ := setsN_mem.mp h
  obtain ⟨h3, h4⟩ := sets4_nn s h1
  exact ⟨fun p hp => ⟨h3 p hp, h2 p hp⟩, by omega⟩
theorem evy_cols {n : Nat} (h : n ≤ 4) : Cols (evy n) n := by
  refine ⟨fun p hp => ?_, by unfold evy; rw [List.length_map, List.length_range]; omega⟩
  obtain ⟨i, hi, rfl⟩ := List.mem_map.mp hp
  have := List.mem_range.mp hi
  omega
theorem evy_len (n : Nat) : (evy n).length = n := by unfold evy; rw [List.length_map, List.length_range]
end K8
set_option maxHeartbeats 4000000
namespace K8
open PySem L2 PySem.Spec PyProof.Rows
/-- untracked, or a table -/
def Nw (H : Hp) (p : Addr) : Prop := ∀ u, H p = some u → ∃ ps, u = .tbl ps
theorem Nw.of {T : Tb} {H H' : Hp} {p : Addr} (e : Xt T H H') (h : H' p = none) : Nw H p := fun u hu => Classical.byContradiction fun z => by
  have := e.1 p u hu fun ps q => z ⟨ps, q⟩
  rw [h] at this
  cases this
theorem u1 {k : Nat} {A : Around} (r : Room k A) : A.units + 1 < cLine := by have := r.un; omega
theorem u3 {k : Nat} {A : Around} (r : Room k A) : A.units + 3 < cLine := by have := r.un; omega
theorem u65 {k : Nat} {A : Around} (r : Room k A) : A.units + 65 < cLine := by have := r.un; omega
theorem Xt.mutW {T : Tb} {H H' : Hp} {p : Addr} {o u : HO} (e : Xt T H H') (h : Nw H p) (hp : H' p = some u) (hc : Cnt u) : Xt T H (upd H' p o) := by
  refine ⟨fun b x q n => ?_, fun t => ?_⟩
  · rw [upd_ne (fun z => by
      rw [z] at q
      obtain ⟨ps, hps⟩ := h x q
      exact n ps hps)]
    exact e.1 b x q n
  · intro q hq
    obtain ⟨ps, h1, h2, h3⟩ := e.2 t q hq
    have n1 : q.1 ≠ p := fun z => by
      rw [z, hp] at h1
      cases h1
      exact hc
    refine ⟨ps, by rw [upd_ne n1]; exact h1, h2, fun pos cv hcv => ?_⟩
    obtain ⟨c, e1, e2⟩ := h3 pos cv hcv
    have n2 : c ≠ p := fun z => by
      rw [z, hp] at e2
      unfold LamX.CodeO at e2
      cases e2
      exact hc
    exact ⟨c, e1, by rw [upd_ne n2]; exact e2⟩
/-- a new list, a new dict -/
def rpNL (H0 : Hp) : Rp := fun H v => ∃ p, v = .ref p ∧ H p = some (.lst []) ∧ Nw H0 p
def rpND (H0 : Hp) : Rp := fun H v => ∃ p, v = .ref p ∧ H p = some (.dT []) ∧ Nw H0 p
instance {T : Tb} (H0 : Hp) : Mn T (rpNL H0) := ⟨fun e ⟨p, h1, h2, h3⟩ => ⟨p, h1, e.lst h2, h3⟩⟩
instance {T : Tb} (H0 : Hp) : Mn T (rpND H0) := ⟨fun e ⟨p, h1, h2, h3⟩ => ⟨p, h1, e.dT h2, h3⟩⟩
section
variable {P : Program} {w : World} {K : PySem.W.Frag} {mg : Str → Option Value} {base : Heap} {T : Tb} {σ : L2.St} {H : Hp} {te ta tb tc : TE} {C CK : Addr} {rows : List (List Int)} {n : Nat} {D : Ends} {tz : TS}
theorem er_newL : Er T (tLst tNil) σ H (rpNL H) := fun H1 e Q q => ⟨sz_small (Nat.zero_le _), fun p hp => q _ _ (Xt.new hp) ⟨p, rfl, upd_same, .of e hp⟩⟩
theorem er_newD : Er T tDNewT σ H (rpND H) := fun H1 e Q q => fun p hp => q _ _ (Xt.new hp) ⟨p, rfl, upd_same, .of e hp⟩
theorem rgV_evy (n : Nat) : rgV 0 n = (evy n).map V.int := by
  unfold rgV evy
  rw [List.map_map]
  have e : ((n : Int) - 0).toNat = n := by omega
  rw [e]
  apply List.map_congr_left
  intro i _
  show V.int (0 + (i : Int)) = V.int (i : Int)
  rw [Int.zero_add]
theorem er_tupRg {n : Nat} (h : Er T ta σ H (rpN (n : Int))) (hn : n ≤ 100000) : Er T (tTupRg (tRg1 ta)) σ H (rpT (evy n)) := fun H1 e Q q =>
  h H1 e _ fun v H2 e2 hv => ⟨(n : Int), hv, .of_le (by omega) (by omega) (by omega) (by omega), fun p hp => q _ _ (e2.trans (Xt.new hp)) ⟨p, rfl, by rw [upd_same, rgV_evy]⟩⟩
theorem er_lstRg {n : Nat} (h : Er T ta σ H (rpN (n : Int))) (hn : n ≤ 100000) : Er T (tLstRg (tRg1 ta)) σ H (rpL rpN (evy n)) := fun H1 e Q q =>
  h H1 e _ fun v H2 e2 hv => ⟨(n : Int), hv, .of_le (by omega) (by omega) (by omega) (by omega), fun p hp => q _ _ (e2.trans (Xt.new hp)) ⟨p, _, rfl, by rw [upd_same, rgV_evy], pints _⟩⟩
end
/-- a set tells all columns -/
def good (rows : List (List Int)) (n : Nat) (s : List Int) : Bool := told rows s (evy n)
def goods (rows : List (List Int)) (n : Nat) : List (List Int) := (setsN n).filter (good rows n)
/-- pairs against the sets -/
def Against (rows : List (List Int)) (n : Nat) (ss : List (List Int)) (prs : Prs) : Prop := prs.map (·.1) = ss.filter (fun s => !good rows n s) ∧ ∀ p ∈ prs, ∃ i j : Nat, p.2 = ((i : Int), (j : Int)) ∧ Unlike rows p.1 (evy n) i j
def prFindKeys (T : Tb) (C CK : Addr) : List V → Hp → Rp → Prop := fun vs H R => ∃ v rows n, vs = [v] ∧ rpTab C rows H v ∧ Good rows n ∧ LamX.Tabs T H ∧ R = rpE (Against rows n (setsN n)) (rpKeys CK (leastOf (goods rows n)))
theorem scFindKeys : FnScope ["table", "every", "pairs", "good", "some", "pair"] ["table"] (defScope (topS 28)) := ⟨rfl, rfl, rfl, by decide +kernel, rfl, by decide +kernel, by decide +kernel⟩
structure KeysM (P : Program) (w : World) (K : PySem.W.Frag) (mg : Str → Option Value) (base : Heap) (T : Tb) (CK : Addr) : Prop extends KeysC P w K mg base CK where
  made : ∃ f fd, Mk K CK f ∧ FnOk P w K mg base CX0 1 f fd ["self", "least", "pairs"] (spKeysInit T CK) ∧ Binds K fd ["self", "least", "pairs"] []
section
variable {P : Program} {w : World} {K : PySem.W.Frag} {mg : Str → Option Value} {base : Heap} {T : Tb} {σ : L2.St} {H : Hp} {te ta tb tc : TE} {C CK : Addr} {rows : List (List Int)} {n : Nat} {D : Ends} {tz : TS}
theorem good_len {n : Nat} (G : Good rows n) : n ≤ 4 := G.w4
theorem pdmono {l : Prs} {kvs : List (List Key × V)} {H H' : Hp} (e : Xt T H H') (p : PD rpP H kvs l) : PD rpP H' kvs l := pimp p fun _ _ z => ⟨z.1, Mn.mono e z.2⟩
theorem pdflat {l : Prs} {kvs : List (List Key × V)} {H : Hp} {p : Addr} {u o : HO} (hp : H p = some u) (n : ∀ xs, u ≠ .tup xs) (q : PD rpP H kvs l) : PD rpP (upd H p o) kvs l := pimp q fun _ _ z => ⟨z.1, Ft.flat z.2 hp n⟩
theorem not_take {α : Type} {l : List α} {i : Nat} {x : α} (hn : l.Nodup) (h : l[i]? = some x) : x ∉ l.take i := fun hx => by
  obtain ⟨j, hj⟩ := List.getElem?_of_mem hx
  rw [List.getElem?_take] at hj
  split at hj
  · have := (List.getElem?_inj (List.getElem?_eq_some_iff.mp h).1 hn).mp (h.trans hj.symm)
    omega
  · cases hj
theorem against_ok {prs : Prs} (h : Against rows n (setsN n) prs) : KeysOk (prs.map (·.1)) := by
  rw [h.1]
  exact ⟨(setsN_nodup n).filter _, fun k hk => (setsN_mem.mp (List.mem_filter.mp hk).1).1⟩
theorem against_snoc {ss : List (List Int)} {s : List Int} {prs : Prs} {i j : Nat} (hn : s ∉ ss) (h : Against rows n ss prs) (hu : Unlike rows s (evy n) i j) : Against rows n (ss ++ [s]) (putD prs s ((i : Int), (j : Int))) := by
  have hg : good rows n s = false := told_no hu
  have hno : (prs.any fun p => decide (p.1 = s)) = false := by
    rw [Bool.eq_false_iff]
    intro e
    obtain ⟨p, hp, e2⟩ := List.any_eq_true.mp e
    have : p.1 ∈ prs.map (·.1) := List.mem_map.mpr ⟨p, hp, rfl⟩
    rw [h.1, of_decide_eq_true e2] at this
    exact hn (List.mem_filter.mp this).1
  unfold putD
  rw [if_neg (by rw [hno]; decide)]
  refine ⟨?_, fun p hp => ?_⟩
  · rw [List.map_append, List.filter_append, h.1, List.filter_cons_of_pos (by rw [hg]; rfl)] <;> rfl
  · rcases List.mem_append.mp hp with hp | hp
    · exact h.2 p hp
    · rw [List.mem_singleton.mp hp]
      exact ⟨i, j, rfl, hu⟩
theorem against_skip {ss : List (List Int)} {s : List Int} {prs : Prs} (h : Against rows n ss prs) (hg : good rows n s = true) : Against rows n (ss ++ [s]) prs := by
  refine ⟨?_, h.2⟩
  rw [List.filter_append, h.1, List.filter_cons_of_neg (by rw [hg]; decide), List.filter_nil, List.append_nil]
theorem er_sets {n : Nat} (h : Er T te σ H (rpT (evy n))) (hT : LamX.Tabs T H) (h1 : 1 ≤ n) (h4 : n ≤ 4) : Er T (tCall (Pm T 1 (prSets T)) [] E0 (tCons te tNil)) σ H (rpL rpT (setsN n)) :=
  er_call (ea_1 h) fun H1 vs e ⟨v, e1, e2⟩ => ⟨by rw [e1]; rfl, v, evy n, e1, e2, by rw [evy_len]; exact h4, e.2 hT, by rw [setsOf_evy h1 h4]⟩
theorem ok_find_keys {f : Addr} {fd : FuncData} (F : Fun K "find_keys" "find_keys" (topS 28) f fd) (m : mg "find_keys" = some (.ref f)) (N : Nm mg) (TM : TabM P w K mg base T C) (KM : KeysM P w K mg base T CK) (GT : Has P w K mg base 1 "check_table" ["table"] (Pm T 1 (prCheckTable C)))
    (GS : Has P w K mg base 2 "sets_of" ["places"] (Pm T 1 (prSets T))) (GU : Has P w K mg base 4 "unlike_pair" ["table", "places", "others"] (Pm T 3 (prUnlikePair C))) (GL : Has P w K mg base 2 "least_of" ["good"] (Pm T 1 prLeastOf)) :
    Has P w K mg base 5 "find_keys" ["table"] (Pm T 1 (prFindKeys T C CK)) := by
  refine Has.of F m (F.binds fun _ _ _ _ _ _ us hl => match us, hl with | [_], _ => rfl) (F.ok scFindKeys (fun vs H Q E h => h.1) (fun cdv A outer s H vs Q E hr h => ?_))
  obtain ⟨_, R, ⟨v, rows, n, rfl, hv, G, hT, rfl⟩, q⟩ := h
  obtain ⟨f1, fd1, G1, m1, k1, b1⟩ := GT
  obtain ⟨f2, fd2, G2, m2, k2, b2⟩ := GS
  obtain ⟨f3, fd3, G3, m3, k3, b3⟩ := GU
  obtain ⟨f4, fd4, G4, m4, k4, b4⟩ := GL
  obtain ⟨f5, fd5, M5, G5, b5⟩ := KM.made
  obtain ⟨pw, gw, fdw, Pw, Gw, bw⟩ := TM.wd
  have nd := scFindKeys.nd
  refine ⟨_, pss_cons (ps_expr (pe_call G1 (hr.mono (by decide)) (by rfl) m1 k1 b1 .nil pass0 (pa_cons (pv 0) pa_nil)))
    (pss_cons (ps_par3 (i := 1) (j := 2) (l := 3) rfl nd rfl rfl rfl (by decide) (by decide) (by decide) rfl rfl rfl (pa_cons (pe_tupRg rfl rfl N.tuple (prg_1 rfl N.range (pe_prop (pv 0) TM.cl Pw Gw (hr.mono (by decide)) bw .nil pass0 rfl))) (pa_cons pe_dnewT (pa_cons (pe_lst pa_nil) pa_nil))) (by rfl))
    (pss_cons (ps_for PassesOwn.never rfl (pi_list (pe_call G2 (hr.mono (by decide)) (by rfl) m2 k2 b2 .nil pass0 (pa_cons (pv 1) pa_nil))) (pg_name (i := 4) nd rfl (Or.inl rfl))
      (pss_cons (ps_set (i := 5) nd rfl (Or.inl rfl) (pe_call G3 hr (by rfl) m3 k3 b3 .nil pass0 (pa_cons (pv 0) (pa_cons (pv 4) (pa_cons (pv 1) pa_nil)))))
      (pss_one (ps_if (pt_cmp (pc_isN (pv 5)) (nomark _))
        (pss_one (ps_expr (pe_bm PySem.F.plainAttrs_list PySem.F.slot_list_append PySem.F.type_list_append mt_append (pv 3) (pa_cons (pv 4) pa_nil))))
        (pss_one (ps_dput (u1 hr) (pv 2) (pv 4) (pv 5) rfl))))))
    (pss_one (ps_ret (pe_make M5 G5 (hr.mono (by decide)) (by rfl) KM.mgC b5 .nil pass0 (pa_cons (pe_call G4 (hr.mono (by decide)) (by rfl) m4 k4 b4 .nil pass0 (pa_cons (pv 3) pa_nil)) (pa_cons (pv 2) pa_nil))))))), ?_⟩
  refine of_start (σ := [some v, none, none, none, none, none]) rfl ?_
  have n4 := G.w4
  have n1 := G.w1
  refine q_drop (T := T) (R := rpV .non) (er_call (ea_1 (er_var (rpTab C rows) rfl hv)) fun H1 vs _ ⟨x, e1, e2⟩ => ⟨by rw [e1]; rfl, x, rows, e1, e2, rfl⟩) fun _ H1 e1 _ => ?_
  refine q_par3 (T := T) (ea_3 (er_tupRg (n := n) (er_width (er_var (rpTab C rows) rfl (Mn.mono e1 hv)) G) (by omega)) er_newD er_newL) fun vs H2 e2 ⟨ve, vp, vg, evs, he, ⟨p, ep, hp, np⟩, ⟨g, eg, hg, ng⟩⟩ => ⟨ve, vp, vg, evs, ?_⟩
  subst ep eg
  have hT2 := (e1.trans e2).2 hT
  refine q_forL (T := T) (F := rpT) (l := setsN n) (er_sets (er_var (rpT (evy n)) rfl he) hT2 n1 n4) fun a ys H3 e3 ha hpr => ?_
  have hp3 := e3.dT hp
  have hg3 := e3.lst hg
  have nag : a ≠ g := fun z => by
    rw [z, hg3] at ha
    have e5 : [] = ys := by injection Option.some.inj ha
    have e6 := plen hpr
    rw [← e5] at e6
    have h7 : [] ∈ setsN n := setsN_mem.mpr ⟨by decide, fun x hx => by simp at hx⟩
    rw [List.length_eq_zero_iff.mp e6.symm] at h7
    cases h7
  have e13 := e2.trans e3
  have nd9 := setsN_nodup n
  have l16 := setsN_len n
  refine ⟨fun i σ' H' => (∃ z1 z2, σ' = [some v, some ve, some (.ref p), some (.ref g), z1, z2]) ∧ Xt T H1 H' ∧ H' a = some (.lst ys) ∧ Paired (fun y x => rpT x H' y) ys (setsN n) ∧ rpT (evy n) H' ve ∧ (∃ gs, H' g = some (.lst gs) ∧ Paired (fun y x => rpT x H' y) gs (((setsN n).take i).filter (good rows n))) ∧
    ∃ kvs prs, H' p = some (.dT kvs) ∧ PD rpP H' kvs prs ∧ Against rows n ((setsN n).take i) prs, ⟨⟨none, none, rfl⟩, e13, ha, hpr, Mn.mono e3 he, ⟨[], hg3, .nil⟩, [], [], hp3, .nil, rfl, fun p hp => by cases hp⟩, fun i σ' H' I => I.2.2.1, fun i y s σ1 Ha hy hs _ I => ?_, fun σ' H' I => ?_⟩
  · obtain ⟨⟨z1, z2, rfl⟩, eX, haA, hprA, heA, ⟨gs, hgA, hgs⟩, kvs, prs, hpA, hkv, hag⟩ := I
    have hsm := List.mem_of_getElem? hs
    have hys : rpT s Ha y := by
      obtain ⟨x', h1, h2⟩ := pget hprA hy
      rw [hs] at h1
      cases h1
      exact h2
    have eo := e1.trans eX
    have lgs : gs.length ≤ 16 := by
      rw [plen hgs]
      exact Nat.le_trans (List.length_filter_le _ _) (Nat.le_trans (by rw [List.length_take]; omega) l16)
    have lkv : kvs.length ≤ 16 := by
      rw [plen hkv, ← List.length_map (f := fun q : List Int × (Int × Int) => q.1), hag.1]
      exact Nat.le_trans (List.length_filter_le _ _) (Nat.le_trans (by rw [List.length_take]; omega) l16)
    refine q_asg (T := T) (R := rpUnlike rows s (evy n)) (er_unlike (er_var (rpTab C rows) rfl (Mn.mono eo hv)) G (er_var (rpT s) rfl hys) (er_var (rpT (evy n)) rfl heA) (setsN_cols hsm) (evy_cols n4)) fun u H5 e5 hu => ?_
    refine s_if (T := T) (et_test (er_b (er_isNone (er_var (rpUnlike rows s (evy n)) rfl hu)))) (fun hb H6 e6 => ?_) (fun hb H6 e6 => ?_)
    · have hgd : good rows n s = true := hb.symm
      have e56 := e5.trans e6
      have hg6 := e56.lst hgA
      refine s_app (T := T) (R := rpT s) rfl hg6 (by omega) (er_var (rpT s) rfl (Mn.mono e56 hys)) fun w7 H7 e7 hw => ?_
      have e57 := e56.trans e7
      have hg7 := e7.lst hg6
      refine ⟨⟨_, _, rfl⟩, (eX.trans e57).mutW ng hg7 True.intro, by rw [upd_ne nag]; exact e57.lst haA, pflat hg7 (pmono e57 hprA), Ft.flat (Mn.mono e57 heA) hg7 (fun _ z => by cases z), ⟨_, upd_same, ?_⟩, kvs, prs, by rw [upd_ne (ne_of (e57.dT hpA) hg7 fun z => nomatch z)]; exact e57.dT hpA, pdflat hg7 (fun _ z => by cases z) (pdmono e57 hkv), ?_⟩
      · rw [take_next hs, List.filter_append, List.filter_cons_of_pos hgd]
        exact papp (pflat hg7 (pmono e57 hgs)) (.cons (Ft.flat hw hg7 fun _ z => by cases z) .nil)
      · rw [take_next hs]
        exact against_skip hag hgd
    · have hgd : good rows n s = false := hb.symm
      have e56 := e5.trans e6
      obtain ⟨i1, j1, hu1, hu2⟩ : ∃ i1 j1 : Nat, rpT [(i1 : Int), (j1 : Int)] H5 u ∧ Unlike rows s (evy n) i1 j1 := by
        rcases hu with ⟨_, h⟩ | h
        · have : good rows n s = true := decide_eq_true h
          rw [hgd] at this
          cases this
        · exact h
      have hp6 := e56.dT hpA
      refine s_dput (T := T) (R := rpT [(i1 : Int), (j1 : Int)]) (k := s) rfl hp6 (by omega) (er_var (rpT [(i1 : Int), (j1 : Int)]) rfl (Mn.mono e6 hu1)) (er_var (rpT s) rfl (Mn.mono e56 hys)) fun w7 H7 e7 hw => ?_
      have e57 := e56.trans e7
      have hp7 := e7.dT hp6
      have hg7 := e57.lst hgA
      refine ⟨⟨_, _, rfl⟩, (eX.trans e57).mutW np hp7 True.intro, by rw [upd_ne (ne_of (e57.lst haA) hp7 fun z => nomatch z)]; exact e57.lst haA, pflatD hp7 (pmono e57 hprA), Ft.flat (Mn.mono e57 heA) hp7 (fun _ z => by cases z), ⟨gs, by rw [upd_ne (ne_of hg7 hp7 fun z => nomatch z)]; exact hg7, ?_⟩, _, putD prs s ((i1 : Int), (j1 : Int)), upd_same, pd_put (R := rpP) (pdflat hp7 (fun _ z => by cases z) (pdmono e57 hkv)) (Ft.flat hw hp7 fun _ z => by cases z), ?_⟩
      · rw [take_next hs, List.filter_append, List.filter_cons_of_neg (by rw [hgd]; decide), List.filter_nil, List.append_nil]
        exact pflatD hp7 (pmono e57 hgs)
      · rw [take_next hs]
        exact against_snoc (not_take nd9 hs) hag hu2
  · obtain ⟨⟨z1, z2, rfl⟩, eX, haA, hprA, heA, ⟨gs, hgA, hgs⟩, kvs, prs, hpA, hkv, hag⟩ := I
    rw [List.take_length] at hgs hag
    refine s_ret (T := T) (er_mkKeys (CK := CK) (ls := leastOf (goods rows n)) (l := prs) (er_call (ea_1 (er_var (rpL rpT (goods rows n)) rfl ⟨g, gs, rfl, hgA, hgs⟩)) fun H5 vs _ ⟨x, e5, e6⟩ => ⟨by rw [e5]; rfl, x, goods rows n, e5, e6, ?_, fun s hs => ?_, rfl⟩) (er_var (rpD rpP prs) rfl ⟨p, kvs, rfl, hpA, hkv⟩) (against_ok hag)) fun u H5 e5 hu => q u H5 ((e1.trans eX).trans e5) ⟨prs, hag, hu⟩
    · exact Nat.le_trans (List.length_filter_le _ _) (Nat.le_trans l16 (by decide))
    · exact (setsN_cols (List.mem_filter.mp hs).1).2
def prKeys (T : Tb) (C : Addr) : List V → Hp → Rp → Prop := fun vs H R => ∃ v rows n, vs = [v] ∧ rpTab C rows H v ∧ Good rows n ∧ LamX.Tabs T H ∧ R = rpL rpT (leastOf (goods rows n))
theorem scKeysF : FnScope ["table"] ["table"] (defScope (topS 29)) := ⟨rfl, rfl, rfl, by decide +kernel, rfl, by decide +kernel, by decide +kernel⟩
theorem ok_keys {f : Addr} {fd : FuncData} (F : Fun K "keys" "keys" (topS 29) f fd) (m : mg "keys" = some (.ref f)) (N : Nm mg) (KC : KeysC P w K mg base CK) (GF : Has P w K mg base 5 "find_keys" ["table"] (Pm T 1 (prFindKeys T C CK))) :
    Has P w K mg base 6 "keys" ["table"] (Pm T 1 (prKeys T C)) := by
  refine Has.of F m (F.binds fun _ _ _ _ _ _ us hl => match us, hl with | [_], _ => rfl) (F.ok scKeysF (fun vs H Q E h => h.1) (fun cdv A outer s H vs Q E hr h => ?_))
  obtain ⟨_, R, ⟨v, rows, n, rfl, hv, G, hT, rfl⟩, q⟩ := h
  obtain ⟨f1, fd1, G1, m1, k1, b1⟩ := GF
  refine ⟨_, pss_one (ps_ret (pe_fld (pe_call G1 hr (by rfl) m1 k1 b1 .nil pass0 (pa_cons (pv 0) pa_nil)) rfl)), ?_⟩
  refine of_start (σ := [some v]) rfl ?_
  refine s_ret (T := T) (R := rpL rpT (leastOf (goods rows n))) ?_ q
  intro H1 e1 Q1 q1
  refine (er_call (R := rpE (Against rows n (setsN n)) (rpKeys CK (leastOf (goods rows n)))) (ea_1 (er_var (rpTab C rows) rfl hv)) fun H5 vs e5 ⟨x, e6, e7⟩ => ⟨by rw [e6]; rfl, x, rows, n, e6, e7, G, e5.2 hT, rfl⟩) H1 e1 _ fun u H2 e2 hu => ?_
  obtain ⟨prs, hag, a, dx, pl, pp, h1, h2, h3, h4⟩ := hu
  exact ⟨a, CK, dx, _, .ref pl, h1, h2, KC.cl, KC.nL, kf_least pl pp, q1 _ H2 e2 h3⟩
end
end K8
set_option maxHeartbeats 4000000
namespace K8
open PySem L2 PySem.Spec PyProof.Rows
/-- a set told once: as long as the list if nothing stands twice -/
theorem nodup_perm {α : Type} [DecidableEq α] : ∀ {M l : List α}, M.Nodup → (∀ x ∈ M, x ∈ l) → l.length ≤ M.length → M.Perm l
  | [], l, _, _, h => by
    rw [List.length_eq_zero_iff.mp (Nat.le_zero.mp h)]
  | x :: M, l, hn, hs, h => by
    obtain ⟨h1, h2⟩ := List.nodup_cons.mp hn
    have hx : x ∈ l := hs x List.mem_cons_self
    have p := List.perm_cons_erase hx
    have e := List.length_erase_of_mem hx
    refine (List.Perm.cons x (nodup_perm (l := l.erase x) h2 (fun y hy => ?_) ?_)).trans p.symm
    · have hne : y ≠ x := fun e => h1 (e ▸ hy)
      exact (List.mem_erase_of_ne hne).2 (hs y (List.mem_cons_of_mem _ hy))
    · rw [List.length_cons] at h
      omega
theorem nodup_len {α : Type} [DecidableEq α] {M l : List α} (hn : M.Nodup) (h1 : ∀ x ∈ M, x ∈ l) (h2 : ∀ x ∈ l, x ∈ M) : M.length = l.length ↔ l.Nodup := by
  refine ⟨fun e => (nodup_perm hn h1 (Nat.le_of_eq e.symm)).nodup_iff.mp hn, fun hl => ?_⟩
  rcases Nat.le_total l.length M.length with h | h
  · exact (nodup_perm hn h1 h).length_eq
  · exact (nodup_perm hl h2 h).length_eq.symm
section
variable {X : Cx}
/-- len of such a set -/
def rLenSetT (P : Program) (w : World) : List V → Hp → VK → Prop := fun xs H Q => ∃ (a : Addr) (L : List (Addr × List Int)), xs = [.ref a] ∧ H a = some (SetTO P w a L) ∧ (∀ p ∈ L, H p.1 = some (.tup (p.2.map V.int))) ∧ ((L.map (·.2)).Nodup → Q (.int ((L.length : Nat) : Int)) H)
theorem cr_lenSetT : CallR X (.builtin "len") (rLenSetT X.prog X.w) := by
  intro pins s σ H xs us Q I r h
  obtain ⟨a, L, rfl, ha, ht, q⟩ := h
  rw [Vals.ref1 r]
  have R0 : SetT0 X.prog X.w s.heap a L := (show ObjOk X.prog X.w H s.heap a (SetTO X.prog X.w a L) from I.hok a _ ha).1
  obtain ⟨es, ep, t, R⟩ := R0.full fun p hp => I.isT (SqT.of (K := X.K) (ht p hp))
  obtain ⟨o, ho, hex, hd⟩ := R.ob
  have hsz := R.size
  have hfew := R.few
  refine call_len_set ho hex hd R.fits (by rw [hsz]; omega) ?_
  refine ⟨.int ((L.length : Nat) : Int), H, I.tok _, ⟨_, by rw [hsz]⟩, q R.nd⟩
end
section
variable {T : Tb} {K : PySem.W.Frag} {P : Program} {w : World} {σ : L2.St} {H : Hp} {te ta tb : TE} {l : List (List Int)}
theorem refs_T {H : Hp} : ∀ {ys : List V} {l : List (List Int)}, Paired (fun y x => rpT x H y) ys l → ∃ ks : List (Addr × List Int), ys = ks.map (fun p => V.ref p.1) ∧ ks.map (·.2) = l ∧ ∀ p ∈ ks, H p.1 = some (.tup (p.2.map V.int))
  | _, _, .nil => ⟨[], rfl, rfl, fun p hp => by cases hp⟩
  | _, _, .cons ⟨a, h1, h2⟩ t => by
    obtain ⟨ks, e1, e2, e3⟩ := refs_T t
    refine ⟨(a, _) :: ks, by rw [h1, e1]; rfl, by rw [List.map_cons, e2], fun p hp => ?_⟩
    rcases List.mem_cons.mp hp with e | hp
    · rw [e]; exact h2
    · exact e3 p hp
/-- len(set(xs)): xs's length if nothing stands twice in it -/
theorem er_lenSet (h : Er T te σ H (rpL rpT l)) (hz : l.length < 64) : Er T (tCB (rLenSetT P w) (tCons (tCB (rSetOfT K P w) (tCons te tNil)) tNil)) σ H (rpE (fun n : Int => (n = l.length) ↔ l.Nodup) rpN) := fun H1 e1 Q q =>
  h H1 e1 _ fun v H2 e2 ⟨a, ys, h1, h2, h3⟩ => by
    obtain ⟨ks, k1, k2, k3⟩ := refs_T h3
    have hl : ks.length = l.length := by rw [← k2, List.length_map]
    refine ⟨a, ks, by rw [h1], by rw [← k1]; exact SqL.of h2, fun p hp => SqT.of (k3 p hp), by omega, fun b L hb s1 s2 => ?_⟩
    refine ⟨b, L, rfl, upd_same, fun p hp => ?_, fun nd => q _ _ (e2.trans (Xt.new hb)) ⟨_, ?_, rfl⟩⟩
    · have := k3 p (s1 p hp)
      rw [upd_ne (ne_of_none this hb)]
      exact this
    · rw [← nodup_len (M := L.map (·.2)) nd (l := l) (fun x hx => ?_) (fun x hx => ?_), List.length_map]
      · exact Int.ofNat_inj
      · obtain ⟨p, hp, rfl⟩ := List.mem_map.mp hx
        rw [← k2]
        exact List.mem_map.mpr ⟨p, s1 p hp, rfl⟩
      · rw [← k2] at hx
        obtain ⟨p, hp, rfl⟩ := List.mem_map.mp hx
        exact s2 p hp
/-- a tuple in a list of tuples -/
theorem er_inTL {s : List Int} (ha : Er T ta σ H (rpT s)) (hb : Er T tb σ H (rpL rpT l)) : Er T (tOp (rInD K) ta tb) σ H (rpV (.bl (l.contains s))) := by
  have e : ((l.map dT).any fun z => PyData.eqv z (dT s)) = l.contains s := by
    rw [List.any_map, List.contains_eq_any_beq]
    refine congrArg (List.any l) (funext fun y => ?_)
    show PyData.eqv (dT y) (dT s) = (s == y)
    rw [eqvT, Bool.eq_iff_iff, beq_iff_eq, decide_eq_true_eq]
    exact ⟨Eq.symm, Eq.symm⟩
  rw [← e]
  exact er_op ha hb fun H1 x y _ h1 h2 => fun Q q => ⟨dT s, _, dpT h1, dpL h2, shT s, shL l, q _ H1 (Xt.refl T H1) rfl⟩
theorem tyes_in {k : Bool → Hp → Prop} (h : k true H) : tYes σ H k := h
/-- two loops, the inner one over a list that stands -/
theorem er_lc2 {α β γ : Type} {wi : TI} {tt1 : TT} {te1 : TE} {vs vs1 : List Nat} {j j1 : Nat} {l : List α} {l2 : List β} {F : α → Rp} {G : β → Rp} {RB : γ → Rp} (sel : α → β → Bool) (val : α → β → γ) {a2 : Addr} {ys2 : List V} [mF : ∀ x, Mn T (F x)] [mG : ∀ x, Mn T (G x)] [m : ∀ x, Mn T (RB x)] [hfF : ∀ x, Fl (F x)] [hfl : ∀ x, Fl (RB x)] [hfG : ∀ x, Fl (G x)]
    (hs : Es T wi σ H l.length (fun i H x => ∃ e, l[i]? = some e ∧ F e H x)) (hn : l.length ≤ 300) (hn2 : l2.length ≤ 300) (h2 : H a2 = some (.lst ys2)) (hp2 : Paired (fun y x => G x H y) ys2 l2)
    (hw : ∀ x, wipe ((wipe σ vs).set j (some x)) vs = wipe σ vs) (hw1 : ∀ x y, wipe (((wipe ((wipe σ vs).set j (some x)) vs1)).set j1 (some y)) vs1 = wipe ((wipe σ vs).set j (some x)) vs1)
    (hin : ∀ x H1, Xt T H H1 → Er T te1 ((wipe σ vs).set j (some x)) H1 (rpV (.ref a2)))
    (turn : ∀ a x b y H1, a ∈ l → b ∈ l2 → Xt T H H1 → F a H1 x → G b H1 y → Et T tt1 ((wipe ((wipe σ vs).set j (some x)) vs1).set j1 (some y)) H1 (· = sel a b) ∧ (sel a b = true → Er T te ((wipe ((wipe σ vs).set j (some x)) vs1).set j1 (some y)) H1 (RB (val a b)))) :
    Er T (tLc2 wi (gName j) tYes (iList K te1) (gName j1) tt1 te vs vs1) σ H (rpL RB (l.flatMap fun a => (l2.filter (sel a)).map (val a))) := fun H1 e1 Q q => hs H1 e1 _ fun J H2 e2 w => fun Dl hD => by
  have e12 := e1.trans e2
  have na : a2 ≠ Dl := fun z => by
    have := e12.lst h2
    rw [z, hD] at this
    cases this
  let Pv : List γ → Hp → Prop := fun acc H' => Xt T H2 H' ∧ ∃ ys, H' Dl = some (.lst ys) ∧ Paired (fun y x => RB x H' y) ys acc
  let A : Nat → List γ := fun i => (l.take i).flatMap fun a => (l2.filter (sel a)).map (val a)
  have lenA : ∀ i, (A i).length ≤ 300 * 300 := fun i => by
    have : ∀ l : List α, (l.flatMap fun a => (l2.filter (sel a)).map (val a)).length ≤ l.length * 300 := by
      intro l
      induction l with
      | nil => exact Nat.zero_le _
      | cons x l ih =>
        rw [List.flatMap_cons, List.length_append, List.length_map, List.length_cons, Nat.succ_mul]
        have := List.length_filter_le (sel x) l2
        omega
    have h3 := this (l.take i)
    have h4 : (l.take i).length ≤ 300 := by rw [List.length_take]; omega
    exact Nat.le_trans h3 (Nat.mul_le_mul_right 300 h4)
  refine ⟨fun i mm H' => mm = l.length - i ∧ i ≤ l.length ∧ Pv (A i) H', ⟨l.length, by simp, Nat.zero_le _, Xt.new hD, [], upd_same, .nil⟩, ?_⟩
  rintro i mm H' ⟨rfl, hi, p1, ys, p2, p3⟩
  by_cases hlt : i < l.length
  · refine .inr ⟨w.goes i H' hlt p1, fun H'' => Pv (A (i + 1)) H'', fun H'' p' => ⟨l.length - (i + 1), by omega, rfl, hlt, p'⟩, fun x H3 hy => ?_⟩
    obtain ⟨y1, a, ha, hax⟩ := w.yields i H' x H3 hlt p1 hy
    refine ⟨hw x, ?_⟩
    refine tyes_in ?_
    dsimp only
    refine iteT ?_
    refine hin x H3 ((e12.trans p1).trans y1) H3 (Xt.refl T H3) _ fun v H4 e4 hv => ⟨a2, hv, ?_⟩
    have eA : Xt T H2 H4 := (p1.trans y1).trans e4
    have h24 := eA.lst (e12.lst h2)
    have p4 := pmono (e12.trans eA) hp2
    refine ⟨⟨ys2, SqL.of h24⟩, fun jj kk H5 => kk = l2.length - jj ∧ jj ≤ l2.length ∧ Pv (A i ++ ((l2.take jj).filter (sel a)).map (val a)) H5 ∧ F a H5 x ∧ H5 a2 = some (.lst ys2) ∧ Paired (fun y x => G x H5 y) ys2 l2, ⟨l2.length, by simp, Nat.zero_le _, ⟨eA, ys, ?_, ?_⟩, (mF a).mono e4 hax, h24, p4⟩, ?_⟩
    · exact (y1.trans e4).lst p2
    · show Paired _ ys (A i ++ [])
      rw [List.append_nil]
      exact pmono (y1.trans e4) p3
    · rintro jj kk H5 ⟨rfl, hjj, ⟨r1, zs, r2, r3⟩, r4, r5, r6⟩
      by_cases hlt2 : jj < l2.length
      · refine .inr ⟨?_, fun H6 => (jj + 1 ≤ l2.length ∧ Pv (A i ++ ((l2.take (jj + 1)).filter (sel a)).map (val a)) H6 ∧ F a H6 x ∧ H6 a2 = some (.lst ys2) ∧ Paired (fun y x => G x H6 y) ys2 l2), fun H6 p' => ⟨l2.length - (jj + 1), by omega, rfl, p'⟩, fun y H6 hy2 => ?_⟩
        · exact walk_list.goes jj H5 (by rw [plen r6]; exact hlt2) (SqL.of r5)
        · obtain ⟨eH, hy3⟩ := (walk_list (K := K)).yields jj H5 y H6 (by rw [plen r6]; exact hlt2) (SqL.of r5) hy2
          subst eH
          obtain ⟨b, hb1, hb2⟩ := pget r6 hy3
          refine ⟨hw1 x y, ?_⟩
          obtain ⟨t1, t2⟩ := turn a x b y _ (List.mem_of_getElem? ha) (List.mem_of_getElem? hb1) (e12.trans r1) r4 hb2
          refine t1 _ (Xt.refl T _) _ fun c H7 e7 hc => ?_
          have r27 := r1.trans e7
          cases c with
          | false =>
            refine iteF ⟨hlt2, ⟨r27, zs, e7.lst r2, ?_⟩, (mF a).mono e7 r4, e7.lst r5, pmono e7 r6⟩
            rw [take_next hb1, List.filter_append, List.filter_cons_of_neg (by rw [← hc]; decide), List.filter_nil, List.append_nil]
            exact pmono e7 r3
          | true =>
            refine iteT (t2 hc.symm H7 e7 _ fun u H8 e8 hu => ?_)
            have e78 := e7.trans e8
            have z8 := e78.lst r2
            refine ⟨zs, z8, ?_, hlt2, ⟨(r1.trans e78).mut hD z8 True.intro, zs ++ [u], upd_same, ?_⟩, (hfF a).flat ((mF a).mono e78 r4) z8, by rw [upd_ne na]; exact e78.lst r5, pimp (pmono e78 r6) fun _ g z => (hfG g).flat z z8⟩
            · rw [plen r3, List.length_append, List.length_map]
              have h5 := lenA i
              have h6 := List.length_filter_le (sel a) (l2.take jj)
              rw [List.length_take] at h6
              exact Nat.lt_of_lt_of_le (show _ < 100000 by omega) (by decide)
            · rw [take_next hb1, List.filter_append, List.map_append, ← List.append_assoc, List.filter_cons_of_pos hc.symm]
              exact papp (pimp (pmono e78 r3) fun _ g z => (hfl g).flat z z8) (.cons ((hfl _).flat hu z8) .nil)
      · have ej : jj = l2.length := by omega
        subst ej
        refine .inl ⟨by have := walk_list.stops H5 (SqL.of (K := K) r5); rw [plen r6] at this; exact this, r1, zs, r2, ?_⟩
        rw [List.take_length] at r3
        show Paired _ zs ((l.take (i + 1)).flatMap _)
        rw [take_next ha, List.flatMap_append]
        show Paired _ zs (A i ++ ([a].flatMap _))
        rw [List.flatMap_singleton]
        exact r3
  · have ei : i = l.length := by omega
    subst ei
    refine .inl ⟨w.stops H' p1, q _ H' (e2.trans p1) ⟨Dl, ys, rfl, p2, ?_⟩⟩
    have : A l.length = l.flatMap fun a => (l2.filter (sel a)).map (val a) := by
      show (l.take l.length).flatMap _ = _
      rw [List.take_length]
    rw [← this]
    exact p3
end
end K8
set_option maxHeartbeats 4000000
namespace K8
open PySem L2 PySem.Spec PyProof.Rows
/-- what no key lies within -/
def restOf (n : Nat) (ls : List (List Int)) : List (List Int) := (setsN n).filter fun s => !((ls.map fun k => within k s).any id)
/-- a key within another one -/
def nested (ls : List (List Int)) : Bool := (ls.flatMap fun a => (ls.filter fun b => !decide (a = b)).map fun b => within a b).any id
def lookP (l : Prs) (s : List Int) : Int × Int := (look l s).getD (0, 0)
def showsB (rows : List (List Int)) (n : Nat) (ls : List (List Int)) (l : Prs) : Bool :=
  ((ls.map fun s => (setsN n).contains s).all id && decide ls.Nodup) && (!nested ls && ((ls.map fun s => good rows n s).all id &&
    ((decide ((l.length : Int) = (restOf n ls).length) && ((restOf n ls).map fun s => (look l s).isSome).all id) && ((restOf n ls).map fun s => isUnlike rows s (lookP l s).1 (lookP l s).2).all id)))
def prShows (T : Tb) (C CK : Addr) : List V → Hp → Rp → Prop := fun vs H R => ∃ v u rows n ls l, vs = [v, u] ∧ rpKeys CK ls l H v ∧ rpTab C rows H u ∧ Good rows n ∧ LamX.Tabs T H ∧ ls.length ≤ 60 ∧ R = rpV (.bl (showsB rows n ls l))
theorem scShows : FnScope ["self", "table", "every", "rest", "some", "one", "other", "key"] ["self", "table"] (defScope sKeysShows) := ⟨rfl, rfl, rfl, by decide +kernel, rfl, by decide +kernel, by decide +kernel⟩
abbrev nsShows : List Str := ["self", "table", "every", "rest", "some", "one", "other", "key"]
theorem nor_f : ∀ {a b : Bool}, true = (!a || !b) → (a && b) = false
  | true, true, h => by cases h
  | true, false, _ => rfl
  | false, _, _ => rfl
theorem nor_t : ∀ {a b : Bool}, false = (!a || !b) → (a && b) = true
  | true, true, _ => rfl
  | true, false, h => by cases h
  | false, _, h => by cases h
section
variable {P : Program} {w : World} {K : PySem.W.Frag} {mg : Str → Option Value} {base : Heap} {T : Tb} {σ : L2.St} {H : Hp} {te ta tb tc : TE} {C CK : Addr} {rows : List (List Int)} {n : Nat} {D : Ends} {tz : TS}
theorem er_neSet {l : List (List Int)} {n : Nat} (hn : n = l.length) (ha : Er T ta σ H (rpE (fun n : Int => (n = l.length) ↔ l.Nodup) rpN)) (hb : Er T tb σ H (rpN n)) : Er T (tOp rNe ta tb) σ H (rpV (.bl (!decide l.Nodup))) :=
  er_op ha hb fun H1 x y _ ⟨k, hk, e1⟩ e2 => fun Q q => by
    cases (show x = V.int k from e1)
    cases (show y = V.int n from e2)
    refine ⟨rfl, q _ H1 (Xt.refl T H1) ?_⟩
    show V.bl (!decide (V.int k = V.int (n : Int))) = _
    have e : decide (V.int k = V.int (n : Int)) = decide l.Nodup := decide_eq_decide.mpr ⟨fun z => hk.mp (by rw [V.int.inj z, hn]), fun z => by rw [hk.mpr z, hn]⟩
    rw [e]
theorem ok_shows {f : Addr} {fd : FuncData} (F : Fun K "shows" "Keys.shows" sKeysShows f fd) (N : Nm mg) (TM : TabM P w K mg base T C) (KC : KeysC P w K mg base CK) (GT : Has P w K mg base 1 "check_table" ["table"] (Pm T 1 (prCheckTable C)))
    (GS : Has P w K mg base 2 "sets_of" ["places"] (Pm T 1 (prSets T))) (GW : Has P w K mg base 1 "is_within" ["one", "other"] (Pm T 2 prWithin)) (GU : Has P w K mg base 4 "unlike_pair" ["table", "places", "others"] (Pm T 3 (prUnlikePair C)))
    (GI : Has P w K mg base 4 "is_unlike" ["table", "places", "pair"] (Pm T 3 (prIsUnlike C))) : FnOk P w K mg base CX0 5 f fd ["self", "table"] (Pm T 2 (prShows T C CK)) := by
  refine F.ok scShows (fun vs H Q E h => h.1) (fun cdv A outer s H vs Q E hr h => ?_)
  obtain ⟨_, R, ⟨v, u, rows, n, ls, l, rfl, hv, hu, G, hT, hls, rfl⟩, q⟩ := h
  obtain ⟨f1, fd1, G1, m1, k1, b1⟩ := GT
  obtain ⟨f2, fd2, G2, m2, k2, b2⟩ := GS
  obtain ⟨f3, fd3, G3, m3, k3, b3⟩ := GW
  obtain ⟨f4, fd4, G4, m4, k4, b4⟩ := GU
  obtain ⟨f5, fd5, G5, m5, k5, b5⟩ := GI
  obtain ⟨pw, gw, fdw, Pw, Gw, bw⟩ := TM.wd
  have nd := scShows.nd
  refine ⟨_, pss_cons (ps_expr (pe_call G1 (hr.mono (by decide)) (by rfl) m1 k1 b1 .nil pass0 (pa_cons (pv 1) pa_nil)))
    (pss_cons (ps_asg (pe_tupRg rfl rfl N.tuple (prg_1 rfl N.range (pe_prop (pv 1) TM.cl Pw Gw (hr.mono (by decide)) bw .nil pass0 rfl))) (pg_name (i := 2) nd rfl (Or.inr rfl)))
    (pss_cons (ps_if (PW.pt (pw_or (pt_not (pt_val (pe_callB (r := rAll K) (cr_all rfl) (by rfl) N.all (by decide +kernel) (pa_cons (pe_lc (own := [("some", 4)]) (g := gName 4) (tt := tYes) rfl nd (pi_list (pe_fld (pv 0) rfl)) (blkOk_by (N := nsShows) (sc := defScope sKeysShows) (by decide +kernel))
        (fun _ _ _ _ _ => pg_name (i := 4) nd rfl (Or.inl rfl)) (fun _ _ _ _ _ => pts_nil) (fun _ _ _ _ _ => pe_cmpR (r := rInD K) (op_inD (u65 hr)) (pv 4) (pe_call G2 (hr.mono (by decide)) (by rfl) m2 k2 b2 .nil pass0 (pa_cons (pv 2) pa_nil)) (by rfl))) pa_nil))))
        (pw_or1 (pt_cmpR op_ne (pe_callB (r := rLenSetT P w) cr_lenSetT (by rfl) N.len (by decide +kernel) (pa_cons (pe_callTy (r := rSetOfT K P w) (cr_setOfT rfl hr.units) (by rfl) N.set (by decide +kernel) (pa_cons (pe_fld (pv 0) rfl) pa_nil)) pa_nil)) (pe_callB (r := rLn K) call_len_seq (by rfl) N.len (by decide +kernel) (pa_cons (pe_fld (pv 0) rfl) pa_nil)) (nomark _)))))
      (pss_one (ps_ret pe_bl)) pss_nil)
    (pss_cons (ps_if (pt_val (pe_callB (r := rAny K) (cr_any rfl) (by rfl) N.any (by decide +kernel) (pa_cons (pe_lc2 (own := [("one", 5), ("other", 6)]) (vs1 := [6]) (g := gName 5) (g1 := gName 6) (tt := tYes) rfl nd (pi_list (pe_fld (pv 0) rfl)) (blkOk_by (N := nsShows) (sc := defScope sKeysShows) (by decide +kernel)) (by decide)
        (fun _ _ _ _ _ => pg_name (i := 5) nd rfl (Or.inl rfl)) (fun _ _ _ _ _ => pts_nil) (fun _ _ _ _ _ => pi_listK K (pe_fldK K (pv 0) rfl)) (fun _ _ _ _ _ => pg_name (i := 6) nd rfl (Or.inl rfl)) (fun _ _ _ _ _ => pts_one (pt_cmpR (r := rNeD K) (op_neD hr.units) (pv 5) (pv 6) (nomark _)))
        (fun _ _ _ _ _ => pe_call G3 (hr.mono (by decide)) (by rfl) m3 k3 b3 .nil pass0 (pa_cons (pv 5) (pa_cons (pv 6) pa_nil)))) pa_nil))) (pss_one (ps_ret pe_bl)) pss_nil)
    (pss_cons (ps_if (pt_not (pt_val (pe_callB (r := rAll K) (cr_all rfl) (by rfl) N.all (by decide +kernel) (pa_cons (pe_lc (own := [("some", 4)]) (g := gName 4) (tt := tYes) rfl nd (pi_list (pe_fld (pv 0) rfl)) (blkOk_by (N := nsShows) (sc := defScope sKeysShows) (by decide +kernel))
        (fun _ _ _ _ _ => pg_name (i := 4) nd rfl (Or.inl rfl)) (fun _ _ _ _ _ => pts_nil) (fun _ _ _ _ _ => pe_cmp (pc_isN (pe_call G4 (hr.mono (by decide)) (by rfl) m4 k4 b4 .nil pass0 (pa_cons (pv 1) (pa_cons (pv 4) (pa_cons (pv 2) pa_nil))))) (nomark _))) pa_nil)))) (pss_one (ps_ret pe_bl)) pss_nil)
    (pss_cons (ps_setLc (i := 3) (own := [("some", 4)]) (g := gName 4) rfl nd rfl rfl (by rfl) (pi_list (pe_call G2 (hr.mono (by decide)) (by rfl) m2 k2 b2 .nil pass0 (pa_cons (pv 2) pa_nil))) (blkOk_by (N := nsShows) (sc := defScope sKeysShows) (by decide +kernel)) (fun _ _ _ _ _ => pg_name (i := 4) nd rfl (Or.inr rfl))
        (fun _ _ _ _ _ => pts_one (pt_not (pt_val (pe_callB (r := rAny K) (cr_any rfl) (by rfl) N.any (by decide +kernel) (pa_cons
          (pe_lc (own := [("key", 7)]) (g := gName 7) (tt := tYes) rfl nd (pi_listK K (pe_fldK K (pv 0) rfl)) (blkOk_by (N := nsShows) (sc := lcS [(".0", .local), ("some", .cell), ("any", .globalImplicit), ("self", .cell)]) (by decide +kernel)) (fun _ _ _ _ _ => pg_name (i := 7) nd rfl (Or.inl rfl))
            (fun _ _ _ _ _ => pts_nil) (fun _ _ _ _ _ => pe_call G3 (hr.mono (by decide)) (by rfl) m3 k3 b3 .nil pass0 (pa_cons (pv 7) (pa_cons (pv 4) pa_nil)))) pa_nil))))) (fun _ _ _ _ _ => pv 4))
    (pss_cons (ps_if (PW.pt (pw_or (pt_cmpR op_ne (pe_callB (r := rLenT) call_len_dT (by rfl) N.len (by decide +kernel) (pa_cons (pe_fld (pv 0) rfl) pa_nil)) (pe_callB (r := rLn K) call_len_seq (by rfl) N.len (by decide +kernel) (pa_cons (pv 3) pa_nil)) (nomark _))
        (pw_or1 (pt_not (pt_val (pe_callB (r := rAll K) (cr_all rfl) (by rfl) N.all (by decide +kernel) (pa_cons (pe_lc (own := [("some", 4)]) (g := gName 4) (tt := tYes) rfl nd (pi_list (pv 3)) (blkOk_by (N := nsShows) (sc := defScope sKeysShows) (by decide +kernel))
          (fun _ _ _ _ _ => pg_name (i := 4) nd rfl (Or.inl rfl)) (fun _ _ _ _ _ => pts_nil) (fun _ _ _ _ _ => pe_cmp (pc_din (u1 hr) (pv 4) (pe_fldK K (pv 0) rfl)) (by rfl))) pa_nil)))))))
      (pss_one (ps_ret pe_bl)) pss_nil)
    (pss_one (ps_ret (pe_callB (r := rAll K) (cr_all rfl) (by rfl) N.all (by decide +kernel) (pa_cons (pe_lc (own := [("some", 4)]) (g := gName 4) (tt := tYes) rfl nd (pi_list (pv 3)) (blkOk_by (N := nsShows) (sc := defScope sKeysShows) (by decide +kernel))
          (fun _ _ _ _ _ => pg_name (i := 4) nd rfl (Or.inl rfl)) (fun _ _ _ _ _ => pts_nil) (fun _ _ _ _ _ => pe_call G5 (hr.mono (by decide)) (by rfl) m5 k5 b5 .nil pass0 (pa_cons (pv 1) (pa_cons (pv 4) (pa_cons (pe_dget (u1 hr) (pe_fldK K (pv 0) rfl) (pv 4) (fun _ _ => rfl)) pa_nil))))) pa_nil)))))))))), ?_⟩
  refine of_start (σ := [some v, some u, none, none, none, none, none, none]) rfl ?_
  have n1 := G.w1
  have n4 := G.w4
  have hL : ∀ {σ : L2.St} {H1 : Hp}, Xt T H H1 → σ[0]? = some (some v) → Er T (tFld K (tVar 0) "least") σ H1 (rpL rpT ls) := fun e h => er_least KC (er_var (rpKeys CK ls l) h (Mn.mono e hv))
  have hP : ∀ {σ : L2.St} {H1 : Hp}, Xt T H H1 → σ[0]? = some (some v) → Er T (tFld K (tVar 0) "pairs") σ H1 (rpD rpP l) := fun e h => er_pairs KC (er_var (rpKeys CK ls l) h (Mn.mono e hv))
  have hTb : ∀ {σ : L2.St} {H1 : Hp}, Xt T H H1 → σ[1]? = some (some u) → Er T (tVar 1) σ H1 (rpTab C rows) := fun e h => er_var (rpTab C rows) h (Mn.mono e hu)
  refine q_drop (T := T) (R := rpV .non) (er_call (ea_1 (hTb (Xt.refl T H) rfl)) fun H1 vs _ ⟨x, e1, e2⟩ => ⟨by rw [e1]; rfl, x, rows, e1, e2, rfl⟩) fun _ H1 e1 _ => ?_
  refine q_asg (T := T) (R := rpT (evy n)) (er_tupRg (n := n) (er_width (hTb e1 rfl) G) (by omega)) fun ve H2 e2 he => ?_
  have e02 := e1.trans e2
  have hE : ∀ {σ : L2.St} {H1 : Hp}, Xt T H2 H1 → σ[2]? = some (some ve) → Er T (tVar 2) σ H1 (rpT (evy n)) := fun e h => er_var (rpT (evy n)) h (Mn.mono e he)
  -- all of them sets, none twice
  refine q_when (T := T) (et_orB (a := !((ls.map fun s => (setsN n).contains s).all id)) (b := !decide ls.Nodup) (et_notB (et_B (er_b (er_all (er_lcM (F := rpT) (RB := fun b => rpV (.bl b)) (fun s => (setsN n).contains s) (es_list (F := rpT) (hL e02 rfl)) (by omega) (fun _ => rfl) fun s x H3 hm e3 hx =>
    er_inTL (er_var (rpT s) rfl hx) (er_sets (hE e3 rfl) ((e02.trans e3).2 hT) n1 n4)))))) fun _ => et_test (er_b (er_neSet rfl (er_lenSet (hL e02 rfl) (by omega)) (er_lenL (hL e02 rfl))))) (fun hb H3 e3 => ?_) (fun hb H3 e3 => ?_)
  · refine s_ret (T := T) er_c fun r H4 e4 hr4 => q r H4 (e02.trans (e3.trans e4)) ?_
    have e5 : (((ls.map fun s => (setsN n).contains s).all id) && decide ls.Nodup) = false := nor_f hb
    unfold showsB
    rw [e5, Bool.false_and]
    exact hr4
  have hA : ((ls.map fun s => (setsN n).contains s).all id && decide ls.Nodup) = true := nor_t hb
  have hsub : ∀ s ∈ ls, s ∈ setsN n := fun s hs => by
    have h1 := (Bool.and_eq_true_iff.mp hA).1
    rw [List.all_map, List.all_eq_true] at h1
    have h2 : (setsN n).contains s = true := h1 s hs
    exact List.contains_iff_mem.mp h2
  have e03 := e02.trans e3
  -- none within another one
  obtain ⟨av, dxv, pl, pp, ev, hv1, ⟨pl', ysl, epl, hpl, hysl⟩, hv3⟩ := id hv
  cases epl
  have within_ : ∀ {σ : L2.St} {H1 : Hp} {i j : Nat} {a b : List Int} {x y : V}, a ∈ setsN n → rpT a H1 x → rpT b H1 y → σ[i]? = some (some x) → σ[j]? = some (some y) → Er T (tCall (Pm T 2 prWithin) [] E0 (tCons (tVar i) (tCons (tVar j) tNil))) σ H1 (rpV (.bl (within a b))) := fun ha h1 h2 h3 h4 =>
    er_call (ea_2 (er_var _ h3 h1) (er_var _ h4 h2)) fun H3 vs _ ⟨a', b', e3, e4, e5⟩ => ⟨by rw [e3]; rfl, _, _, a', b', e3, e4, e5, (setsN_cols ha).2, rfl⟩
  refine q_when (T := T) (et_B (er_b (er_any (er_lc2 (T := T) (F := rpT) (G := rpT) (RB := fun b => rpV (.bl b)) (l := ls) (l2 := ls) (fun a b => !decide (a = b)) (fun a b => within a b) (es_list (F := rpT) (hL e03 rfl)) (by omega) (by omega) (e03.lst hpl) (pmono e03 hysl) (fun _ => rfl) (fun _ _ => rfl)
    (fun x H4 e4 H5 e5 Q5 q5 => ?_) fun a x b y H4 ha hb e4 hx hy => ⟨et_test (er_b (er_neT (er_var (rpT a) rfl hx) (er_var (rpT b) rfl hy))), fun _ => within_ (hsub a ha) hx hy rfl rfl⟩)))) (fun hb4 H4 e4 => ?_) (fun hb4 H4 e4 => ?_)
  · exact ⟨v, rfl, av, CK, dxv, _, .ref pl, ev, ((e03.trans e4).trans e5).ins hv1, KC.cl, KC.nL, kf_least pl pp, q5 _ H5 (Xt.refl T H5) rfl⟩
  · refine s_ret (T := T) er_c fun r H5 e5 hr5 => q r H5 (e03.trans (e4.trans e5)) ?_
    have e6 : nested ls = true := hb4.symm
    unfold showsB
    rw [e6, hA]
    exact hr5
  have hN : nested ls = false := hb4.symm
  have e04 := e03.trans e4
  -- each tells all
  refine q_when (T := T) (et_notB (a := (ls.map fun s => good rows n s).all id) (et_B (er_b (er_all (er_lcM (F := rpT) (RB := fun b => rpV (.bl b)) (fun s => good rows n s) (es_list (F := rpT) (hL e04 rfl)) (by omega) (fun _ => rfl) fun s x H5 hm e5 hx =>
    er_isNone (er_unlike (hTb (e04.trans e5) rfl) G (er_var (rpT s) rfl hx) (hE ((e3.trans e4).trans e5) rfl) (setsN_cols (hsub s hm)) (evy_cols n4))))))) (fun hb5 H5 e5 => ?_) (fun hb5 H5 e5 => ?_)
  · refine s_ret (T := T) er_c fun r H6 e6 hr6 => q r H6 (e04.trans (e5.trans e6)) ?_
    have e7 : ((ls.map fun s => good rows n s).all id) = false := by simpa using hb5.symm
    unfold showsB
    rw [hA, hN, e7]
    exact hr6
  have hGd : ((ls.map fun s => good rows n s).all id) = true := by simpa using hb5.symm
  have e05 := e04.trans e5
  -- the rest
  refine q_asg (T := T) (R := rpL rpT (restOf n ls)) ((er_lcF (F := rpT) (RB := rpT) (fun s => !((ls.map fun k => within k s).any id)) id (es_list (F := rpT) (er_sets (hE ((e3.trans e4).trans e5) rfl) (e05.2 hT) n1 n4)) (Nat.le_trans (setsN_len n) (by decide)) (fun _ => rfl) fun s x H6 hm e6 hx => ⟨?_, fun _ => er_var (rpT s) rfl hx⟩).imp fun H6 r _ hr6 => ?_) fun vr H6 e6 hvr => ?_
  · exact et_notB (et_B (er_b (er_any (er_lcM (F := rpT) (RB := fun b => rpV (.bl b)) (fun k => within k s) (es_list (F := rpT) (hL (e05.trans e6) rfl)) (by omega) (fun _ => rfl) fun k y H7 hk e7 hy => within_ (hsub k hk) hy (Mn.mono e7 hx) rfl rfl))))
  · rw [List.map_id] at hr6
    exact hr6
  have e06 := e05.trans e6
  have hR : ∀ {σ : L2.St} {H1 : Hp}, Xt T H6 H1 → σ[3]? = some (some vr) → Er T (tVar 3) σ H1 (rpL rpT (restOf n ls)) := fun e h => er_var (rpL rpT (restOf n ls)) h (Mn.mono e hvr)
  have lR : (restOf n ls).length ≤ 40000 := Nat.le_trans (List.length_filter_le _ _) (Nat.le_trans (setsN_len n) (by decide))
  refine q_when (T := T) (et_orB (a := !decide ((l.length : Int) = ((restOf n ls).length : Int))) (b := !(((restOf n ls).map fun s => (look l s).isSome).all id)) (et_test (er_b (er_neI (er_lenD (hP e06 rfl)) (er_lenL (hR (Xt.refl T H6) rfl))))) fun _ => et_notB (et_B (er_b (er_all (er_lcM (F := rpT) (RB := fun b => rpV (.bl b)) (fun s => (look l s).isSome) (es_list (F := rpT) (hR (Xt.refl T H6) rfl)) lR (fun _ => rfl) fun s x H7 hm e7 hx =>
    er_din (R := rpP) (er_var (rpT s) rfl hx) (hP (e06.trans e7) rfl)))))) (fun hb7 H7 e7 => ?_) (fun hb7 H7 e7 => ?_)
  · refine s_ret (T := T) er_c fun r H8 e8 hr8 => q r H8 (e06.trans (e7.trans e8)) ?_
    have e9 : (decide ((l.length : Int) = (restOf n ls).length) && ((restOf n ls).map fun s => (look l s).isSome).all id) = false := nor_f hb7
    unfold showsB
    rw [hA, hN, hGd, e9]
    exact hr8
  have hLk : (decide ((l.length : Int) = (restOf n ls).length) && ((restOf n ls).map fun s => (look l s).isSome).all id) = true := nor_t hb7
  have hlook : ∀ s ∈ restOf n ls, look l s = some (lookP l s) := fun s hs => by
    have h1 := (Bool.and_eq_true_iff.mp hLk).2
    rw [List.all_map, List.all_eq_true] at h1
    have h2 : (look l s).isSome = true := h1 s hs
    unfold lookP
    cases hl : look l s with
    | none => rw [hl] at h2; cases h2
    | some b => rfl
  have e07 := e06.trans e7
  refine s_ret (T := T) (er_all (er_lcM (F := rpT) (RB := fun b => rpV (.bl b)) (fun s => isUnlike rows s (lookP l s).1 (lookP l s).2) (es_list (F := rpT) (hR e7 rfl)) lR (fun _ => rfl) fun s x H8 hm e8 hx => ?_)) fun r H8 e8 hr8 => q r H8 (e07.trans e8) ?_
  · exact er_call (ea_3 (hTb (e07.trans e8) rfl) (er_var (rpT s) rfl hx) (er_dget (R := rpP) (hP (e07.trans e8) rfl) (er_var (rpT s) rfl hx) (hlook s hm))) fun H9 vs _ ⟨a, b, c, e9, e10, e11, e12⟩ => ⟨by rw [e9]; rfl, a, b, c, rows, n, s, _, _, e9, e10, G, e11, setsN_cols (List.mem_filter.mp hm).1, e12, rfl⟩
  · unfold showsB
    rw [hA, hN, hGd, hLk]
    exact hr8
end
end K8
set_option maxHeartbeats 4000000
namespace K8
open PySem L2 PySem.Spec PyProof.Rows
/-- the draw list: the script's list at a, and a count -/
def DrawO (d a : Addr) : HO := .ext fun h => ∃ (k : Int) (t : Tok) (n : Nat), h.get? d = some { cls := .type "list", data := .seq #[.ref a, .int k t] n }
theorem drawO_ok {P : Program} {w : World} {H : Hp} {h : Heap} {d a : Addr} {k : Int} {t : Tok} {n : Nat} (e : h.get? d = some { cls := .type "list", data := .seq #[.ref a, .int k t] n }) : ObjOk P w H h d (DrawO d a) :=
  ⟨⟨k, t, n, e⟩, ⟨_, e⟩, fun h1 h2 ⟨k, t, n, e⟩ f => ⟨k, t, n, f _ e⟩⟩
section
variable {X : Cx} {pins : List (Addr × Obj)} {σ : L2.St} {H : Hp} {s : Shared} {d a : Addr}
theorem Inv.drawOpen (I : L2.Inv X pins σ H s) (hd : H d = some (DrawO d a)) : ∃ k, L2.Inv X pins σ (upd H d (.lst [.ref a, .int k])) s := by
  obtain ⟨k, t, n, e⟩ := (show ObjOk X.prog X.w H s.heap d (DrawO d a) from I.hok d _ hd).1
  exact ⟨k, L2.Inv.write (h' := s.heap) (t' := s.toks) (o := .lst [.ref a, .int k]) I (by rw [hd]; exact True.intro) (.inl rfl) (fun _ _ _ q => q) ⟨_, e⟩ ⟨sz_small (by show 2 ≤ 100000; decide), [.ref a, .int k t], n, .cons rfl (.cons ⟨t, rfl⟩ .nil), e⟩⟩
theorem Inv.drawShut {k : Int} (I : L2.Inv X pins σ H s) (hd : H d = some (.lst [.ref a, .int k])) : L2.Inv X pins σ (upd H d (DrawO d a)) s := by
  obtain ⟨_, its, n, rv, e⟩ := (show ObjOk X.prog X.w H s.heap d (.lst [.ref a, .int k]) from I.hok d _ hd)
  obtain ⟨u1, u2, rfl, r1, r2⟩ := vals2 rv
  obtain rfl : u1 = Value.ref a := r1
  obtain ⟨t, rfl⟩ := (show ∃ t, u2 = Value.int k t from r2)
  exact L2.Inv.write (h' := s.heap) (t' := s.toks) (o := DrawO d a) I (by rw [hd]; exact True.intro) (.inl rfl) (fun _ _ _ q => q) ⟨_, e⟩ (drawO_ok e)
theorem draw_back (hd : H d = some (DrawO d a)) {o : HO} : upd (upd H d o) d (DrawO d a) = H := by
  rw [upd_upd]
  funext b
  by_cases hb : b = d
  · rw [hb, upd_same, hd]
  · rw [upd_ne hb]
/-- draw[0], draw[1] -/
def rIxD : R2 := fun x y H Q => ∃ d a, x = .ref d ∧ H d = some (DrawO d a) ∧ ((y = .int 0 ∧ Q (.ref a) H) ∨ (y = .int 1 ∧ ∀ k, Q (.int k) H))
theorem ix_draw : IxR X rIxD := by
  intro value slice pins s σ H x y v u Q I rx ry h hs
  obtain ⟨d, a, rfl, hd, hq⟩ := h
  obtain ⟨k, I1⟩ := Inv.drawOpen I hd
  have fin : ∀ z, Q z H → wpAny (model X.prog X.w) X.A (subscriptTail value slice v u) (EP X pins σ fun z' H' => H' = upd H d (.lst [.ref a, .int k]) ∧ Q z' H) X.xe s → wpAny (model X.prog X.w) X.A (subscriptTail value slice v u) (EP X pins σ Q) X.xe s := fun z q wp =>
    wpAny_mono wp (fun r s' ⟨z', H', I', rz, e, q'⟩ => by
      subst e
      have I2 := Inv.drawShut I' upd_same
      rw [draw_back hd] at I2
      exact ⟨z', H, I2, rz, q'⟩) fun _ _ e => e
  rcases hq with ⟨rfl, q⟩ | ⟨rfl, q⟩
  · exact fin _ q (ix_list value slice pins s σ _ _ _ _ _ _ I1 rx ry ⟨d, _, 0, .ref a, rfl, rfl, SqL.of upd_same, rfl, rfl, q⟩ hs)
  · exact fin _ (q k) (ix_list value slice pins s σ _ _ _ _ _ _ I1 rx ry ⟨d, _, 1, .int k, rfl, rfl, SqL.of upd_same, rfl, rfl, q k⟩ hs)
/-- draw[1] = an int -/
def rSetD : V → V → V → Hp → (Hp → Prop) → Prop := fun o i v H Q => ∃ d a j, o = .ref d ∧ i = .int 1 ∧ v = .int j ∧ H d = some (DrawO d a) ∧ Q H
theorem set_draw : PSet X rSetD := by
  intro pins s σ H o i v ov iv u Q I ro ri rv h
  obtain ⟨d, a, j, rfl, rfl, rfl, hd, q⟩ := h
  obtain ⟨k, I1⟩ := Inv.drawOpen I hd
  refine wpAny_mono (set_list pins s σ _ _ _ _ _ _ _ (fun H' => H' = upd H d (.lst [.ref a, .int j])) I1 ro ri rv ⟨d, _, 1, 1, rfl, rfl, upd_same, rfl, by rw [upd_upd]; rfl⟩) (fun r s' hq => ?_) fun _ _ e => e
  obtain ⟨H', I', e⟩ := hq
  subst e
  have I2 := Inv.drawShut I' upd_same
  rw [draw_back hd] at I2
  exact ⟨H, I2, q⟩
/-- [script, 0] -/
def tDrw (t : TA) : TE := fun σ H Q => t σ H fun vs H1 => ∃ a k, vs = [.ref a, .int k] ∧ ∀ d, H1 d = none → Q (.ref d) (upd H1 d (DrawO d a))
theorem pe_drw {es : List Expr} {t : TA} {pos : Pos} (h : PA X es t) : PE X (.List es pos) (tDrw t) := by
  refine ⟨fun pins s σ H Q I hq => ?_⟩
  refine wpAny_List_spliced (thn (h.run pos pins s σ H _ I hq) fun us s1 ⟨xs, H1, I1, r, a, k, z, q⟩ => ?_)
  subst z
  obtain ⟨u1, u2, rfl, r1, r2⟩ := vals2 r
  obtain rfl : u1 = Value.ref a := r1
  obtain ⟨t, rfl⟩ := (show ∃ t, u2 = Value.int k t from r2)
  have hf : H1 s1.heap.objs.size = none := I1.hok.fresh (Nat.le_refl _)
  exact ⟨sz_small (by show 2 ≤ 100000; decide), .ref s1.heap.objs.size, upd H1 s1.heap.objs.size (DrawO s1.heap.objs.size a), I1.laid (t' := s1.toks) (fun b u e => Heap.get?_push_of_some _ e) (Nat.le_refl _) (drawO_ok (Heap.get?_push_size _ rfl)), rfl, q _ hf⟩
end
/-- the script's list; the draw list -/
def rpS (K : PySem.W.Frag) (ns : List Int) : Rp := fun H v => ∃ a, v = .ref a ∧ SqL K H a (ns.map V.int)
def rpDraw (K : PySem.W.Frag) (ns : List Int) : Rp := fun H v => ∃ d a, v = .ref d ∧ H d = some (DrawO d a) ∧ SqL K H a (ns.map V.int)
instance {T : Tb} (K : PySem.W.Frag) (ns : List Int) : Mn T (rpS K ns) := ⟨fun e ⟨a, h1, h2⟩ => ⟨a, h1, e.sqL h2⟩⟩
instance {T : Tb} (K : PySem.W.Frag) (ns : List Int) : Mn T (rpDraw K ns) := ⟨fun e ⟨d, a, h1, h2, h3⟩ => ⟨d, a, h1, e.ext h2, e.sqL h3⟩⟩
section
variable {T : Tb} {K : PySem.W.Frag} {σ : L2.St} {H : Hp} {te ta tb tx : TE} {ns : List Int}
theorem er_slS {k : Nat} (h : Er T te σ H (rpS K ns)) (hk : Er T tx σ H (rpN (k : Int))) : Er T (tSl (rSlL K) te tNoPart (tPart tx)) σ H (rpL rpN (ns.take k)) := fun H0 e Q q => h H0 e _ fun v H1 e1 ⟨a, k1, k2⟩ => eo_none H1 (e.trans e1) _ fun H2 e2 => (eo_some hk) H2 ((e.trans e1).trans e2) _ fun H3 e3 =>
  ⟨a, _, k1, (e2.trans e3).sqL k2, fun p hp' => q _ _ (((e1.trans e2).trans e3).trans (Xt.new hp')) ⟨p, _, rfl, upd_same, by rw [cut_take, ← List.map_take]; exact pints _⟩⟩
theorem er_neS0 (h : Er T te σ H (rpS K ns)) : Er T (tOp (rNeD K) te (tLst tNil)) σ H (rpV (.bl (!decide (ns = [])))) := by
  have e : PyData.eqv (.list (ns.map .int)) (.list (([] : List Int).map .int)) = decide (ns = []) := by simp only [PyData.eqv]; exact eqvI ns []
  rw [← e]
  exact er_neD h (er_nil (F := rpN)) (fun H v ⟨a, h1, h2⟩ => by rw [h1]; exact .lst h2 (dpI ns)) (fun _ _ => dpN) (shI ns) (shI [])
theorem er_int1 {P : Int → Prop} (h : Er T te σ H (rpI P)) : Er T (tCB (fun xs H Q => (∃ i, xs = [V.int i] ∧ Q (.int i) H) ∨ ∃ k, xs = [V.bl k] ∧ Q (.int (if k then 1 else 0)) H) (tCons te tNil)) σ H (rpI P) :=
  er_cb (ea_1 h) fun H1 vs _ ⟨v, ev, i, hi, e⟩ => fun Q q => .inl ⟨i, by rw [ev, e], q _ H1 (Xt.refl T H1) ⟨i, hi, rfl⟩⟩
theorem er_iN {i : Int} (h : Er T te σ H (rpN i)) : Er T te σ H (rpI (· = i)) := er_i h rfl
theorem er_iI {P : Int → Prop} (h : Er T te σ H (rpI P)) : Er T te σ H (rpI fun _ => True) := h.imp fun _ _ _ ⟨i, _, e⟩ => ⟨i, True.intro, e⟩
abbrev anyI : Rp := rpI fun _ => True
abbrev inI (m : Int) : Rp := rpI fun i => 0 ≤ i ∧ i < m
/-- i % m -/
theorem er_mod {m : Int} (hm : 0 < m) (ha : Er T ta σ H anyI) (hb : Er T tb σ H (rpN m)) : Er T (tOp (rI (fun _ j => 0 < j) fun i j => .int (i % j)) ta tb) σ H (inI m) :=
  er_I ha (er_iN hb) fun H1 i j _ e => by
    subst e
    exact ⟨hm, _, ⟨Int.emod_nonneg i (by omega), Int.emod_lt_of_pos i hm⟩, rfl⟩
theorem er_add (ha : Er T ta σ H anyI) (hb : Er T tb σ H anyI) : Er T (tOp (rI0 fun i j => .int (i + j)) ta tb) σ H anyI := er_I0 ha hb fun H1 i j _ _ => ⟨_, True.intro, rfl⟩
theorem er_mulL {c : Int} (hc : -(2 ^ 64) < c ∧ c < 2 ^ 64) (ha : Er T ta σ H (rpN c)) (hb : Er T tb σ H anyI) : Er T (tOp (rI CMul fun i j => .int (i * j)) ta tb) σ H anyI := er_I (er_iN ha) hb fun H1 i j e _ => by
  subst e
  exact ⟨.inl hc, _, True.intro, rfl⟩
theorem er_mulR {c : Int} (hc : -(2 ^ 64) < c ∧ c < 2 ^ 64) (ha : Er T ta σ H anyI) (hb : Er T tb σ H (rpN c)) : Er T (tOp (rI CMul fun i j => .int (i * j)) ta tb) σ H anyI := er_I ha (er_iN hb) fun H1 i j _ e => by
  subst e
  exact ⟨.inr hc, _, True.intro, rfl⟩
theorem er_mulB {m : Int} (hm : m < 2 ^ 64) (ha : Er T ta σ H (inI m)) (hb : Er T tb σ H anyI) : Er T (tOp (rI CMul fun i j => .int (i * j)) ta tb) σ H anyI := er_I ha hb fun H1 i j h _ => ⟨.inl ⟨by omega, by omega⟩, _, True.intro, rfl⟩
theorem er_div {c : Int} (hc : 0 < c ∧ c < 1073741824) (ha : Er T ta σ H anyI) (hb : Er T tb σ H (rpN c)) : Er T (tOp (rI CDiv fun i j => .int (i / j)) ta tb) σ H anyI := er_I ha (er_iN hb) fun H1 i j _ e => by
  subst e
  exact ⟨hc, _, True.intro, rfl⟩
end
def prLNumber (K : PySem.W.Frag) : List V → Hp → Rp → Prop := fun vs H R => ∃ v i ns, vs = [v, .int i] ∧ rpS K ns H v ∧ R = anyI
theorem scLNumber : FnScope ["_law_script", "_law_index", "_law_cells", "_law_cell", "_law_low", "_law_high", "_law_total", "_law_blend"] ["_law_script", "_law_index"] (defScope (topS 35)) := ⟨rfl, rfl, rfl, by decide +kernel, rfl, by decide +kernel, by decide +kernel⟩
def prTake (K : PySem.W.Frag) : List V → Hp → Rp → Prop := fun vs H R => ∃ v ns, ∃ m : Int, vs = [v, .int m] ∧ rpDraw K ns H v ∧ 0 < m ∧ R = inI m
theorem scTake : FnScope ["_law_draw", "_law_many"] ["_law_draw", "_law_many"] (defScope (topS 36)) := ⟨rfl, rfl, rfl, by decide +kernel, rfl, by decide +kernel, by decide +kernel⟩
section
variable {P : Program} {w : World} {K : PySem.W.Frag} {mg : Str → Option Value} {base : Heap} {T : Tb} {σ : L2.St} {H : Hp} {te ta tb tc : TE} {D : Ends} {tz : TS}
theorem ok_lnumber {f : Addr} {fd : FuncData} (F : Fun K "_law_number" "_law_number" (topS 35) f fd) (m : mg "_law_number" = some (.ref f)) (N : Nm mg) : Has P w K mg base 1 "_law_number" ["_law_script", "_law_index"] (Pm T 2 (prLNumber K)) := by
  refine Has.of F m (F.binds fun _ _ _ _ _ _ us hl => match us, hl with | [_, _], _ => rfl) (F.ok scLNumber (fun vs H Q E h => h.1) (fun cdv A outer s H vs Q E hr h => ?_))
  obtain ⟨_, R, ⟨v, i, ns, rfl, hv, rfl⟩, q⟩ := h
  have nd := scLNumber.nd
  refine ⟨_, pss_cons (ps_set (i := 2) nd rfl (Or.inl rfl) (pe_ifExp (pt_cmpR (op_neD hr.units) (pv 0) (pe_lst pa_nil) (nomark _)) (pe_slice sl_list (pv 0) po_none (po_some pe_int)) (pe_lst (pa_cons pe_int pa_nil))))
    (pss_cons (ps_set (i := 3) nd rfl (Or.inl rfl) (pe_op op_add (pe_ix ix_list (pv 2) (pe_op op_mod (pe_callTy call_int1 (by rfl) N.int (by decide +kernel) (pa_cons (pv 1) pa_nil)) (pe_callB call_len_seq (by rfl) N.len (by decide +kernel) (pa_cons (pv 2) pa_nil))) (fun _ _ => rfl))
      (pe_op op_mul pe_int (pe_op op_fdiv (pv 1) (pe_callB call_len_seq (by rfl) N.len (by decide +kernel) (pa_cons (pv 2) pa_nil))))))
    (pss_cons (ps_par (i := 4) (j := 5) (by rfl) nd rfl rfl (by decide) rfl rfl (pa_cons (pe_op op_mod (pe_callTy call_int1 (by rfl) N.int (by decide +kernel) (pa_cons (pv 3) pa_nil)) pe_int) (pa_cons (pe_op op_mod (pe_callTy call_int1 (by rfl) N.int (by decide +kernel) (pa_cons (pe_op op_fdiv (pv 3) pe_int) pa_nil)) pe_int) pa_nil)) (by rfl))
    (pss_cons (ps_set (i := 6) nd rfl (Or.inl rfl) (pe_op op_mod (pe_callTy call_int1 (by rfl) N.int (by decide +kernel) (pa_cons (pe_callB (cr_sum rfl) (by rfl) N.sum (by decide +kernel) (pa_cons (pv 2) pa_nil)) pa_nil)) pe_int))
    (pss_cons (ps_set (i := 7) nd rfl (Or.inl rfl) (pe_op op_mod (pe_callTy call_int1 (by rfl) N.int (by decide +kernel) (pa_cons (pe_op op_add (pe_op op_add (pe_op op_mul (pe_op op_add (pv 4) (pe_op op_mul pe_int (pv 1))) pe_int) (pe_op op_mul pe_int (pv 5))) (pv 6)) pa_nil)) pe_int))
    (pss_one (ps_ret (pe_op op_add (pe_op op_mul (pe_op op_mod (pe_callTy call_int1 (by rfl) N.int (by decide +kernel) (pa_cons (pe_op op_mul (pv 7) (pe_op op_add (pe_op op_add (pv 7) (pe_op op_mul pe_int (pv 1))) pe_int)) pa_nil)) pe_int) pe_int) (pv 5)))))))), ?_⟩
  refine of_start (σ := [some v, some (.int i), none, none, none, none, none, none]) rfl ?_
  have hS : Er T (tVar 0) [some v, some (.int i), none, none, none, none, none, none] H (rpS K ns) := er_var (rpS K ns) rfl hv
  refine q_asg (T := T) (R := rpE (fun l : List Int => 1 ≤ l.length ∧ l.length ≤ 63) (rpL rpN)) (er_if (et_test (er_b (er_neS0 hS))) (fun e => (er_slS (k := 63) hS er_c).imp fun H1 u _ hu => ⟨ns.take 63, ?_, hu⟩) fun _ => er_lst (ea_1 (R := rpN 5) er_c) (fun _ vs ⟨x, e, _⟩ => by rw [e]; show 1 ≤ 100000; decide) fun H1 vs p _ ⟨x, e, hx⟩ hp => ⟨[5], ⟨by decide, by decide⟩, p, [x], rfl, by rw [upd_same, e], .cons hx .nil⟩) fun c H1 e1 ⟨l, hl, hc⟩ => ?_
  · have hne : ns ≠ [] := by simpa using e
    show 1 ≤ (ns.take 63).length ∧ (ns.take 63).length ≤ 63
    rw [List.length_take]
    have : 0 < ns.length := List.length_pos_iff.mpr hne
    omega
  have hC : ∀ {σ : L2.St} {H2 : Hp}, Xt T H1 H2 → σ[2]? = some (some c) → Er T (tVar 2) σ H2 (rpL rpN l) := fun e h => er_var (rpL rpN l) h (Mn.mono e hc)
  have hI : ∀ {σ : L2.St} {H2 : Hp}, σ[1]? = some (some (.int i)) → Er T (tVar 1) σ H2 anyI := fun h => er_iI (er_iN (er_v h))
  have vI : ∀ {σ : L2.St} {H2 H3 : Hp} {k : Nat} {x : V} {P : Int → Prop}, rpI P H2 x → σ[k]? = some (some x) → Er T (tVar k) σ H3 (rpI P) := fun h1 h2 => er_var _ h2 h1
  refine q_asg (T := T) (R := anyI) (er_add ((er_ixP (l := l) (F := rpN) (hC (Xt.refl T H1) rfl) (er_mod (m := (l.length : Int)) (by omega) (er_int1 (hI rfl)) (er_lenL (hC (Xt.refl T H1) rfl))) (fun i h => h)).imp fun H2 u _ ⟨x, _, hx⟩ => ⟨x, True.intro, hx⟩)
    (er_mulL (c := 13) (by decide) er_c (er_div (c := (l.length : Int)) (by omega) (hI rfl) (er_lenL (hC (Xt.refl T H1) rfl))))) fun x1 H2 e2 h1 => ?_
  refine q_par (T := T) (ea_2 (er_mod (m := 1000003) (by decide) (er_int1 (vI h1 rfl)) er_c) (er_mod (m := 999983) (by decide) (er_int1 (er_div (c := 1000003) (by decide) (vI h1 rfl) er_c)) er_c)) fun vs H3 e3 ⟨x2, x3, ev, h2, h3⟩ => ⟨x2, x3, ev, ?_⟩
  have e13 := e2.trans e3
  refine q_asg (T := T) (R := inI 65521) (er_mod (by decide) (er_int1 (er_iI (er_iN (er_sum (hC e13 rfl))))) er_c) fun x4 H4 e4 h4 => ?_
  have a2 := vI (σ := [some v, some (.int i), some c, some x1, some x2, some x3, some x4, none]) (H3 := H4) (k := 4) h2 rfl
  have a3 := vI (σ := [some v, some (.int i), some c, some x1, some x2, some x3, some x4, none]) (H3 := H4) (k := 5) h3 rfl
  have a4 := vI (σ := [some v, some (.int i), some c, some x1, some x2, some x3, some x4, none]) (H3 := H4) (k := 6) h4 rfl
  refine q_asg (T := T) (R := inI 2147483647) (er_mod (by decide) (er_int1 (er_add (er_add (er_mulR (c := 48271) (by decide) (er_add (er_iI a2) (er_mulL (c := 977) (by decide) er_c (hI rfl))) er_c) (er_mulL (c := 31) (by decide) er_c (er_iI a3))) (er_iI a4))) er_c) fun x5 H5 e5 h5 => ?_
  have b3 := vI (σ := [some v, some (.int i), some c, some x1, some x2, some x3, some x4, some x5]) (H3 := H5) (k := 5) h3 rfl
  have b5 := vI (σ := [some v, some (.int i), some c, some x1, some x2, some x3, some x4, some x5]) (H3 := H5) (k := 7) h5 rfl
  refine s_ret (T := T) (er_add (er_mulR (c := 65537) (by decide) (er_iI (er_mod (m := 2147483629) (by decide) (er_int1 (er_mulB (m := 2147483647) (by decide) b5 (er_add (er_add (er_iI b5) (er_mulL (c := 31) (by decide) er_c (hI rfl))) (er_iI (er_iN er_c))))) er_c)) er_c) (er_iI b3)) fun u H6 e6 hu => q u H6 ((((e1.trans e13).trans e4).trans e5).trans e6) hu
theorem er_ixD0 (h : Er T ta σ H (rpDraw K ns)) : Er T (tOp rIxD ta (tC (.int 0))) σ H (rpS K ns) := er_op h er_c fun H1 x y _ ⟨d, a, e1, e2, e3⟩ e4 => fun Q q => ⟨d, a, e1, e2, .inl ⟨e4, q _ H1 (Xt.refl T H1) ⟨a, rfl, e3⟩⟩⟩
theorem er_ixD1 (h : Er T ta σ H (rpDraw K ns)) : Er T (tOp rIxD ta (tC (.int 1))) σ H anyI := er_op h er_c fun H1 x y _ ⟨d, a, e1, e2, e3⟩ e4 => fun Q q => ⟨d, a, e1, e2, .inr ⟨e4, fun k => q _ H1 (Xt.refl T H1) ⟨k, True.intro, rfl⟩⟩⟩
theorem ok_take {f : Addr} {fd : FuncData} (F : Fun K "_law_take" "_law_take" (topS 36) f fd) (m : mg "_law_take" = some (.ref f)) (N : Nm mg) (GN : Has P w K mg base 1 "_law_number" ["_law_script", "_law_index"] (Pm T 2 (prLNumber K))) : Has P w K mg base 2 "_law_take" ["_law_draw", "_law_many"] (Pm T 2 (prTake K)) := by
  refine Has.of F m (F.binds fun _ _ _ _ _ _ us hl => match us, hl with | [_, _], _ => rfl) (F.ok scTake (fun vs H Q E h => h.1) (fun cdv A outer s H vs Q E hr h => ?_))
  obtain ⟨_, R, ⟨v, ns, mm, rfl, hv, hm, rfl⟩, q⟩ := h
  obtain ⟨f1, fd1, G1, m1, k1, b1⟩ := GN
  have nd := scTake.nd
  refine ⟨_, pss_cons (ps_asg (pe_op op_add (pe_ix ix_draw (pv 0) pe_int (fun _ _ => rfl)) pe_int) (pg_sub (pv 0) pe_int set_draw))
    (pss_one (ps_ret (pe_op op_mod (pe_callTy call_int1 (by rfl) N.int (by decide +kernel) (pa_cons (pe_call G1 hr (by rfl) m1 k1 b1 .nil pass0 (pa_cons (pe_ix ix_draw (pv 0) pe_int (fun _ _ => rfl)) (pa_cons (pe_callTy call_int1 (by rfl) N.int (by decide +kernel) (pa_cons (pe_ix ix_draw (pv 0) pe_int (fun _ _ => rfl)) pa_nil)) pa_nil))) pa_nil)) (pv 1)))), ?_⟩
  refine of_start (σ := [some v, some (.int mm)]) rfl ?_
  have hD : ∀ {H1 : Hp}, Xt T H H1 → Er T (tVar 0) [some v, some (.int mm)] H1 (rpDraw K ns) := fun e => er_var (rpDraw K ns) rfl (Mn.mono e hv)
  obtain ⟨d, a, ev, hd, ha⟩ := id hv
  have h1 : Er T (tOp (rI0 fun i j => .int (i + j)) (tOp rIxD (tVar 0) (tC (.int 1))) (tC (.int 1))) [some v, some (.int mm)] H anyI := er_add (er_ixD1 (hD (Xt.refl T H))) (er_iI (er_iN er_c))
  refine h1 H (Xt.refl T H) _ fun x H1 e1 ⟨j, _, hx⟩ => ⟨v, rfl, d, a, j, ev, rfl, hx, e1.ext hd, ?_⟩
  refine s_ret (T := T) (er_mod hm (er_int1 (er_call (ea_2 (er_ixD0 (hD e1)) (er_int1 (er_ixD1 (hD e1)))) fun H2 vs _ ⟨y, z, e2, e3, ⟨k, _, e4⟩⟩ => ⟨by rw [e2]; rfl, y, k, ns, by rw [e2, e4], e3, rfl⟩)) (er_v rfl)) fun u H2 e2 hu => q u H2 (e1.trans e2) hu
end
end K8
set_option maxHeartbeats 4000000
namespace K8
open PySem L2 PySem.Spec PyProof.Rows
def prPick (T : Tb) (K : PySem.W.Frag) : List V → Hp → Rp → Prop := fun vs H R => ∃ (v u : V) (ns : List Int) (α : Type) (F : α → Rp) (l : List α), vs = [v, u] ∧ rpDraw K ns H v ∧ rpL F l H u ∧ (∀ x, Mn T (F x)) ∧ 1 ≤ l.length ∧ R = rpE (· ∈ l) F
theorem scPick : FnScope ["_law_draw", "_law_things"] ["_law_draw", "_law_things"] (defScope (topS 37)) := ⟨rfl, rfl, rfl, by decide +kernel, rfl, by decide +kernel, by decide +kernel⟩
def prOrder (K : PySem.W.Frag) : List V → Hp → Rp → Prop := fun vs H R => ∃ v ns, ∃ m : Nat, vs = [v, .int m] ∧ rpDraw K ns H v ∧ (1 ≤ m ∧ m ≤ 1000) ∧ R = rpE (fun l : List Int => l.length = m ∧ ∀ x ∈ l, 0 ≤ x ∧ x < m) (rpL rpN)
theorem scOrder : FnScope ["_law_draw", "_law_many", "_law_left", "_law_order_here", "_law_turn"] ["_law_draw", "_law_many"] (defScope (topS 38)) := ⟨rfl, rfl, rfl, by decide +kernel, rfl, by decide +kernel, by decide +kernel⟩
section
variable {P : Program} {w : World} {K : PySem.W.Frag} {mg : Str → Option Value} {base : Heap} {T : Tb} {σ : L2.St} {H : Hp} {te ta tb tc : TE} {D : Ends} {tz : TS}
/-- a new list of these -/
def rpNX (H0 : Hp) (xs : List V) : Rp := fun H v => ∃ p, v = .ref p ∧ H p = some (.lst xs) ∧ Nw H0 p
instance (H0 : Hp) (xs : List V) : Mn T (rpNX H0 xs) := ⟨fun e ⟨p, h1, h2, h3⟩ => ⟨p, h1, e.lst h2, h3⟩⟩
theorem er_newX : Er T (tLst tNil) σ H (rpNX H []) := fun H1 e Q q => ⟨sz_small (Nat.zero_le _), fun p hp => q _ _ (Xt.new hp) ⟨p, rfl, upd_same, .of e hp⟩⟩
theorem er_newRg {n : Nat} (h : Er T ta σ H (rpN (n : Int))) (hn : n ≤ 100000) : Er T (tLstRg (tRg1 ta)) σ H (rpNX H ((evy n).map V.int)) := fun H1 e Q q =>
  h H1 e _ fun v H2 e2 hv => ⟨(n : Int), hv, .of_le (by omega) (by omega) (by omega) (by omega), fun p hp => q _ _ (e2.trans (Xt.new hp)) ⟨p, rfl, by rw [upd_same, rgV_evy], .of (e.trans e2) hp⟩⟩
theorem erase_map (f : Int → V) : ∀ (l : List Int) (k : Nat), (l.map f).eraseIdx k = (l.eraseIdx k).map f
  | [], _ => rfl
  | _ :: _, 0 => rfl
  | x :: l, k + 1 => by
    show f x :: (l.map f).eraseIdx k = f x :: (l.eraseIdx k).map f
    rw [erase_map f l k]
theorem er_take {ns : List Int} {m : Int} (hm : 0 < m) (ha : Er T ta σ H (rpDraw K ns)) (hb : Er T tb σ H (rpN m)) : Er T (tCall (Pm T 2 (prTake K)) [] E0 (tCons ta (tCons tb tNil))) σ H (inI m) :=
  er_call (ea_2 ha hb) fun H1 vs _ ⟨x, y, e1, e2, e3⟩ => ⟨by rw [e1]; rfl, x, ns, m, by rw [e1, show y = V.int m from e3], e2, hm, rfl⟩
theorem ok_pick {f : Addr} {fd : FuncData} (F : Fun K "_law_pick" "_law_pick" (topS 37) f fd) (m : mg "_law_pick" = some (.ref f)) (N : Nm mg) (GT : Has P w K mg base 2 "_law_take" ["_law_draw", "_law_many"] (Pm T 2 (prTake K))) : Has P w K mg base 3 "_law_pick" ["_law_draw", "_law_things"] (Pm T 2 (prPick T K)) := by
  refine Has.of F m (F.binds fun _ _ _ _ _ _ us hl => match us, hl with | [_, _], _ => rfl) (F.ok scPick (fun vs H Q E h => h.1) (fun cdv A outer s H vs Q E hr h => ?_))
  obtain ⟨_, R, ⟨v, u, ns, α, F, l, rfl, hv, hu, mF, hl, rfl⟩, q⟩ := h
  obtain ⟨f1, fd1, G1, m1, k1, b1⟩ := GT
  refine ⟨_, pss_one (ps_ret (pe_ix ix_list (pv 1) (pe_call G1 hr (by rfl) m1 k1 b1 .nil pass0 (pa_cons (pv 0) (pa_cons (pe_callB call_len_seq (by rfl) N.len (by decide +kernel) (pa_cons (pv 1) pa_nil)) pa_nil))) (fun _ _ => rfl))), ?_⟩
  refine of_start (σ := [some v, some u]) rfl ?_
  haveI := mF
  exact s_ret (T := T) (er_ixP (F := F) (er_var (rpL F l) rfl hu) (er_take (m := (l.length : Int)) (by omega) (er_var (rpDraw K ns) rfl hv) (er_lenL (er_var (rpL F l) rfl hu))) (fun i h => h)) q
theorem ok_order {f : Addr} {fd : FuncData} (F : Fun K "_law_order" "_law_order" (topS 38) f fd) (m : mg "_law_order" = some (.ref f)) (N : Nm mg) (GT : Has P w K mg base 2 "_law_take" ["_law_draw", "_law_many"] (Pm T 2 (prTake K))) : Has P w K mg base 3 "_law_order" ["_law_draw", "_law_many"] (Pm T 2 (prOrder K)) := by
  refine Has.of F m (F.binds fun _ _ _ _ _ _ us hl => match us, hl with | [_, _], _ => rfl) (F.ok scOrder (fun vs H Q E h => h.1) (fun cdv A outer s H vs Q E hr h => ?_))
  obtain ⟨_, R, ⟨v, ns, mm, rfl, hv, hm, rfl⟩, q⟩ := h
  obtain ⟨f1, fd1, G1, m1, k1, b1⟩ := GT
  have nd := scOrder.nd
  refine ⟨_, pss_cons (ps_par (i := 2) (j := 3) (by rfl) nd rfl rfl (by decide) rfl rfl (pa_cons (pe_listRg rfl rfl N.list (prg_1 rfl N.range (pv 1))) (pa_cons (pe_lst pa_nil) pa_nil)) (by rfl))
    (pss_cons (ps_for PassesOwn.never rfl (pi_range1 (by rfl) N.range (pa_cons (pv 1) pa_nil)) (pg_name (i := 4) nd rfl (Or.inl rfl))
      (pss_one (ps_expr (pe_bm PySem.F.plainAttrs_list PySem.F.slot_list_append PySem.F.type_list_append mt_append (pv 3) (pa_cons (pe_bm PySem.F.plainAttrs_list PySem.F.slot_list_pop PySem.F.type_list_pop mt_popAt (pv 2) (pa_cons (pe_call G1 hr (by rfl) m1 k1 b1 .nil pass0 (pa_cons (pv 0) (pa_cons (pe_callB call_len_seq (by rfl) N.len (by decide +kernel) (pa_cons (pv 2) pa_nil)) pa_nil))) pa_nil)) pa_nil)))))
    (pss_one (ps_ret (pv 3)))), ?_⟩
  refine of_start (σ := [some v, some (.int mm), none, none, none]) rfl ?_
  refine q_par (T := T) (ea_2 (er_newRg (n := mm) (er_v rfl) (by omega)) er_newX) fun vs H1 e1 ⟨x, y, ev, ⟨pl, ex, hl, nl⟩, ⟨po, ey, ho, no⟩⟩ => ⟨x, y, ev, ?_⟩
  subst ex ey
  have nlo : pl ≠ po := fun z => by
    rw [z, ho] at hl
    have e5 : [] = (evy mm).map V.int := by injection Option.some.inj hl
    have e6 := congrArg List.length e5
    rw [List.length_map, evy_len] at e6
    have : 0 = mm := e6
    omega
  refine q_forR (T := T) (n := mm) (by omega) ((ea_1 (R := rpN (mm : Int)) (er_v rfl)).imp fun H2 vs _ ⟨a, e1, e2⟩ => by rw [e1, show a = V.int _ from e2])
    (fun i σ' H' => (∃ z, σ' = [some v, some (.int mm), some (.ref pl), some (.ref po), z]) ∧ Xt T H H' ∧ i ≤ mm ∧ ∃ ls os : List Int, H' pl = some (.lst (ls.map V.int)) ∧ H' po = some (.lst (os.map V.int)) ∧ ls.length = mm - i ∧ os.length = i ∧ (∀ x ∈ ls, 0 ≤ x ∧ x < mm) ∧ ∀ x ∈ os, 0 ≤ x ∧ x < mm)
    (fun H2 e2 => ⟨⟨none, rfl⟩, e1.trans e2, Nat.zero_le _, evy mm, [], e2.lst hl, e2.lst ho, evy_len mm, rfl, fun x hx => ?_, fun x hx => by cases hx⟩) (fun i σ' H2 hi I => ?_) (fun σ' H2 I => ?_)
  · obtain ⟨k, hk, rfl⟩ := List.mem_map.mp hx
    have := List.mem_range.mp hk
    omega
  · obtain ⟨⟨z, rfl⟩, eX, hin, ls, os, hpl, hpo, l1, l2, l3, l4⟩ := I
    refine ⟨.ref po, rfl, .inl ⟨rfl, _, SqL.of hpo⟩, .ref pl, rfl, .inl ⟨rfl, _, SqL.of hpl⟩, ?_⟩
    refine er_take (T := T) (ns := ns) (m := (ls.length : Int)) (by omega) (er_var (rpDraw K ns) rfl (Mn.mono eX hv)) (er_lenL (F := rpN) (er_var (rpL rpN ls) rfl ⟨pl, _, rfl, hpl, pints _⟩)) H2 (Xt.refl T H2) _ fun u H3 e3 ⟨k, hk, eu⟩ => ?_
    subst eu
    have hk2 : k.toNat < ls.length := by omega
    have hg : ls[k.toNat]? = some (ls[k.toNat]) := List.getElem?_eq_getElem hk2
    have hpl3 := e3.lst hpl
    have hpo3 := e3.lst hpo
    refine ⟨pl, _, k, k.toNat, .int ls[k.toNat], rfl, rfl, hpl3, by omega, by omega, ?_, by rw [List.getElem?_map, hg]; rfl, po, _, _, rfl, rfl, by rw [upd_ne nlo.symm]; exact hpo3, ?_, ?_⟩
    · rw [List.length_map]
      exact seqIndex_of hk.1 hk.2
    · rw [List.length_map, l2]
      exact Nat.lt_of_lt_of_le (show i < 100000 by omega) (by decide)
    · refine ⟨⟨_, rfl⟩, ((eX.trans e3).mutW nl hpl3 True.intro).mutW (u := .lst (os.map V.int)) no (by rw [upd_ne nlo.symm]; exact hpo3) True.intro, by omega, ls.eraseIdx k.toNat, os ++ [ls[k.toNat]], ?_, ?_, ?_, ?_, fun x hx => l3 x (List.mem_of_mem_eraseIdx hx), fun x hx => ?_⟩
      · rw [upd_ne nlo, upd_same, erase_map]
      · rw [upd_same, List.map_append]
        rfl
      · rw [List.length_eraseIdx_of_lt hk2]
        omega
      · rw [List.length_append, l2]
        rfl
      · rcases List.mem_append.mp hx with hx | hx
        · exact l4 x hx
        · rw [List.mem_singleton.mp hx]
          exact l3 _ (List.getElem_mem hk2)
  · obtain ⟨⟨z, rfl⟩, eX, hin, ls, os, hpl, hpo, l1, l2, l3, l4⟩ := I
    exact s_ret (T := T) (er_var (rpL rpN os) rfl ⟨po, _, rfl, hpo, pints _⟩) fun u H3 e3 hu => q u H3 (eX.trans e3) ⟨os, ⟨l2, l4⟩, hu⟩
end
end K8
set_option maxHeartbeats 4000000
namespace K8
open PySem L2 PySem.Spec PyProof.Rows
def prLPrices (K : PySem.W.Frag) : List V → Hp → Rp → Prop := fun vs H R => ∃ v ns, ∃ m : Nat, vs = [v, .int m] ∧ rpDraw K ns H v ∧ m ≤ 1000 ∧ R = rpE (fun ps => priceOk ps m) rpT
theorem scLPrices : FnScope ["_law_draw", "_law_width", "_law_place"] ["_law_draw", "_law_width"] (defScope (topS 41)) := ⟨rfl, rfl, rfl, by decide +kernel, rfl, by decide +kernel, by decide +kernel⟩
def prLRows (K : PySem.W.Frag) : List V → Hp → Rp → Prop := fun vs H R => ∃ v ns, ∃ m : Int, vs = [v, .int m] ∧ rpDraw K ns H v ∧ (1 ≤ m ∧ m ≤ 10) ∧ R = rpE (fun rows => ∃ n, Good rows n) (rpL rpT)
theorem scLRows : FnScope ["_law_draw", "_law_most", "_law_many", "_law_width", "_law_top", "_law_found", "_law_place", "_law_row", "_law_column"] ["_law_draw", "_law_most"] (defScope (topS 39)) := ⟨rfl, rfl, rfl, by decide +kernel, rfl, by decide +kernel, by decide +kernel⟩
section
variable {P : Program} {w : World} {K : PySem.W.Frag} {mg : Str → Option Value} {base : Heap} {T : Tb} {σ : L2.St} {H : Hp} {te ta tb tc : TE} {D : Ends} {tz : TS}
/-- over a range, the items not told -/
theorem er_lcR {β : Type} {wi : TI} {vs : List Nat} {j n : Nat} {RB : β → Rp} {Pb : β → Prop} [m : ∀ x, Mn T (RB x)] [hfl : ∀ x, Fl (RB x)] (hs : Es T wi σ H n (fun i _ x => x = .int (i : Int))) (hn : n ≤ 40000) (hw : ∀ x, wipe ((wipe σ vs).set j (some x)) vs = wipe σ vs)
    (turn : ∀ (i : Nat) H1, i < n → Xt T H H1 → Er T te ((wipe σ vs).set j (some (.int (i : Int)))) H1 (rpE Pb RB)) : Er T (tLc wi (gName j) tYes te vs) σ H (rpE (fun l => l.length = n ∧ ∀ x ∈ l, Pb x) (rpL RB)) := by
  refine er_lcG (RB := RB) (fun i acc => acc.length = i ∧ ∀ x ∈ acc, Pb x) hs (gm_name j) hn ⟨rfl, fun x hx => by cases hx⟩ fun i x H1 acc hi e hy ha => ?_
  subst hy
  refine ⟨Xt.refl T H1, hw _, (· = true), et_yes, fun hb => (by cases hb), fun _ => (turn i H1 hi e).imp fun H2 v _ ⟨b, pb, hb⟩ => ⟨b, ⟨?_, fun x hx => ?_⟩, hb⟩⟩
  · rw [List.length_append, ha.1]
    rfl
  · rcases List.mem_append.mp hx with hx | hx
    · exact ha.2 x hx
    · rw [List.mem_singleton.mp hx]
      exact pb
theorem er_tupE {Pb : List Int → Prop} (h : Er T te σ H (rpE Pb (rpL rpN))) : Er T (tCB (rTup K) (tCons te tNil)) σ H (rpE Pb rpT) :=
  er_cb (ea_1 h) fun H1 vs _ ⟨v, ev, l, pl, a, ys, e1, e2, e3⟩ => fun Q q => ⟨a, ys, by rw [ev, e1], .inl ⟨SqL.of e2, fun p hp => q _ _ (Xt.new hp) ⟨l, pl, p, rfl, by rw [upd_same, ints_p e3]⟩⟩⟩
theorem er_pick {α : Type} {F : α → Rp} {l : List α} {ns : List Int} [mF : ∀ x, Mn T (F x)] (hl : 1 ≤ l.length) (ha : Er T ta σ H (rpDraw K ns)) (hb : Er T tb σ H (rpL F l)) : Er T (tCall (Pm T 2 (prPick T K)) [] E0 (tCons ta (tCons tb tNil))) σ H (rpE (· ∈ l) F) :=
  er_call (ea_2 ha hb) fun H1 vs _ ⟨x, y, e1, e2, e3⟩ => ⟨by rw [e1]; rfl, x, y, ns, α, F, l, e1, e2, e3, mF, hl, rfl⟩
/-- a list of ints displayed -/
theorem er_lstI {tr : TA} {ns : List Int} (h : Ea T tr σ H (fun _ vs => vs = ns.map V.int)) (hz : ns.length ≤ 100000) : Er T (tLst tr) σ H (rpL rpN ns) :=
  er_lst h (fun H1 vs e => by rw [e, List.length_map]; exact hz) fun H1 vs p _ e hp => ⟨p, _, rfl, by rw [upd_same, e], pints ns⟩
theorem ea_c {tr : TA} {i : Int} {ns : List Int} (hr : Ea T tr σ H (fun _ vs => vs = ns.map V.int)) : Ea T (tCons (tC (.int i)) tr) σ H (fun _ vs => vs = (i :: ns).map V.int) :=
  (ea_cons (R := rpN i) er_c hr).imp fun H1 vs _ ⟨v, r, e1, e2, e3⟩ => by rw [e1, show v = V.int i from e2, e3]; rfl
theorem q_asgG {R : Rp} {g : TG} (h : Er T te σ H R) (k : ∀ v H1, Xt T H H1 → R H1 v → g v σ H1 fun σ2 H2 => tz D σ2 H2) : tSeq (tAsg te g) tz D σ H := h H (Xt.refl T H) _ k
theorem er_1p {m : Int} (h : Er T tb σ H (inI m)) : Er T (tOp (rI0 fun i j => .int (i + j)) (tC (.int 1)) tb) σ H (rpI fun i => 1 ≤ i ∧ i ≤ m) := er_I0 (er_iN (i := 1) er_c) h fun H1 i j e hj => by
  subst e
  exact ⟨_, by omega, rfl⟩
theorem ok_lprices {f : Addr} {fd : FuncData} (F : Fun K "_law_prices" "_law_prices" (topS 41) f fd) (m : mg "_law_prices" = some (.ref f)) (N : Nm mg) (GP : Has P w K mg base 3 "_law_pick" ["_law_draw", "_law_things"] (Pm T 2 (prPick T K))) : Has P w K mg base 4 "_law_prices" ["_law_draw", "_law_width"] (Pm T 2 (prLPrices K)) := by
  refine Has.of F m (F.binds fun _ _ _ _ _ _ us hl => match us, hl with | [_, _], _ => rfl) (F.ok scLPrices (fun vs H Q E h => h.1) (fun cdv A outer s H vs Q E hr h => ?_))
  obtain ⟨_, R, ⟨v, ns, mm, rfl, hv, hm, rfl⟩, q⟩ := h
  obtain ⟨f1, fd1, G1, m1, k1, b1⟩ := GP
  have nd := scLPrices.nd
  refine ⟨_, pss_one (ps_ret (pe_callTy (r := rTup K) call_tuple_of (by rfl) N.tuple (by decide +kernel) (pa_cons (pe_lc (own := [("_law_place", 2)]) (g := gName 2) (tt := tYes) rfl nd (pi_range1 (by rfl) N.range (pa_cons (pv 1) pa_nil)) (blkOk_by (N := ["_law_draw", "_law_width", "_law_place"]) (sc := defScope (topS 41)) (by decide +kernel))
    (fun _ _ _ _ _ => pg_name (i := 2) nd rfl (Or.inl rfl)) (fun _ _ _ _ _ => pts_nil) (fun _ _ _ _ _ => pe_call G1 hr (by rfl) m1 k1 b1 .nil pass0 (pa_cons (pv 0) (pa_cons (pe_lst (pa_cons pe_int (pa_cons pe_int (pa_cons pe_int (pa_cons pe_int (pa_cons pe_int (pa_cons pe_int pa_nil))))))) pa_nil)))) pa_nil))), ?_⟩
  refine of_start (σ := [some v, some (.int mm), none]) rfl ?_
  refine s_ret (T := T) (er_tupE (Pb := fun l => l.length = mm ∧ ∀ x ∈ l, x ∈ [1, 1, 0, 2, 5, 9]) (er_lcR (RB := rpN) (n := mm) (es_rng1 (n := mm) (by omega) ((ea_1 (R := rpN (mm : Int)) (er_v rfl)).imp fun H2 vs _ ⟨a, e1, e2⟩ => by rw [e1, show a = V.int _ from e2])) (by omega) (fun _ => rfl) fun i H1 hi e =>
    er_pick (l := [1, 1, 0, 2, 5, 9]) (by decide) (er_var (rpDraw K ns) rfl (Mn.mono e hv)) (er_lstI (ea_c (ea_c (ea_c (ea_c (ea_c (ea_c (ns := []) ea_nil)))))) (by show 6 ≤ 100000; decide)))) fun u H1 e1 ⟨ps, ⟨p1, p2⟩, hu⟩ => q u H1 e1 ⟨ps, ⟨p1, fun p hp => ?_⟩, hu⟩
  have := p2 p hp
  have all : ∀ x ∈ ([1, 1, 0, 2, 5, 9] : List Int), isNum x 0 9 = true := by decide
  exact all p this
theorem ok_lrows {f : Addr} {fd : FuncData} (F : Fun K "_law_rows" "_law_rows" (topS 39) f fd) (m : mg "_law_rows" = some (.ref f)) (N : Nm mg) (GT : Has P w K mg base 2 "_law_take" ["_law_draw", "_law_many"] (Pm T 2 (prTake K))) : Has P w K mg base 3 "_law_rows" ["_law_draw", "_law_most"] (Pm T 2 (prLRows K)) := by
  refine Has.of F m (F.binds fun _ _ _ _ _ _ us hl => match us, hl with | [_, _], _ => rfl) (F.ok scLRows (fun vs H Q E h => h.1) (fun cdv A outer s H vs Q E hr h => ?_))
  obtain ⟨_, R, ⟨v, ns, mm, rfl, hv, hm, rfl⟩, q⟩ := h
  obtain ⟨f1, fd1, G1, m1, k1, b1⟩ := GT
  have nd := scLRows.nd
  refine ⟨_, pss_cons (ps_asg (pe_tup (pa_cons (pe_op op_add pe_int (pe_call G1 hr (by rfl) m1 k1 b1 .nil pass0 (pa_cons (pv 0) (pa_cons (pv 1) pa_nil)))) (pa_cons (pe_op op_add pe_int (pe_call G1 hr (by rfl) m1 k1 b1 .nil pass0 (pa_cons (pv 0) (pa_cons pe_int pa_nil)))) (pa_cons (pe_op op_add pe_int (pe_call G1 hr (by rfl) m1 k1 b1 .nil pass0 (pa_cons (pv 0) (pa_cons pe_int pa_nil)))) pa_nil))))
      (pg_tup rfl (pgs_cons (pg_name (i := 2) nd rfl (Or.inl rfl)) (pgs_cons (pg_name (i := 3) nd rfl (Or.inl rfl)) (pgs_cons (pg_name (i := 4) nd rfl (Or.inr rfl)) pgs_nil)))))
    (pss_cons (ps_asg (pe_tup (pa_cons (pe_ifExp (PW.pt (pw_and (pt_cmpR op_eq (pv 4) pe_int (nomark _)) (pw_and1 (pt_cmpR op_eq (pe_call G1 hr (by rfl) m1 k1 b1 .nil pass0 (pa_cons (pv 0) (pa_cons pe_int pa_nil))) pe_int (nomark _))))) pe_int (pv 4)) (pa_cons (pe_lst pa_nil) pa_nil)))
      (pg_tup rfl (pgs_cons (pg_name (i := 4) nd rfl (Or.inr rfl)) (pgs_cons (pg_name (i := 5) nd rfl (Or.inl rfl)) pgs_nil))))
    (pss_cons (ps_for PassesOwn.never rfl (pi_range1 (by rfl) N.range (pa_cons (pv 2) pa_nil)) (pg_name (i := 6) nd rfl (Or.inl rfl))
      (pss_cons (ps_set (i := 7) nd rfl (Or.inl rfl) (pe_callTy (r := rTup K) call_tuple_of (by rfl) N.tuple (by decide +kernel) (pa_cons (pe_lc (own := [("_law_column", 8)]) (g := gName 8) (tt := tYes) rfl nd (pi_range1 (by rfl) N.range (pa_cons (pv 3) pa_nil)) (blkOk_by (N := ["_law_draw", "_law_most", "_law_many", "_law_width", "_law_top", "_law_found", "_law_place", "_law_row", "_law_column"]) (sc := defScope (topS 39)) (by decide +kernel))
          (fun _ _ _ _ _ => pg_name (i := 8) nd rfl (Or.inl rfl)) (fun _ _ _ _ _ => pts_nil) (fun _ _ _ _ _ => pe_call G1 hr (by rfl) m1 k1 b1 .nil pass0 (pa_cons (pv 0) (pa_cons (pe_op op_add (pv 4) pe_int) pa_nil)))) pa_nil)))
      (pss_one (ps_expr (pe_bm PySem.F.plainAttrs_list PySem.F.slot_list_append PySem.F.type_list_append mt_append (pv 5) (pa_cons (pe_ifExp (PW.pt (pw_and (pt_cmpR (op_neD hr.units) (pv 5) (pe_lst pa_nil) (nomark _)) (pw_and1 (pt_cmpR op_eq (pe_call G1 hr (by rfl) m1 k1 b1 .nil pass0 (pa_cons (pv 0) (pa_cons pe_int pa_nil))) pe_int (nomark _)))))
        (pe_ix (r := rIxL K) ix_list (pv 5) (pe_call G1 hr (by rfl) m1 k1 b1 .nil pass0 (pa_cons (pv 0) (pa_cons (pe_callB (r := rLn K) call_len_seq (by rfl) N.len (by decide +kernel) (pa_cons (pv 5) pa_nil)) pa_nil))) (fun _ _ => rfl)) (pv 7)) pa_nil))))))
    (pss_one (ps_ret (pv 5))))), ?_⟩
  refine of_start (σ := [some v, some (.int mm), none, none, none, none, none, none, none]) rfl ?_
  have hD : ∀ {σ : L2.St} {H1 : Hp}, Xt T H H1 → σ[0]? = some (some v) → Er T (tVar 0) σ H1 (rpDraw K ns) := fun e h => er_var (rpDraw K ns) h (Mn.mono e hv)
  refine q_asgG (T := T) (R := fun H v => ∃ p i j k, v = .ref p ∧ H p = some (.tup [.int i, .int j, .int k]) ∧ (1 ≤ i ∧ i ≤ mm) ∧ (1 ≤ j ∧ j ≤ 4) ∧ 1 ≤ k ∧ k ≤ 3) (er_tup (ea_3 (er_1p (er_take (by omega) (hD (Xt.refl T H) rfl) (er_v rfl))) (er_1p (er_take (m := 4) (by omega) (hD (Xt.refl T H) rfl) er_c)) (er_1p (er_take (m := 3) (by omega) (hD (Xt.refl T H) rfl) er_c)))
    (fun _ vs ⟨_, _, _, e, _⟩ => by rw [e]; show 3 ≤ 100000; decide) fun H1 vs p _ ⟨a, b, c, e, ⟨i, hi, e1⟩, ⟨j, hj, e2⟩, k, hk, e3⟩ hp => ⟨p, i, j, k, rfl, by rw [upd_same, e, e1, e2, e3], hi, hj, hk⟩) fun x H1 e1 ⟨p1, many, wd, top, ex, hp1, hmany, hwd, htop⟩ => ?_
  subst ex
  refine g_three hp1 ?_
  refine q_asgG (T := T) (R := fun H v => ∃ p k pf, v = .ref p ∧ H p = some (.tup [.int k, .ref pf]) ∧ (1 ≤ k ∧ k ≤ 6) ∧ H pf = some (.lst []) ∧ Nw H1 pf) (er_tup (ea_2 (RA := rpI fun k => 1 ≤ k ∧ k ≤ 6) (RB := rpNX H1 []) (er_if (P := fun _ => True) (et_and (P := fun _ => True) (P' := fun _ => True) (et_test (er_eqP (er_iN (er_v rfl)) er_c)) (fun _ => et_test (er_eqP (er_take (m := 2) (by omega) (hD e1 rfl) er_c) er_c)) (fun _ => True.intro) fun _ _ _ => True.intro) (fun _ => er_i er_c (by decide)) fun _ => er_i (i := top) (er_v rfl) (by omega)) er_newX)
    (fun _ vs ⟨_, _, e, _⟩ => by rw [e]; show 2 ≤ 100000; decide) fun H2 vs p _ ⟨a, b, e, ⟨k, hk, e1⟩, pf, e2, e3, e4⟩ hp => ⟨p, k, pf, rfl, by rw [upd_same, e, e1, e2], hk, by rw [upd_ne (ne_of_none e3 hp)]; exact e3, e4⟩) fun x H2 e2 ⟨p2, tp, pf, ex, hp2, htp, hpf, npf⟩ => ?_
  subst ex
  refine g_two hp2 ?_
  obtain ⟨nn, hnn⟩ : ∃ nn : Nat, many = (nn : Int) := ⟨many.toNat, by omega⟩
  obtain ⟨nw, hnw⟩ : ∃ nw : Nat, wd = (nw : Int) := ⟨wd.toNat, by omega⟩
  subst hnn hnw
  refine q_forR (T := T) (n := nn) (by omega) ((ea_1 (R := rpN (nn : Int)) (er_v rfl)).imp fun H2 vs _ ⟨a, e1, e2⟩ => by rw [e1, show a = V.int _ from e2])
    (fun i σ' H' => (∃ z1 z2, σ' = [some v, some (.int mm), some (.int (nn : Int)), some (.int (nw : Int)), some (.int tp), some (.ref pf), z1, z2, none]) ∧ Xt T H1 H' ∧ i ≤ nn ∧ ∃ ys rows, H' pf = some (.lst ys) ∧ Paired (fun y x => rpT x H' y) ys rows ∧ rows.length = i ∧ ∀ r ∈ rows, r.length = nw ∧ rowOk r = true)
    (fun H3 e3 => ⟨⟨none, none, rfl⟩, e2.trans e3, Nat.zero_le _, [], [], e3.lst hpf, .nil, rfl, fun x hx => by cases hx⟩) (fun i σ' H3 hi I => ?_) (fun σ' H3 I => ?_)
  · obtain ⟨⟨z1, z2, rfl⟩, eX, hin, ys, rows, hys, hpr, hl, hr2⟩ := I
    have eo := e1.trans eX
    refine q_asg (T := T) (R := rpE (fun r => r.length = nw ∧ ∀ x ∈ r, 0 ≤ x ∧ x < tp + 1) rpT) (er_tupE (er_lcR (RB := rpN) (n := nw) (es_rng1 (n := nw) (by omega) ((ea_1 (R := rpN (nw : Int)) (er_v rfl)).imp fun H2 vs _ ⟨a, e1, e2⟩ => by rw [e1, show a = V.int _ from e2])) (by omega) (fun _ => rfl) fun i H4 hi e4 =>
      (er_take (m := tp + 1) (by omega) (hD (eo.trans e4) rfl) (er_N0 (g := fun i j => .int (i + j)) (i := tp) (j := 1) (er_v rfl) er_c)).imp fun H5 u _ ⟨x, hx, ex⟩ => ⟨x, hx, ex⟩)) fun u H4 e4 ⟨r, ⟨r1, r2⟩, hu⟩ => ?_
    have rok : rowOk r = true := by
      unfold rowOk
      rw [List.all_eq_true]
      intro x hx
      have := r2 x hx
      unfold isNum
      rw [decide_eq_true (by omega), decide_eq_true (by omega)]
      rfl
    have hys4 := e4.lst hys
    have hF : ∀ {σ : L2.St} {H5 : Hp}, Xt T H4 H5 → σ[5]? = some (some (.ref pf)) → Er T (tVar 5) σ H5 (rpL rpT rows) := fun e h => er_var _ h ⟨pf, ys, rfl, e.lst hys4, pmono (e4.trans e) hpr⟩
    refine s_app (T := T) (R := rpE (fun r => r.length = nw ∧ rowOk r = true) rpT) rfl hys4 (by rw [plen hpr]; omega) (er_if (P := fun b => b = true → rows ≠ []) (et_and (P := (· = !decide (rows = []))) (P' := fun _ => True) (et_test (er_b (er_neL (hF (Xt.refl T H4) rfl) (er_nil (F := rpT))))) (fun _ => et_test (er_eqP (er_take (m := 5) (by omega) (hD (eo.trans e4) rfl) er_c) er_c)) (fun _ z => by cases z) fun b h _ _ => by simpa using h)
      (fun h => (er_ixP (F := rpT) (hF (Xt.refl T H4) rfl) (er_take (m := (rows.length : Int)) ?_ (hD (eo.trans e4) rfl) (er_lenL (hF (Xt.refl T H4) rfl))) (fun i h => h)).imp fun H5 w _ ⟨x, hx, hw⟩ => ⟨x, hr2 x hx, hw⟩) fun _ => (er_var (rpT r) rfl hu).imp fun H5 w _ hw => ⟨r, ⟨r1, rok⟩, hw⟩) fun w5 H5 e5 ⟨r5, hr5, hw⟩ => ?_
    · have := List.length_pos_iff.mpr (h rfl)
      omega
    · have hys5 := e5.lst hys4
      refine ⟨⟨_, _, rfl⟩, (eX.trans (e4.trans e5)).mutW npf hys5 True.intro, by omega, _, rows ++ [r5], upd_same, papp (pflat hys5 (pmono (e4.trans e5) hpr)) (.cons (Ft.flat hw hys5 fun _ z => by cases z) .nil), by rw [List.length_append, hl]; rfl, fun x hx => ?_⟩
      rcases List.mem_append.mp hx with hx | hx
      · exact hr2 x hx
      · rw [List.mem_singleton.mp hx]
        exact hr5
  · obtain ⟨⟨z1, z2, rfl⟩, eX, hin, ys, rows, hys, hpr, hl, hr2⟩ := I
    refine s_ret (T := T) (er_var (rpL rpT rows) rfl ⟨pf, ys, rfl, hys, hpr⟩) fun u H4 e4 hu => q u H4 ((e1.trans eX).trans e4) ⟨rows, ⟨nw, ⟨by omega, by omega, by omega, by omega, fun r hr => (hr2 r hr).1, fun r hr => (hr2 r hr).2⟩⟩, hu⟩
end
end K8
set_option maxHeartbeats 4000000
namespace K8
open PySem L2 PySem.Spec PyProof.Rows
def ItzT3 (K : PySem.W.Frag) (a b c : Addr) : It :=
  ⟨fun i H => ∃ (xs ys zs : List V) (x y z : V), SqT K H a xs ∧ SqT K H b ys ∧ SqT K H c zs ∧ xs[i]? = some x ∧ ys[i]? = some y ∧ zs[i]? = some z,
    fun i H v H' => ∃ T x y z, v = .ref T ∧ H T = none ∧ H' = upd H T (.tup [x, y, z]) ∧ (∀ xs, SqT K H a xs → xs[i]? = some x) ∧ (∀ ys, SqT K H b ys → ys[i]? = some y) ∧ ∀ zs, SqT K H c zs → zs[i]? = some z,
    fun i H => ∃ xs ys zs : List V, SqT K H a xs ∧ SqT K H b ys ∧ SqT K H c zs ∧ i ≤ xs.length ∧ i ≤ ys.length ∧ i ≤ zs.length ∧ (xs.length = i ∨ ys.length = i ∨ zs.length = i)⟩
theorem turn_zipT3 {P : Program} {w : World} {K : PySem.W.Frag} {elts : List Expr} {kk : Nat} {tpos : Pos} {a b c z TI TO i1 i2 i3 : Addr} (D : ZipSep3 z TI TO i1 i2 i3 [i1, a] [i2, b] [i3, c]) :
    Turn P w K (.Tuple elts kk tpos) (ItzT3 K a b c) [z, TI, TO, i1, i2, i3] z (fun i h => IsZip h z TI TO .none ∧ IsTupOf3 h TI (.ref i1) (.ref i2) (.ref i3) ∧ (∃ x y u, IsTupOf3 h TO x y u) ∧ h.IsTupleIter i1 a i ∧ h.IsTupleIter i2 b i ∧ h.IsTupleIter i3 c i) where
  mem := by simp
  obj := fun i h st d hc => by
    obtain ⟨hz, hTI, ⟨x, y, u, hTO⟩, ⟨o1, e1, _, d1⟩, ⟨o2, e2, _, d2⟩, ⟨o3, e3, _, d3⟩⟩ := st
    have e' : d = z ∨ d = TI ∨ d = TO ∨ d = i1 ∨ d = i2 ∨ d = i3 := by simpa using hc
    rcases e' with q | q | q | q | q | q
    · rw [q]; exact ⟨_, hz, fun v q => nomatch q⟩
    · rw [q]; exact ⟨_, hTI, fun v q => nomatch q⟩
    · rw [q]; exact ⟨_, hTO, fun v q => nomatch q⟩
    · rw [q]; exact ⟨o1, e1, fun v q => by rw [d1] at q; cases q⟩
    · rw [q]; exact ⟨o2, e2, fun v q => by rw [d2] at q; cases q⟩
    · rw [q]; exact ⟨o3, e3, fun v q => by rw [d3] at q; cases q⟩
  keep := fun i h h' st k => by
    obtain ⟨hz, hTI, ⟨x, y, u, hTO⟩, h1, h2, h3⟩ := st
    exact ⟨k z (by simp) _ hz, k TI (by simp) _ hTI, ⟨x, y, u, k TO (by simp) _ hTO⟩, h1.at fun o q => k i1 (by simp) o q, h2.at fun o q => k i2 (by simp) o q, h3.at fun o q => k i3 (by simp) o q⟩
  item := by
    intro X hP hw hK hc i pins s σ H E I hf st hg
    subst hP hw hK
    obtain ⟨hz, hTI, ⟨x0, y0, u0, hTO⟩, h1, h2, h3⟩ := st
    obtain ⟨xs, ys, zs, x, y, v, hqx, hqy, hqz, hx, hy, hv⟩ := hg
    obtain ⟨its, rv, p, _⟩ := I.tuple hqx
    obtain ⟨its2, rv2, p2, _⟩ := I.tuple hqy
    obtain ⟨its3, rv3, p3, _⟩ := I.tuple hqz
    obtain ⟨u, hu, ru⟩ := rv.get hx
    obtain ⟨u2, hu2, ru2⟩ := rv2.get hy
    obtain ⟨u3, hu3, ru3⟩ := rv3.get hv
    have hzl : z < s.heap.objs.size := Heap.lt_size hz
    have hh : X.A.in1.handled = none := I.ok.hd hc
    have n1 : a ≠ i1 := fun e => by
      obtain ⟨o, ho, hcl, _⟩ := p
      obtain ⟨o', ho', hcl', _⟩ := h1
      rw [e, ho'] at ho
      cases ho
      rw [hcl'] at hcl
      injection hcl with hcl
      exact absurd hcl (by decide)
    have n2 : b ≠ i2 := fun e => by
      obtain ⟨o, ho, hcl, _⟩ := p2
      obtain ⟨o', ho', hcl', _⟩ := h2
      rw [e, ho'] at ho
      cases ho
      rw [hcl'] at hcl
      injection hcl with hcl
      exact absurd hcl (by decide)
    have n3 : c ≠ i3 := fun e => by
      obtain ⟨o, ho, hcl, _⟩ := p3
      obtain ⟨o', ho', hcl', _⟩ := h3
      rw [e, ho'] at ho
      cases ho
      rw [hcl'] at hcl
      injection hcl with hcl
      exact absurd hcl (by decide)
    refine wpAny_pyNext_zipD3_item D (Draws.tuple hh i1 a n1 its.toArray) (Draws.tuple hh i2 b n2 its2.toArray) (Draws.tuple hh i3 c n3 its3.toArray) hz hTI hTO ⟨h1, p⟩ ⟨h2, p2⟩ ⟨h3, p3⟩ (by rw [List.size_toArray]; exact (List.getElem?_eq_some_iff.mp hu).1) (by rw [List.size_toArray]; exact (List.getElem?_eq_some_iff.mp hu2).1) (by rw [List.size_toArray]; exact (List.getElem?_eq_some_iff.mp hu3).1)
      fun v1 v2 v3 h' tk g1 g2 g3 z' TO' h1' h2' h3' hT hsz hk => ?_
    have q1 : v1 = u := by
      have g1' : its.toArray[i]? = some v1 := g1
      rw [List.getElem?_toArray, hu] at g1'
      exact (Option.some.inj g1').symm
    have q2 : v2 = u2 := by
      have g1' : its2.toArray[i]? = some v2 := g2
      rw [List.getElem?_toArray, hu2] at g1'
      exact (Option.some.inj g1').symm
    have q3 : v3 = u3 := by
      have g1' : its3.toArray[i]? = some v3 := g3
      rw [List.getElem?_toArray, hu3] at g1'
      exact (Option.some.inj g1').symm
    subst q1 q2 q3
    refine ⟨_, rfl, wpAny_letOwnedTupleGo_zip (s := { s with heap := h', toks := tk }) z' fun h'' z'' sb => ?_⟩
    have hT2 : h''.get? s.heap.objs.size = some { cls := .type "tuple", data := .seq #[v1, v2, v3] } := (sb.2 _ (Nat.ne_of_gt hzl)).trans hT
    have new : ObjOk X.prog X.w (upd H s.heap.objs.size (.tup [x, y, v])) h'' s.heap.objs.size (.tup [x, y, v]) :=
      ⟨by show 3 ≤ sizeLine; decide, [v1, v2, v3], .cons ru (.cons ru2 (.cons ru3 .nil)), ⟨_, hT2, rfl, _, rfl⟩⟩
    have I1 : Inv X pins σ (upd H s.heap.objs.size (.tup [x, y, v])) { s with heap := h'', toks := tk } :=
      I.turnedNew (t' := tk) (ch := [z, TI, TO, i1, i2, i3]) (fun d o hb q => (sb.2 d (fun q' => hb (by simp [q']))).trans (hk d o (fun q' => hb (by simp [q'])) (fun q' => hb (by simp [q'])) (fun q' => hb (by simp [q'])) (fun q' => hb (by simp [q'])) (fun q' => hb (by simp [q'])) q)) hf (Nat.le_refl _) new
    refine ⟨.ref s.heap.objs.size, _, I1, rfl, ⟨_, x, y, v, rfl, I.hok.fresh (Nat.le_refl _), rfl, fun l hl => by rw [I.tuple_inj hl hqx]; exact hx, fun l hl => by rw [I.tuple_inj hl hqy]; exact hy, fun l hl => by rw [I.tuple_inj hl hqz]; exact hv⟩, ⟨z'', ?_, ⟨v1, v2, v3, ?_⟩, ?_, ?_, ?_⟩, fun d hcm => ?_⟩
    · exact (sb.2 _ D.TIz).trans (hk _ _ D.TIz D.TITO D.TIi1 D.TIi2 D.TIi3 hTI)
    · exact (sb.2 _ D.TOz).trans TO'
    · exact h1'.1.at fun o q => (sb.2 _ D.zi1.symm).trans q
    · exact h2'.1.at fun o q => (sb.2 _ D.zi2.symm).trans q
    · exact h3'.1.at fun o q => (sb.2 _ D.zi3.symm).trans q
    · have hlt : d < s.heap.objs.size := by
        have e' : d = z ∨ d = TI ∨ d = TO ∨ d = i1 ∨ d = i2 ∨ d = i3 := by simpa using hcm
        rcases e' with q | q | q | q | q | q
        · rw [q]; exact hzl
        · rw [q]; exact Heap.lt_size hTI
        · rw [q]; exact Heap.lt_size hTO
        · rw [q]; obtain ⟨_, e1, _⟩ := h1; exact Heap.lt_size e1
        · rw [q]; obtain ⟨_, e2, _⟩ := h2; exact Heap.lt_size e2
        · rw [q]; obtain ⟨_, e2, _⟩ := h3; exact Heap.lt_size e2
      rw [upd_ne (Nat.ne_of_lt hlt)]
      exact (hf d hcm).1
  done := by
    intro X hP hw hK hc i pins s σ H E I hf st hg
    subst hP hw hK
    obtain ⟨hz, hTI, ⟨x0, y0, u0, hTO⟩, h1, h2, h3⟩ := st
    obtain ⟨xs, ys, zs, hqx, hqy, hqz, le1, le2, le3, hend⟩ := hg
    obtain ⟨its, rv, p, _⟩ := I.tuple hqx
    obtain ⟨its2, rv2, p2, _⟩ := I.tuple hqy
    obtain ⟨its3, rv3, p3, _⟩ := I.tuple hqz
    have l1 := rv.length
    have l2 := rv2.length
    have l3 := rv3.length
    have hh : X.A.in1.handled = none := I.ok.hd hc
    have n1 : a ≠ i1 := fun e => by
      obtain ⟨o, ho, hcl, _⟩ := p
      obtain ⟨o', ho', hcl', _⟩ := h1
      rw [e, ho'] at ho
      cases ho
      rw [hcl'] at hcl
      injection hcl with hcl
      exact absurd hcl (by decide)
    have n2 : b ≠ i2 := fun e => by
      obtain ⟨o, ho, hcl, _⟩ := p2
      obtain ⟨o', ho', hcl', _⟩ := h2
      rw [e, ho'] at ho
      cases ho
      rw [hcl'] at hcl
      injection hcl with hcl
      exact absurd hcl (by decide)
    have n3 : c ≠ i3 := fun e => by
      obtain ⟨o, ho, hcl, _⟩ := p3
      obtain ⟨o', ho', hcl', _⟩ := h3
      rw [e, ho'] at ho
      cases ho
      rw [hcl'] at hcl
      injection hcl with hcl
      exact absurd hcl (by decide)
    exact wpAny_pyNext_zipD3_end D (Draws.tuple hh i1 a n1 its.toArray) (Draws.tuple hh i2 b n2 its2.toArray) (Draws.tuple hh i3 c n3 its3.toArray) hz hTI hTO ⟨h1, p⟩ ⟨h2, p2⟩ ⟨h3, p3⟩ (by rw [List.size_toArray]; omega) (by rw [List.size_toArray]; omega) (by rw [List.size_toArray]; omega) (by rw [List.size_toArray, List.size_toArray, List.size_toArray]; omega) fun h' tk hk => ⟨rfl, I.turnedL (t' := tk) (ch := [z, TI, TO, i1, i2, i3]) (fun d o hb q =>
      hk d o (fun q' => hb (by simp [q'])) (fun q' => hb (by simp [q'])) (fun q' => hb (by simp [q'])) (fun q' => hb (by simp [q'])) (fun q' => hb (by simp [q'])) q) hf⟩
  self := fun A i s Q E st h => wpAny_pyIter_zip st.1 h
def iZip3 (K : PySem.W.Frag) (ta : TA) : TI := fun σ H R => ta σ H fun vs H1 => ∃ a b c xs ys zs, vs = [.ref a, .ref b, .ref c] ∧ SqT K H1 a xs ∧ SqT K H1 b ys ∧ SqT K H1 c zs ∧ R (ItzT3 K a b c) H1
theorem pi_zip3 {X : Cx} {e e2 e3 : Expr} {ta : TA} {p pos tpos : Pos} {elts : List Expr} {kk : Nat} (hg : Gl X "zip") (hm : X.mg "zip" = none) (ha : PA X [e, e2, e3] ta)
    (hs : starEach [e, e2, e3] X.env = (false, eval e X.env) :: starEach [e2, e3] X.env := by rfl) (hpl : (backTo pos (starEach [e2, e3] X.env)).any (·.1) = false := by rfl) :
    PI X (.Tuple elts kk tpos) (.Call (.Name "zip" p) [e, e2, e3] [] pos) (iZip3 X.K ta) := by
  refine ⟨fun pins s σ H R I h => ?_⟩
  refine Call_ (ld_blt I hg hm PyProof.Rows.boot_zip (PyProof.Rows.callWith_type1 (thn (ha.run pos pins s σ H _ I h) fun us s1 ⟨vs, H1, I1, r1, q1⟩ => ?_) hs hpl))
  obtain ⟨a, b, c, xs, ys, zs, ex, hqx, hqy, hqz, q⟩ := q1
  subst ex
  cases r1 with
  | cons r rr =>
    cases rr with
    | cons r' rr =>
      cases rr with
      | cons r'' rr =>
        cases rr
        cases r
        cases r'
        cases r''
        have fresh6 : ∀ d, d ∈ [s1.heap.objs.size + 5, s1.heap.objs.size + 3, s1.heap.objs.size + 4, s1.heap.objs.size, s1.heap.objs.size + 1, s1.heap.objs.size + 2] → FpOk X pins H1 d := fun d hcm => by
          have e' : d = s1.heap.objs.size + 5 ∨ d = s1.heap.objs.size + 3 ∨ d = s1.heap.objs.size + 4 ∨ d = s1.heap.objs.size ∨ d = s1.heap.objs.size + 1 ∨ d = s1.heap.objs.size + 2 := by simpa using hcm
          have hle : s1.heap.objs.size ≤ d := by
            rcases e' with z | z | z | z | z | z
            · rw [z]; exact Nat.le_add_right _ _
            · rw [z]; exact Nat.le_add_right _ _
            · rw [z]; exact Nat.le_add_right _ _
            · rw [z]; exact Nat.le_refl _
            · rw [z]; exact Nat.le_add_right _ _
            · rw [z]; exact Nat.le_add_right _ _
          exact I1.fpOk hle (I1.hok.fresh hle)
        obtain ⟨its, rv, p1, _⟩ := I1.tuple hqx
        obtain ⟨its2, rv2, p2, _⟩ := I1.tuple hqy
        obtain ⟨its3, rv3, p3, _⟩ := I1.tuple hqz
        obtain ⟨o1, ho1, _⟩ := id p1
        obtain ⟨o2, ho2, _⟩ := id p2
        obtain ⟨o3, ho3, _⟩ := id p3
        refine zip_begins3 (begins_tuple a its.toArray) (begins_tuple b its2.toArray) (begins_tuple c its3.toArray) p1 p2 p3 fun h' hz hTI hTO h1 h2 h3 hsz hk => wpAny_pyIter_zip hz ?_
        have I2 : Inv X pins σ H1 { s1 with heap := h' } := I1.kept (t' := s1.toks) hk
        exact ⟨s1.heap.objs.size + 5, [s1.heap.objs.size + 5, s1.heap.objs.size + 3, s1.heap.objs.size + 4, s1.heap.objs.size, s1.heap.objs.size + 1, s1.heap.objs.size + 2], _, _, H1, rfl, I2,
          turn_zipT3 (zip_sep3 (fun x hx => by rw [List.mem_singleton.mp hx]; exact Heap.lt_size ho1) (fun x hx => by rw [List.mem_singleton.mp hx]; exact Heap.lt_size ho2) (fun x hx => by rw [List.mem_singleton.mp hx]; exact Heap.lt_size ho3)), ⟨hz, hTI, ⟨_, _, _, hTO⟩, ⟨_, h1, rfl, rfl⟩, ⟨_, h2, rfl, rfl⟩, ⟨_, h3, rfl, rfl⟩⟩, fresh6, q⟩
theorem pi_zip3K {X : Cx} {e e2 e3 : Expr} {ta : TA} {p pos tpos : Pos} {elts : List Expr} {kk : Nat} (K : PySem.W.Frag) (hg : Gl X "zip") (hm : X.mg "zip" = none) (ha : PA X [e, e2, e3] ta) (hK : X.K = K := by rfl)
    (hs : starEach [e, e2, e3] X.env = (false, eval e X.env) :: starEach [e2, e3] X.env := by rfl) (hpl : (backTo pos (starEach [e2, e3] X.env)).any (·.1) = false := by rfl) :
    PI X (.Tuple elts kk tpos) (.Call (.Name "zip" p) [e, e2, e3] [] pos) (iZip3 K ta) := by
  subst hK
  exact pi_zip3 hg hm ha hs hpl
section
variable {T : Tb} {K : PySem.W.Frag} {σ : L2.St} {H : Hp} {n : Nat} {a b c : List Int}
theorem tup_at {H : Hp} {p : Addr} {ns : List Int} (h : H p = some (.tup (ns.map V.int))) : ∀ xs, SqT K H p xs → SqT K H p (ns.map V.int) := fun _ _ => SqT.of h
theorem es_zip3 {ta : TA} (ha : a.length = n) (hb : b.length = n) (hc : c.length = n) (h : Ea T ta σ H (fun H vs => ∃ u v w, vs = [u, v, w] ∧ rpT a H u ∧ rpT b H v ∧ rpT c H w)) :
    Es T (iZip3 K ta) σ H n (fun i H x => ∃ S p q r, x = .ref S ∧ H S = some (.tup [.int p, .int q, .int r]) ∧ a[i]? = some p ∧ b[i]? = some q ∧ c[i]? = some r) := fun H1 e R k =>
  h H1 e _ fun vs H2 e2 ⟨u, v, w, ev, ⟨pa, eu, h1⟩, ⟨pb, ev', h2⟩, ⟨pc, ew, h3⟩⟩ => ⟨pa, pb, pc, _, _, _, by rw [ev, eu, ev', ew], SqT.of h1, SqT.of h2, SqT.of h3, k _ H2 e2 (by
    have gt : ∀ {ns : List Int} {i : Nat}, i < ns.length → ∃ x, (ns.map V.int)[i]? = some (V.int x) ∧ ns[i]? = some x := fun {ns i} hi => ⟨ns[i], by rw [List.getElem?_map, List.getElem?_eq_getElem hi]; rfl, List.getElem?_eq_getElem hi⟩
    refine ⟨fun i H' hi g => ?_, fun H' g => ?_, fun i H' x H'' hi g y => ?_⟩
    · obtain ⟨x1, a1, _⟩ := gt (ns := a) (i := i) (by omega)
      obtain ⟨x2, a2, _⟩ := gt (ns := b) (i := i) (by omega)
      obtain ⟨x3, a3, _⟩ := gt (ns := c) (i := i) (by omega)
      exact ⟨_, _, _, _, _, _, SqT.of (g.tup h1), SqT.of (g.tup h2), SqT.of (g.tup h3), a1, a2, a3⟩
    · exact ⟨_, _, _, SqT.of (g.tup h1), SqT.of (g.tup h2), SqT.of (g.tup h3), by rw [List.length_map]; omega, by rw [List.length_map]; omega, by rw [List.length_map]; omega, .inl (by rw [List.length_map]; exact ha)⟩
    · obtain ⟨S, y1, y2, y3, ex, hS, eH, g1, g2, g3⟩ := y
      obtain ⟨x1, a1, b1⟩ := gt (ns := a) (i := i) (by omega)
      obtain ⟨x2, a2, b2⟩ := gt (ns := b) (i := i) (by omega)
      obtain ⟨x3, a3, b3⟩ := gt (ns := c) (i := i) (by omega)
      have f1 := g1 _ (SqT.of (g.tup h1))
      have f2 := g2 _ (SqT.of (g.tup h2))
      have f3 := g3 _ (SqT.of (g.tup h3))
      rw [a1] at f1
      rw [a2] at f2
      rw [a3] at f3
      cases f1
      cases f2
      cases f3
      subst eH
      exact ⟨Xt.new hS, S, x1, x2, x3, ex, upd_same, b1, b2, b3⟩)⟩
end
end K8
set_option maxHeartbeats 4000000
namespace K8
open PySem L2 PySem.Spec PyProof.Rows
theorem scLWithin : FnScope ["_law_one", "_law_other", "_law_item"] ["_law_one", "_law_other"] (defScope (topS 46)) := ⟨rfl, rfl, rfl, by decide +kernel, rfl, by decide +kernel, by decide +kernel⟩
def prAlike : List V → Hp → Rp → Prop := fun vs H R => ∃ r r' S v v' vS, vs = [v, v', vS] ∧ rpT r H v ∧ rpT r' H v' ∧ rpT S H vS ∧ Cols S r.length ∧ r'.length = r.length ∧ R = rpV (.bl (decide (pick r S = pick r' S)))
theorem scAlike : FnScope ["_law_mine", "_law_theirs", "_law_places", "_law_place"] ["_law_mine", "_law_theirs", "_law_places"] (defScope (topS 45)) := ⟨rfl, rfl, rfl, by decide +kernel, rfl, by decide +kernel, by decide +kernel⟩
def prLSets : List V → Hp → Rp → Prop := fun vs _ R => ∃ n : Nat, vs = [.int n] ∧ (1 ≤ n ∧ n ≤ 4) ∧ R = rpL rpT (setsN n)
theorem scLSets : FnScope ["_law_many", "_law_found", "_law_late", "_law_place", "_law_size", "_law_some"] ["_law_many"] (defScope (topS 44)) := ⟨rfl, rfl, rfl, by decide +kernel, rfl, by decide +kernel, by decide +kernel⟩
theorem pick_eq (r r' : List Int) : ∀ S : List Int, ((S.map fun p => decide (r.getD p.toNat 0 = r'.getD p.toNat 0)).all id) = decide (pick r S = pick r' S)
  | [] => by simp [pick]
  | p :: S => by
    have ih := pick_eq r r' S
    rw [List.map_cons, List.all_cons, ih, id]
    unfold pick
    rw [← Bool.decide_and]
    exact decide_eq_decide.mpr (by rw [List.map_cons, List.map_cons, List.cons.injEq])
section
variable {P : Program} {w : World} {K : PySem.W.Frag} {mg : Str → Option Value} {base : Heap} {T : Tb} {σ : L2.St} {H : Hp} {te ta tb tc : TE} {D : Ends} {tz : TS}
theorem ok_lwithin {f : Addr} {fd : FuncData} (F : Fun K "_law_within" "_law_within" (topS 46) f fd) (m : mg "_law_within" = some (.ref f)) (N : Nm mg) : Has P w K mg base 1 "_law_within" ["_law_one", "_law_other"] (Pm T 2 prWithin) := by
  refine Has.of F m (F.binds fun _ _ _ _ _ _ us hl => match us, hl with | [_, _], _ => rfl) (F.ok scLWithin (fun vs H Q E h => h.1) (fun cdv A outer s H vs Q E hr h => ?_))
  obtain ⟨_, R, ⟨a, b, v, w, rfl, hv, hw, hl, rfl⟩, q⟩ := h
  refine ⟨_, pss_one (ps_ret (pe_callB (cr_all rfl) (by rfl) N.all (by decide +kernel) (pa_cons (pe_lc (own := [("_law_item", 2)]) (g := gName 2) (tt := tYes) rfl scLWithin.nd (pi_tup (pv 0)) (blkOk_by (N := ["_law_one", "_law_other", "_law_item"]) (sc := defScope (topS 46)) (by decide +kernel))
    (fun _ _ _ _ _ => pg_name (i := 2) scLWithin.nd rfl (Or.inl rfl)) (fun _ _ _ _ _ => pts_nil) (fun _ _ _ _ _ => pe_cmpR (r := rIn K false) op_in_seq (pv 2) (pv 1) (by rfl))) pa_nil))), ?_⟩
  refine of_start (σ := [some v, some w, none]) rfl ?_
  have e : (a.map fun x => b.contains x).all id = within a b := by rw [List.all_map]; rfl
  rw [← e] at q
  refine s_ret (T := T) (er_all (er_lcM (F := rpN) (RB := fun b => rpV (.bl b)) (fun x => b.contains x) (es_tupT (er_var (rpT a) rfl hv)) (by omega) (fun _ => rfl) fun x y H1 hm e hx => ?_)) q
  cases (show y = V.int x from hx)
  exact er_inT (er_v rfl) (er_var (rpT b) rfl (Mn.mono e hw))
theorem ok_alike {f : Addr} {fd : FuncData} (F : Fun K "_law_alike" "_law_alike" (topS 45) f fd) (m : mg "_law_alike" = some (.ref f)) (N : Nm mg) : Has P w K mg base 1 "_law_alike" ["_law_mine", "_law_theirs", "_law_places"] (Pm T 3 prAlike) := by
  refine Has.of F m (F.binds fun _ _ _ _ _ _ us hl => match us, hl with | [_, _, _], _ => rfl) (F.ok scAlike (fun vs H Q E h => h.1) (fun cdv A outer s H vs Q E hr h => ?_))
  obtain ⟨_, R, ⟨r, r', S, v, v', vS, rfl, hv, hv', hS, hc, hl, rfl⟩, q⟩ := h
  have nd := scAlike.nd
  refine ⟨_, pss_one (ps_ret (pe_callB (cr_all rfl) (by rfl) N.all (by decide +kernel) (pa_cons (pe_lc (own := [("_law_place", 3)]) (g := gName 3) (tt := tYes) rfl nd (pi_tup (pv 2)) (blkOk_by (N := ["_law_mine", "_law_theirs", "_law_places", "_law_place"]) (sc := defScope (topS 45)) (by decide +kernel))
    (fun _ _ _ _ _ => pg_name (i := 3) nd rfl (Or.inl rfl)) (fun _ _ _ _ _ => pts_nil) (fun _ _ _ _ _ => pe_cmpR (r := rEq) op_eq (pe_ix (r := rIxT K) ix_tup (pv 0) (pv 3) (fun _ _ => rfl)) (pe_ix (r := rIxT K) ix_tup (pv 1) (pv 3) (fun _ _ => rfl)) (by rfl))) pa_nil))), ?_⟩
  refine of_start (σ := [some v, some v', some vS, none]) rfl ?_
  rw [← pick_eq] at q
  refine s_ret (T := T) (er_all (er_lcM (F := rpN) (RB := fun b => rpV (.bl b)) (fun p => decide (r.getD p.toNat 0 = r'.getD p.toNat 0)) (es_tupT (er_var (rpT S) rfl hS)) (by have := hc.2; omega) (fun _ => rfl) fun p x H1 hm e hx => ?_)) q
  cases (show x = V.int p from hx)
  have := hc.1 p hm
  exact er_eqI (er_ixT (k := p.toNat) (er_var (rpT r) rfl (Mn.mono e hv)) (er_var (rpN p) rfl rfl) (by omega) (pick_get hc rfl hm)) (er_ixT (k := p.toNat) (er_var (rpT r') rfl (Mn.mono e hv')) (er_var (rpN p) rfl rfl) (by omega) (pick_get (n := r.length) hc hl hm))
theorem evy_succ (n : Nat) : evy (n + 1) = evy n ++ [(n : Int)] := by
  unfold evy
  rw [List.range_succ, List.map_append]
  rfl
theorem ok_lsets {f : Addr} {fd : FuncData} (F : Fun K "_law_sets" "_law_sets" (topS 44) f fd) (m : mg "_law_sets" = some (.ref f)) (N : Nm mg) : Has P w K mg base 1 "_law_sets" ["_law_many"] (Pm T 1 prLSets) := by
  refine Has.of F m (F.binds fun _ _ _ _ _ _ us hl => match us, hl with | [_], _ => rfl) (F.ok scLSets (fun vs H Q E h => h.1) (fun cdv A outer s H vs Q E hr h => ?_))
  obtain ⟨_, R, ⟨n, rfl, ⟨n1, n4⟩, rfl⟩, q⟩ := h
  have nd := scLSets.nd
  refine ⟨_, pss_cons (ps_par (i := 1) (j := 2) (by rfl) nd rfl rfl (by decide) rfl rfl (pa_cons (pe_lst (pa_cons (pe_tup pa_nil) pa_nil)) (pa_cons (pe_lst pa_nil) pa_nil)) (by rfl))
    (pss_cons (ps_for PassesOwn.never rfl (pi_range1 (by rfl) N.range (pa_cons (pv 0) pa_nil)) (pg_name (i := 3) nd rfl (Or.inr rfl))
      (pss_one (ps_set (i := 1) nd rfl (Or.inl rfl) (pe_op op_cat (pv 1) (pe_lc (own := [("_law_some", 5)]) (g := gName 5) (tt := tYes) rfl nd (pi_list (pv 1)) (blkOk_by (N := ["_law_many", "_law_found", "_law_late", "_law_place", "_law_size", "_law_some"]) (sc := defScope (topS 44)) (by decide +kernel))
        (fun _ _ _ _ _ => pg_name (i := 5) nd rfl (Or.inl rfl)) (fun _ _ _ _ _ => pts_nil) (fun _ _ _ _ _ => pe_op (r := rCatA K) op_catA (pv 5) (pe_tup (pa_cons (pv 3) pa_nil))))))))
    (pss_cons (ps_for PassesOwn.never rfl (pi_range1 (by rfl) N.range (pa_cons (pe_op op_add (pv 0) pe_int) pa_nil)) (pg_name (i := 4) nd rfl (Or.inr rfl))
      (pss_one (ps_set (i := 2) nd rfl (Or.inl rfl) (pe_op op_cat (pv 2) (pe_lc (own := [("_law_some", 5)]) (g := gName 5) rfl nd (pi_list (pe_callB (r := rSortT) (cr_sortT hr) (by rfl) N.sorted (by decide +kernel) (pa_cons (pv 1) pa_nil))) (blkOk_by (N := ["_law_many", "_law_found", "_law_late", "_law_place", "_law_size", "_law_some"]) (sc := defScope (topS 44)) (by decide +kernel))
        (fun _ _ _ _ _ => pg_name (i := 5) nd rfl (Or.inl rfl)) (fun _ _ _ _ _ => pts_one (pt_cmpR (r := rEq) op_eq (pe_callB (r := rLn K) call_len_seq (by rfl) N.len (by decide +kernel) (pa_cons (pv 5) pa_nil)) (pv 4) (nomark _))) (fun _ _ _ _ _ => pv 5))))))
    (pss_one (ps_ret (pv 2))))), ?_⟩
  refine of_start (σ := [some (.int n), none, none, none, none, none]) rfl ?_
  refine q_par (T := T) (ea_2 (RA := rpL rpT (setsRaw [])) (RB := rpL rpT []) (er_lst (ea_1 (R := rpT []) (er_tupI (ns := []) ea_nil (by show 0 ≤ 100000; decide))) (fun _ vs ⟨x, e, _⟩ => by rw [e]; show 1 ≤ 100000; decide) fun H1 vs p _ ⟨x, e, hx⟩ hp => ?_) er_nil) fun vs H1 e1 ⟨x, y, ev, hx, hy⟩ => ⟨x, y, ev, ?_⟩
  · subst e
    exact ⟨p, [x], rfl, upd_same, .cons (Mn.mono (T := T) (Xt.new hp) hx) .nil⟩
  refine q_forE (T := T) (es_rng1 (n := n) (by omega) ((ea_1 (R := rpN (n : Int)) (er_v rfl)).imp fun H2 vs _ ⟨a, e1, e2⟩ => by rw [e1, show a = V.int _ from e2])) (fun i σ' H' => ∃ x z, σ' = [some (.int n), some x, some y, z, none, none] ∧ rpL rpT (setsRaw (evy i)) H' x ∧ rpL rpT [] H' y)
    (fun H2 e2 => ⟨x, none, rfl, Mn.mono e2 hx, Mn.mono e2 hy⟩) (fun H3 e3 i y1 σ1 Ha Hb hi ea I eb hy1 => ?_) (fun σ' H' e3 I => ?_)
  · obtain ⟨x, z, rfl, hx, hy⟩ := I
    cases (show y1 = V.int (i : Int) from hy1)
    have hx := Mn.mono eb hx
    obtain ⟨h1, h2⟩ := setsRaw_len i (evy i) (evy_len i)
    have h3 : 2 ^ i ≤ 2 ^ 4 := Nat.pow_le_pow_right (by decide) (by omega)
    refine s_asg (T := T) (R := rpL rpT (setsRaw (evy (i + 1)))) ?_ fun u H4 e4 hu => ⟨(ea.trans eb).trans e4, u, _, rfl, hu, Mn.mono (eb.trans e4) hy⟩
    rw [evy_succ, setsRaw_snoc]
    refine er_cat (F := rpT) (er_var (rpL rpT (setsRaw (evy i))) rfl hx) (er_lcM (F := rpT) (RB := rpT) (fun s => s ++ [(i : Int)]) (es_list (er_var (rpL rpT (setsRaw (evy i))) rfl hx)) (by omega) (fun _ => rfl) fun s u H4 hm e4 hu => ?_) (by rw [List.length_map]; omega)
    exact er_catT (er_var (rpT s) rfl hu) (er_one rfl) (by have := h2 s hm; show _ + 1 ≤ 100000; omega)
  obtain ⟨x, z, rfl, hx, hy⟩ := I
  have e13 := e1.trans e3
  obtain ⟨h1, h2⟩ := setsRaw_len n (evy n) (evy_len n)
  have h3 : 2 ^ n ≤ 2 ^ 4 := Nat.pow_le_pow_right (by decide) n4
  refine q_forE (T := T) (es_rng1 (n := n + 1) (by omega) ((ea_1 (R := rpN ((n + 1 : Nat) : Int)) (er_N0 (g := fun i j => .int (i + j)) (i := (n : Int)) (j := 1) (er_v rfl) er_c)).imp fun H2 vs _ ⟨a, e1, e2⟩ => by rw [e1, show a = V.int _ from e2]))
    (fun i σ' H' => ∃ y z2, σ' = [some (.int n), some x, some y, z, z2, none] ∧ rpL rpT (setsRaw (evy n)) H' x ∧ rpL rpT ((List.range i).flatMap fun k => (sortL (setsRaw (evy n))).filter fun s => decide (s.length = k)) H' y)
    (fun H2 e2 => ⟨y, none, rfl, Mn.mono e2 hx, Mn.mono e2 hy⟩) (fun H4 e4 i y1 σ1 Ha Hb hi ea I eb hy1 => ?_) (fun σ' H'' e4 I => ?_)
  · obtain ⟨y, z2, rfl, hx, hy⟩ := I
    cases (show y1 = V.int (i : Int) from hy1)
    have hx := Mn.mono eb hx
    have hy := Mn.mono eb hy
    have hsl : (sortL (setsRaw (evy n))).length ≤ 16 := by rw [(sortL_perm _).length_eq, h1]; exact h3
    have hfl : ∀ k, ((List.range k).flatMap fun k => (sortL (setsRaw (evy n))).filter fun s => decide (s.length = k)).length ≤ k * 16 := fun k => by
      induction k with
      | zero => exact Nat.le_refl _
      | succ k ih =>
        rw [List.range_succ, List.flatMap_append, List.length_append, List.flatMap_singleton]
        have := List.length_filter_le (fun s : List Int => decide (s.length = k)) (sortL (setsRaw (evy n)))
        omega
    refine s_asg (T := T) (R := rpL rpT ((List.range (i + 1)).flatMap fun k => (sortL (setsRaw (evy n))).filter fun s => decide (s.length = k))) ?_ fun u H5 e5 hu => ⟨(ea.trans eb).trans e5, u, _, rfl, Mn.mono e5 hx, hu⟩
    rw [List.range_succ, List.flatMap_append, List.flatMap_singleton]
    refine er_cat (F := rpT) (er_var _ rfl hy) ((er_lcF (F := rpT) (RB := rpT) (fun s => decide ((s.length : Int) = (i : Int))) id (es_list (er_sortT (er_var (rpL rpT (setsRaw (evy n))) rfl hx))) (by omega) (fun _ => rfl) fun s u H5 hm e5 hu => ⟨et_test (er_b (er_eqI (er_lenT (er_var (rpT s) rfl hu)) (er_v rfl))), fun _ => er_var (rpT s) rfl hu⟩).imp fun H5 u _ hu => ?_) (by have := hfl i; have h5 := List.length_filter_le (fun s : List Int => decide (s.length = i)) (sortL (setsRaw (evy n))); omega)
    rw [List.map_id] at hu
    have e6 : (fun s : List Int => decide ((s.length : Int) = (i : Int))) = fun s => decide (s.length = i) := funext fun s => decide_eq_decide.mpr (by omega)
    rw [e6] at hu
    exact hu
  · obtain ⟨y, z2, rfl, hx, hy⟩ := I
    have e5 : ((List.range (n + 1)).flatMap fun k => (sortL (setsRaw (evy n))).filter fun s => decide (s.length = k)) = setsN n := lawSets_eq n1 n4
    rw [e5] at hy
    exact s_ret (T := T) (er_var (rpL rpT (setsN n)) rfl hy) fun u H5 e6 hu => q u H5 ((e13.trans e4).trans e6) hu
end
end K8
set_option maxHeartbeats 4000000
namespace K8
open PySem L2 PySem.Spec PyProof.Rows
def prLTold : List V → Hp → Rp → Prop := fun vs H R => ∃ v vS vU rows n S U, vs = [v, vS, vU] ∧ rpL rpT rows H v ∧ (∀ r ∈ rows, r.length = n) ∧ rows.length ≤ 1000 ∧ rpT S H vS ∧ rpT U H vU ∧ Cols S n ∧ Cols U n ∧ R = rpV (.bl (told rows S U))
theorem scLTold : FnScope ["_law_rows_here", "_law_places", "_law_others", "_law_known", "_law_row", "_law_mine", "_law_theirs", "_law_place"] ["_law_rows_here", "_law_places", "_law_others"] (defScope (topS 43)) := ⟨rfl, rfl, rfl, by decide +kernel, rfl, by decide +kernel, by decide +kernel⟩
theorem look_app {β : Type} {l : List (List Int × β)} {k k' : List Int} {v : β} (h : look l k = none) : look (l ++ [(k, v)]) k' = if k' = k then some v else look l k' := by
  unfold look at *
  rw [List.find?_append]
  by_cases e : k' = k
  · subst e
    rw [if_pos rfl]
    have h2 : l.find? (fun p => decide (p.1 = k')) = none := Option.map_eq_none_iff.mp h
    rw [h2]
    simp
  · rw [if_neg e]
    have h2 : [(k, v)].find? (fun p => decide (p.1 = k')) = none := by simp [Ne.symm e]
    rw [h2]
    simp
theorem putD_none {β : Type} {l : List (List Int × β)} {k : List Int} {v : β} (h : look l k = none) : putD l k v = l ++ [(k, v)] := by
  unfold putD
  rw [if_neg]
  intro e
  obtain ⟨p, hp, e2⟩ := List.any_eq_true.mp e
  unfold look at h
  have := List.find?_eq_none.mp (Option.map_eq_none_iff.mp h) p hp
  exact this e2
/-- what is known of the first rows -/
structure Known (rows : List (List Int)) (S U : List Int) (i : Nat) (prs : List (List Int × List Int)) : Prop where
  all : ∀ r ∈ rows.take i, look prs (pick r S) = some (pick r U)
  sub : ∀ k u, look prs k = some u → ∃ r ∈ rows.take i, pick r S = k ∧ pick r U = u
  len : prs.length ≤ i
section
variable {P : Program} {w : World} {K : PySem.W.Frag} {mg : Str → Option Value} {base : Heap} {T : Tb} {σ : L2.St} {H : Hp} {te ta tb tc : TE} {D : Ends} {tu tw tz : TS}
theorem s_setdef {i j l : Nat} {p : Addr} {kvs : List (List Key × V)} {prs : List (List Int × List Int)} {k u : List Int} {x5 x6 : V} (h3 : σ[i]? = some (some (.ref p))) (hp : H p = some (.dT kvs)) (hz : kvs.length < 100000) (hpd : PD rpT H kvs prs) (h5 : σ[j]? = some (some x5)) (h6 : σ[l]? = some (some x6)) (r5 : rpT k H x5) (r6 : rpT u H x6)
    (q1 : ∀ u0, look prs k = some u0 → u0 ≠ u → tu D σ H) (q2 : look prs k = some u → tw D σ H) (q3 : look prs k = none → tw D σ (upd H p (.dT (putK kvs (kI k) x6)))) :
    tIfS (tTest (tOp (rNeD K) (tBM K "dict" rSetdef (tVar i) (tCons (tVar j) (tCons (tVar l) tNil))) (tVar l))) tu tw D σ H := by
  obtain ⟨c, e5, hc⟩ := id r5
  refine ⟨.ref p, h3, .inr (.inr (.inl ⟨rfl, .inr ⟨kvs, hp⟩⟩)), x5, h5, x6, h6, p, kvs, kI k, c, x6, rfl, by rw [e5], hp, by rw [kI_V]; exact hc, Nat.lt_of_lt_of_le hz (by decide), fun v hv => ?_, fun hn => ?_⟩
  · cases hl : look prs k with
    | none =>
      rw [(pd_look hpd k).2 hl] at hv
      cases hv
    | some u0 =>
      obtain ⟨v', e1, hv'⟩ := (pd_look hpd k).1 u0 hl
      rw [e1] at hv
      cases hv
      refine ⟨x6, h6, dT u0, dT u, dpT hv', dpT r6, shT u0, shT u, _, rfl, ?_⟩
      rw [eqvT]
      by_cases e : u0 = u
      · subst e
        exact iteF' (by simp) (q2 hl)
      · exact iteT' (by simp [e]) (q1 u0 hl e)
  · have hl : look prs k = none := by
      cases hl : look prs k with
      | none => rfl
      | some u0 =>
        obtain ⟨v', e1, hv'⟩ := (pd_look hpd k).1 u0 hl
        rw [hn] at e1
        cases e1
    have r6' : rpT u (upd H p (.dT (putK kvs (kI k) x6))) x6 := Ft.flat r6 hp (fun _ z => by cases z)
    refine ⟨x6, h6, dT u, dT u, dpT r6', dpT r6', shT u, shT u, _, rfl, ?_⟩
    rw [eqvT]
    exact iteF' (by simp) (q3 hl)
where
  iteT' {b : Bool} {A B : Prop} (h : b = true) (a : A) : if b = true then A else B := by rw [if_pos h]; exact a
  iteF' {b : Bool} {A B : Prop} (h : b = false) (a : B) : if b = true then A else B := by rw [if_neg (by rw [h]; decide)]; exact a
theorem ok_ltold {f : Addr} {fd : FuncData} (F : Fun K "_law_told" "_law_told" (topS 43) f fd) (m : mg "_law_told" = some (.ref f)) (N : Nm mg) : Has P w K mg base 1 "_law_told" ["_law_rows_here", "_law_places", "_law_others"] (Pm T 3 prLTold) := by
  refine Has.of F m (F.binds fun _ _ _ _ _ _ us hl => match us, hl with | [_, _, _], _ => rfl) (F.ok scLTold (fun vs H Q E h => h.1) (fun cdv A outer s H vs Q E hr h => ?_))
  obtain ⟨_, R, ⟨v, vS, vU, rows, n, S, U, rfl, hv, hln, hlr, hS, hU, cS, cU, rfl⟩, q⟩ := h
  have nd := scLTold.nd
  refine ⟨_, pss_cons (ps_set (i := 3) nd rfl (Or.inl rfl) pe_dnewT)
    (pss_cons (ps_for PassesOwn.never rfl (pi_list (pv 0)) (pg_name (i := 4) nd rfl (Or.inr rfl))
      (pss_cons (ps_par (i := 5) (j := 6) (by rfl) nd rfl rfl (by decide) rfl rfl (pa_cons (pe_callTy (r := rTup K) call_tuple_of (by rfl) N.tuple (by decide +kernel) (pa_cons (pe_lc (own := [("_law_place", 7)]) (g := gName 7) (tt := tYes) rfl nd (pi_tup (pv 1)) (blkOk_by (N := ["_law_rows_here", "_law_places", "_law_others", "_law_known", "_law_row", "_law_mine", "_law_theirs", "_law_place"]) (sc := defScope (topS 43)) (by decide +kernel))
          (fun _ _ _ _ _ => pg_name (i := 7) nd rfl (Or.inl rfl)) (fun _ _ _ _ _ => pts_nil) (fun _ _ _ _ _ => pe_ix (r := rIxT K) ix_tup (pv 4) (pv 7) (fun _ _ => rfl))) pa_nil))
        (pa_cons (pe_callTy (r := rTup K) call_tuple_of (by rfl) N.tuple (by decide +kernel) (pa_cons (pe_lc (own := [("_law_place", 7)]) (g := gName 7) (tt := tYes) rfl nd (pi_tup (pv 2)) (blkOk_by (N := ["_law_rows_here", "_law_places", "_law_others", "_law_known", "_law_row", "_law_mine", "_law_theirs", "_law_place"]) (sc := defScope (topS 43)) (by decide +kernel))
          (fun _ _ _ _ _ => pg_name (i := 7) nd rfl (Or.inl rfl)) (fun _ _ _ _ _ => pts_nil) (fun _ _ _ _ _ => pe_ix (r := rIxT K) ix_tup (pv 4) (pv 7) (fun _ _ => rfl))) pa_nil)) pa_nil)) (by rfl))
      (pss_one (ps_if (pt_cmpR (r := rNeD K) (op_neD hr.units) (pe_bm PySem.F.plainAttrs_dict PySem.F.slot_dict_setdefault PySem.F.type_dict_setdefault (mt_setdef (u1 hr)) (pv 3) (pa_cons (pv 5) (pa_cons (pv 6) pa_nil))) (pv 6) (nomark _)) (pss_one (ps_ret pe_bl)) pss_nil))))
    (pss_one (ps_ret pe_bl))), ?_⟩
  refine of_start (σ := [some v, some vS, some vU, none, none, none, none, none]) rfl ?_
  refine q_newD fun p hp => ?_
  have ex0 : Xt T H (upd H p (.dT [])) := Xt.new hp
  refine q_forL (T := T) (F := rpT) (l := rows) (er_var (rpL rpT rows) rfl (Mn.mono ex0 hv)) fun a ys H1 e1 ha hpr => ?_
  have e01 := ex0.trans e1
  refine ⟨fun i σ' H' => (∃ z1 z2 z3, σ' = [some v, some vS, some vU, some (.ref p), z1, z2, z3, none]) ∧ Xt T H H' ∧ H' a = some (.lst ys) ∧ Paired (fun y x => rpT x H' y) ys rows ∧ ∃ kvs prs, H' p = some (.dT kvs) ∧ PD rpT H' kvs prs ∧ Known rows S U i prs,
    ⟨⟨none, none, none, rfl⟩, e01, ha, hpr, [], [], e1.dT upd_same, .nil, ⟨fun r hr => (by simp at hr), fun k u hk => (by simp [look] at hk), Nat.le_refl _⟩⟩, fun i σ' H' I => I.2.2.1, fun i y r σ1 Ha hy hr1 _ I => ?_, fun σ' H' I => ?_⟩
  · obtain ⟨⟨z1, z2, z3, rfl⟩, eX, haA, hprA, kvs, prs, hpA, hpd, kn⟩ := I
    have hrm := List.mem_of_getElem? hr1
    have hyr : rpT r Ha y := by
      obtain ⟨x', h1, h2⟩ := pget hprA hy
      rw [hr1] at h1
      cases h1
      exact h2
    have hi : i < rows.length := (List.getElem?_eq_some_iff.mp hr1).1
    have pk : ∀ {L : List Int} {k : Nat} {vL : V}, Cols L n → rpT L H vL → ([some v, some vS, some vU, some (.ref p), some y, z2, z3, none] : L2.St)[k]? = some (some vL) → (∀ x, wipe ((wipe ([some v, some vS, some vU, some (.ref p), some y, z2, z3, none] : L2.St) [7]).set 7 (some x)) [7] = wipe [some v, some vS, some vU, some (.ref p), some y, z2, z3, none] [7]) →
        (∀ x, ((wipe ([some v, some vS, some vU, some (.ref p), some y, z2, z3, none] : L2.St) [7]).set 7 (some x))[4]? = some (some y)) → (∀ x, ((wipe ([some v, some vS, some vU, some (.ref p), some y, z2, z3, none] : L2.St) [7]).set 7 (some x))[7]? = some (some x)) →
        Er T (tCB (rTup K) (tCons (tLc (iTup K (tVar k)) (gName 7) tYes (tOp (rIxT K) (tVar 4) (tVar 7)) [7]) tNil)) [some v, some vS, some vU, some (.ref p), some y, z2, z3, none] Ha (rpT (pick r L)) := fun hc hL h4 hw h5 h7 =>
      er_tupN (er_lcM (F := rpN) (RB := rpN) (fun p => r.getD p.toNat 0) (es_tupT (er_var _ h4 (Mn.mono eX hL))) (by have := hc.2; omega) hw fun q x H2 hm e2 hx => by
        cases (show x = V.int q from hx)
        exact er_ixT (k := q.toNat) (er_var (rpT r) (h5 _) (Mn.mono e2 hyr)) (er_var (rpN q) (h7 _) rfl) (by have := hc.1 q hm; omega) (pick_get hc (hln r hrm) hm))
    refine q_par (T := T) (ea_2 (pk cS hS rfl (fun _ => rfl) (fun _ => rfl) (fun _ => rfl)) (pk cU hU rfl (fun _ => rfl) (fun _ => rfl) (fun _ => rfl))) fun vs H2 e2 ⟨x5, x6, ev, r5, r6⟩ => ⟨x5, x6, ev, ?_⟩
    have hp2 := e2.dT hpA
    have hpd2 : PD rpT H2 kvs prs := pimp hpd fun _ _ z => ⟨z.1, Mn.mono e2 z.2⟩
    have htk := take_next hr1
    refine s_setdef (i := 3) (j := 5) (l := 6) (k := pick r S) (u := pick r U) (prs := prs) rfl hp2 (by rw [plen hpd]; have := kn.len; omega) hpd2 rfl rfl r5 r6 (fun u0 hl hne => ?_) (fun hl => ?_) (fun hl => ?_)
    · refine s_ret (T := T) er_c fun u H3 e3 hu => q u H3 ((eX.trans e2).trans e3) ?_
      have ht : told rows S U = false := by
        obtain ⟨r0, h1, h2, h3⟩ := kn.sub _ _ hl
        refine decide_eq_false fun hP => hne ?_
        rw [← h3]
        exact hP r0 (List.mem_of_mem_take h1) r hrm h2
      rw [ht]
      exact hu
    · refine ⟨⟨_, _, _, rfl⟩, eX.trans e2, e2.lst haA, pmono e2 hprA, kvs, prs, hp2, hpd2, fun r' hr' => ?_, fun k u hk => ?_, Nat.le_succ_of_le kn.len⟩
      · rw [htk] at hr'
        rcases List.mem_append.mp hr' with h | h
        · exact kn.all r' h
        · rw [List.mem_singleton.mp h]
          exact hl
      · obtain ⟨r0, h1, h2⟩ := kn.sub k u hk
        exact ⟨r0, by rw [htk]; exact List.mem_append_left _ h1, h2⟩
    · refine ⟨⟨_, _, _, rfl⟩, (eX.trans e2).mut hp hp2 True.intro, by rw [upd_ne (ne_of (e2.lst haA) hp2 fun z => nomatch z)]; exact e2.lst haA, pflatD hp2 (pmono e2 hprA), _, putD prs (pick r S) (pick r U), upd_same,
        pd_put (R := rpT) (pimp hpd2 fun _ _ z => ⟨z.1, Ft.flat z.2 hp2 (fun _ e => by cases e)⟩) (Ft.flat r6 hp2 fun _ z => by cases z), fun r' hr' => ?_, fun k u hk => ?_, ?_⟩
      · rw [putD_none hl, look_app hl]
        rw [htk] at hr'
        rcases List.mem_append.mp hr' with h | h
        · have h2 := kn.all r' h
          rw [if_neg (fun z => by rw [z, hl] at h2; cases h2)]
          exact h2
        · rw [List.mem_singleton.mp h, if_pos rfl]
      · rw [putD_none hl, look_app hl] at hk
        by_cases ek : k = pick r S
        · rw [if_pos ek] at hk
          cases hk
          exact ⟨r, by rw [htk]; exact List.mem_append_right _ (List.mem_singleton.mpr rfl), ek.symm, rfl⟩
        · rw [if_neg ek] at hk
          obtain ⟨r0, h1, h2⟩ := kn.sub k u hk
          exact ⟨r0, by rw [htk]; exact List.mem_append_left _ h1, h2⟩
      · have := putD_len prs (pick r S) (pick r U)
        have := kn.len
        omega
  · obtain ⟨⟨z1, z2, z3, rfl⟩, eX, haA, hprA, kvs, prs, hpA, hpd, kn⟩ := I
    refine s_ret (T := T) er_c fun u H3 e3 hu => q u H3 (eX.trans e3) ?_
    have ht : told rows S U = true := by
      refine decide_eq_true fun r hr r' hr' e => ?_
      have h1 := kn.all r (by rw [List.take_length]; exact hr)
      have h2 := kn.all r' (by rw [List.take_length]; exact hr')
      rw [e, h2] at h1
      exact (Option.some.inj h1).symm
    rw [ht]
    exact hu
end
end K8
set_option maxHeartbeats 4000000
namespace K8
open PySem L2 PySem.Spec PyProof.Rows
def lawStep (rows : List (List Int)) (n : Nat) (found : List (List Int)) (s : List Int) : List (List Int) := if (!((found.map fun k => within k s).any id) && good rows n s) = true then found ++ [s] else found
def lawKeys (rows : List (List Int)) (n : Nat) : List (List Int) := (setsN n).foldl (lawStep rows n) []
def prLKeys : List V → Hp → Rp → Prop := fun vs H R => ∃ v rows n, vs = [v] ∧ rpL rpT rows H v ∧ Good rows n ∧ R = rpL rpT (lawKeys rows n)
theorem scLKeys : FnScope ["_law_rows_here", "_law_every", "_law_found", "_law_some", "_law_one"] ["_law_rows_here"] (defScope (topS 47)) := ⟨rfl, rfl, rfl, by decide +kernel, rfl, by decide +kernel, by decide +kernel⟩
theorem lawStep_len (rows : List (List Int)) (n : Nat) (f : List (List Int)) (s : List Int) : (lawStep rows n f s).length ≤ f.length + 1 := by
  unfold lawStep
  split
  · rw [List.length_append]; exact Nat.le_refl _
  · omega
theorem lawStep_yes {rows : List (List Int)} {n : Nat} {f : List (List Int)} {s : List Int} (h : (!((f.map fun k => within k s).any id) && good rows n s) = true) : lawStep rows n f s = f ++ [s] := if_pos h
theorem lawStep_no {rows : List (List Int)} {n : Nat} {f : List (List Int)} {s : List Int} (h : (!((f.map fun k => within k s).any id) && good rows n s) = false) : lawStep rows n f s = f := if_neg (by rw [h]; decide)
theorem foldl_snoc {α β : Type} (f : β → α → β) (b : β) (l : List α) (x : α) : (l ++ [x]).foldl f b = f (l.foldl f b) x := by rw [List.foldl_append]; rfl
theorem law_mem (rows : List (List Int)) (n : Nat) : ∀ i, ∀ s ∈ ((setsN n).take i).foldl (lawStep rows n) [], s ∈ (setsN n).take i := by
  intro i
  induction i with
  | zero => intro s hs; simp at hs
  | succ i ih =>
    intro s hs
    cases hx : (setsN n)[i]? with
    | none =>
      have : (setsN n).length ≤ i := List.getElem?_eq_none_iff.mp hx
      rw [List.take_of_length_le (by omega)] at hs ⊢
      rw [List.take_of_length_le this] at ih
      exact ih s hs
    | some x =>
      rw [take_next hx, foldl_snoc] at hs
      rw [take_next hx]
      unfold lawStep at hs
      split at hs
      · rcases List.mem_append.mp hs with h | h
        · exact List.mem_append_left _ (ih s h)
        · exact List.mem_append_right _ h
      · exact List.mem_append_left _ (ih s hs)
section
variable {P : Program} {w : World} {K : PySem.W.Frag} {mg : Str → Option Value} {base : Heap} {T : Tb} {σ : L2.St} {H : Hp} {te ta tb tc : TE} {D : Ends} {tu tw tz : TS}
theorem er_lsets {n : Nat} (h : Er T te σ H (rpN (n : Int))) (h1 : 1 ≤ n ∧ n ≤ 4) : Er T (tCall (Pm T 1 prLSets) [] E0 (tCons te tNil)) σ H (rpL rpT (setsN n)) :=
  er_call (ea_1 h) fun H1 vs _ ⟨v, e1, e2⟩ => ⟨by rw [e1]; rfl, n, by rw [e1, show v = V.int n from e2], h1, rfl⟩
theorem er_lwithin {a b : List Int} (ha : Er T ta σ H (rpT a)) (hb : Er T tb σ H (rpT b)) (hl : a.length ≤ 100) : Er T (tCall (Pm T 2 prWithin) [] E0 (tCons ta (tCons tb tNil))) σ H (rpV (.bl (within a b))) :=
  er_call (ea_2 ha hb) fun H3 vs _ ⟨a', b', e3, e4, e5⟩ => ⟨by rw [e3]; rfl, _, _, a', b', e3, e4, e5, hl, rfl⟩
theorem er_ltold {rows : List (List Int)} {n : Nat} {S U : List Int} (h : Er T ta σ H (rpL rpT rows)) (hS : Er T tb σ H (rpT S)) (hU : Er T tc σ H (rpT U)) (hl : ∀ r ∈ rows, r.length = n) (hz : rows.length ≤ 1000) (cS : Cols S n) (cU : Cols U n) : Er T (tCall (Pm T 3 prLTold) [] E0 (tCons ta (tCons tb (tCons tc tNil)))) σ H (rpV (.bl (told rows S U))) :=
  er_call (ea_3 h hS hU) fun H1 vs _ ⟨a, b, c, e1, e2, e3, e4⟩ => ⟨by rw [e1]; rfl, a, b, c, rows, n, S, U, e1, e2, hl, hz, e3, e4, cS, cU, rfl⟩
/-- len(rows[0]) -/
theorem er_len0 {rows : List (List Int)} {n : Nat} (G : Good rows n) (h : Er T te σ H (rpL rpT rows)) : Er T (tCB (rLn K) (tCons (tOp (rIxL K) te (tC (.int 0))) tNil)) σ H (rpN (n : Int)) := by
  obtain ⟨r0, rs, e0⟩ : ∃ r0 rs, rows = r0 :: rs := by
    cases rows with
    | nil => exact absurd G.some (by decide)
    | cons r0 rs => exact ⟨r0, rs, rfl⟩
  have l0 : r0.length = n := G.len r0 (by rw [e0]; exact List.mem_cons_self)
  rw [← l0]
  exact er_lenT (er_ixL (F := rpT) (e := r0) (k := 0) h er_c rfl (by rw [e0]; rfl))
theorem ok_lkeys {f : Addr} {fd : FuncData} (F : Fun K "_law_keys" "_law_keys" (topS 47) f fd) (m : mg "_law_keys" = some (.ref f)) (N : Nm mg) (GS : Has P w K mg base 1 "_law_sets" ["_law_many"] (Pm T 1 prLSets)) (GW : Has P w K mg base 1 "_law_within" ["_law_one", "_law_other"] (Pm T 2 prWithin))
    (GT : Has P w K mg base 1 "_law_told" ["_law_rows_here", "_law_places", "_law_others"] (Pm T 3 prLTold)) : Has P w K mg base 2 "_law_keys" ["_law_rows_here"] (Pm T 1 prLKeys) := by
  refine Has.of F m (F.binds fun _ _ _ _ _ _ us hl => match us, hl with | [_], _ => rfl) (F.ok scLKeys (fun vs H Q E h => h.1) (fun cdv A outer s H vs Q E hr h => ?_))
  obtain ⟨_, R, ⟨v, rows, n, rfl, hv, G, rfl⟩, q⟩ := h
  obtain ⟨f1, fd1, G1, m1, k1, b1⟩ := GS
  obtain ⟨f2, fd2, G2, m2, k2, b2⟩ := GW
  obtain ⟨f3, fd3, G3, m3, k3, b3⟩ := GT
  have nd := scLKeys.nd
  refine ⟨_, pss_cons (ps_par (i := 1) (j := 2) (by rfl) nd rfl rfl (by decide) rfl rfl (pa_cons (pe_tupRg rfl rfl N.tuple (prg_1 rfl N.range (pe_callB (r := rLn K) call_len_seq (by rfl) N.len (by decide +kernel) (pa_cons (pe_ix (r := rIxL K) ix_list (pv 0) pe_int (fun _ _ => rfl)) pa_nil)))) (pa_cons (pe_lst pa_nil) pa_nil)) (by rfl))
    (pss_cons (ps_for PassesOwn.never rfl (pi_list (pe_call G1 (hr.mono (by decide)) (by rfl) m1 k1 b1 .nil pass0 (pa_cons (pe_callB (r := rLn K) call_len_seq (by rfl) N.len (by decide +kernel) (pa_cons (pv 1) pa_nil)) pa_nil))) (pg_name (i := 3) nd rfl (Or.inr rfl))
      (pss_one (ps_if (PW.pt (pw_and (pt_not (pt_val (pe_callB (r := rAny K) (cr_any rfl) (by rfl) N.any (by decide +kernel) (pa_cons (pe_lc (own := [("_law_one", 4)]) (g := gName 4) (tt := tYes) rfl nd (pi_list (pv 2)) (blkOk_by (N := ["_law_rows_here", "_law_every", "_law_found", "_law_some", "_law_one"]) (sc := defScope (topS 47)) (by decide +kernel))
          (fun _ _ _ _ _ => pg_name (i := 4) nd rfl (Or.inl rfl)) (fun _ _ _ _ _ => pts_nil) (fun _ _ _ _ _ => pe_call G2 hr (by rfl) m2 k2 b2 .nil pass0 (pa_cons (pv 4) (pa_cons (pv 3) pa_nil)))) pa_nil))))
        (pw_and1 (pt_val (pe_call G3 hr (by rfl) m3 k3 b3 .nil pass0 (pa_cons (pv 0) (pa_cons (pv 3) (pa_cons (pv 1) pa_nil))))))))
        (pss_one (ps_expr (pe_bm PySem.F.plainAttrs_list PySem.F.slot_list_append PySem.F.type_list_append mt_append (pv 2) (pa_cons (pv 3) pa_nil)))) pss_nil)))
    (pss_one (ps_ret (pv 2)))), ?_⟩
  refine of_start (σ := [some v, none, none, none, none]) rfl ?_
  have n4 := G.w4
  have n1 := G.w1
  have h10 := G.few
  refine q_par (T := T) (ea_2 (er_tupRg (n := n) (er_len0 G (er_var (rpL rpT rows) rfl hv)) (by omega)) er_newX) fun vs H1 e1 ⟨ve, vg, ev, he, g, eg, hg, ng⟩ => ⟨ve, vg, ev, ?_⟩
  subst eg
  refine q_forL (T := T) (F := rpT) (l := setsN n) (er_lsets ((er_lenT (er_var (rpT (evy n)) rfl he)).imp fun H2 u _ hu => by rw [evy_len] at hu; exact hu) ⟨n1, n4⟩) fun a ys H2 e2 ha hpr => ?_
  have hg2 := e2.lst hg
  have nag : a ≠ g := fun z => by
    rw [z, hg2] at ha
    have e5 : [] = ys := by injection Option.some.inj ha
    have e6 := plen hpr
    rw [← e5] at e6
    have h7 : [] ∈ setsN n := setsN_mem.mpr ⟨by decide, fun x hx => by simp at hx⟩
    rw [List.length_eq_zero_iff.mp e6.symm] at h7
    cases h7
  have l16 := setsN_len n
  refine ⟨fun i σ' H' => (∃ z1, σ' = [some v, some ve, some (.ref g), z1, none]) ∧ Xt T H H' ∧ H' a = some (.lst ys) ∧ Paired (fun y x => rpT x H' y) ys (setsN n) ∧ rpT (evy n) H' ve ∧ (∃ gs, H' g = some (.lst gs) ∧ Paired (fun y x => rpT x H' y) gs (((setsN n).take i).foldl (lawStep rows n) []) ∧ gs.length ≤ i),
    ⟨⟨none, rfl⟩, e1.trans e2, ha, hpr, Mn.mono e2 he, [], hg2, .nil, Nat.le_refl _⟩, fun i σ' H' I => I.2.2.1, fun i y s σ1 Ha hy hs _ I => ?_, fun σ' H' I => ?_⟩
  · obtain ⟨⟨z1, rfl⟩, eX, haA, hprA, heA, gs, hgA, hgs, lgs⟩ := I
    have hsm := List.mem_of_getElem? hs
    have hi : i < (setsN n).length := (List.getElem?_eq_some_iff.mp hs).1
    have hys : rpT s Ha y := by
      obtain ⟨x', h1, h2⟩ := pget hprA hy
      rw [hs] at h1
      cases h1
      exact h2
    have hF : Er T (tVar 2) [some v, some ve, some (.ref g), some y, none] Ha (rpL rpT (((setsN n).take i).foldl (lawStep rows n) [])) := er_var _ rfl ⟨g, gs, rfl, hgA, hgs⟩
    refine s_when (T := T) (et_andB (a := !((((setsN n).take i).foldl (lawStep rows n) []).map fun k => within k s).any id) (b := good rows n s) (et_notB (et_B (er_b (er_any (er_lcM (F := rpT) (RB := fun b => rpV (.bl b)) (fun k => within k s) (es_list (F := rpT) hF) (by rw [← plen hgs]; omega) (fun _ => rfl) fun k x H3 hk e3 hx =>
      er_lwithin (er_var (rpT k) rfl hx) (er_var (rpT s) rfl (Mn.mono e3 hys)) (setsN_cols (List.mem_of_mem_take (law_mem rows n i k hk))).2))))) fun _ => et_B (er_b (er_ltold (n := n) (er_var (rpL rpT rows) rfl (Mn.mono eX hv)) (er_var (rpT s) rfl hys) (er_var (rpT (evy n)) rfl heA) G.len (by omega) (setsN_cols hsm) (evy_cols n4)))) (fun hb H3 e3 => ?_) (fun hb H3 e3 => ?_)
    · have hg3 := e3.lst hgA
      refine s_app (T := T) (R := rpT s) rfl hg3 (by omega) (er_var (rpT s) rfl (Mn.mono e3 hys)) fun u H4 e4 hu => ?_
      have e34 := e3.trans e4
      have hg4 := e4.lst hg3
      refine ⟨⟨_, rfl⟩, (eX.trans e34).mutW ng hg4 True.intro, by rw [upd_ne nag]; exact e34.lst haA, pflat hg4 (pmono e34 hprA), Ft.flat (Mn.mono e34 heA) hg4 (fun _ z => by cases z), _, upd_same, ?_, by rw [List.length_append]; exact Nat.succ_le_succ lgs⟩
      rw [take_next hs, foldl_snoc, lawStep_yes hb.symm]
      exact papp (pflat hg4 (pmono e34 hgs)) (.cons (Ft.flat hu hg4 fun _ z => by cases z) .nil)
    · refine ⟨⟨_, rfl⟩, eX.trans e3, e3.lst haA, pmono e3 hprA, Mn.mono e3 heA, gs, e3.lst hgA, ?_, Nat.le_succ_of_le lgs⟩
      rw [take_next hs, foldl_snoc, lawStep_no hb.symm]
      exact pmono e3 hgs
  · obtain ⟨⟨z1, rfl⟩, eX, haA, hprA, heA, gs, hgA, hgs, lgs⟩ := I
    rw [List.take_length] at hgs
    exact s_ret (T := T) (er_var (rpL rpT (lawKeys rows n)) rfl ⟨g, gs, rfl, hgA, hgs⟩) fun u H3 e3 hu => q u H3 (eX.trans e3) hu
end
end K8
set_option maxHeartbeats 4000000
namespace K8
open PySem L2 PySem.Spec PyProof.Rows
def lawShowsB (rows : List (List Int)) (n : Nat) (due some : List (List Int)) (prs : Prs) : Bool :=
  decide (sortL some = sortL due) && (decide (sortL (prs.map (·.1)) = sortL (restOf n due)) && ((restOf n due).map fun s => isUnlike rows s (lookP prs s).1 (lookP prs s).2).all id)
def prLShows : List V → Hp → Rp → Prop := fun vs H R => ∃ v vd vs' vp rows n due some prs, vs = [v, vd, vs', vp] ∧ rpL rpT rows H v ∧ Good rows n ∧ rpL rpT due H vd ∧ (∀ k ∈ due, k.length ≤ 100) ∧ due.length ≤ 1000 ∧ rpL rpT some H vs' ∧ rpD rpP prs H vp ∧ R = rpV (.bl (lawShowsB rows n due some prs))
abbrev nsLShows : List Str := ["_law_rows_here", "_law_due", "_law_some", "_law_pairs", "_law_one", "_law_rest", "_law_mine", "_law_theirs", "_law_key", "_law_index"]
theorem scLShows : FnScope nsLShows ["_law_rows_here", "_law_due", "_law_some", "_law_pairs"] (defScope (topS 48)) := ⟨rfl, rfl, rfl, by decide +kernel, rfl, by decide +kernel, by decide +kernel⟩
theorem look_mem {β : Type} {l : List (List Int × β)} {s : List Int} (h : s ∈ l.map (·.1)) : ∃ b, look l s = some b := by
  obtain ⟨p, hp, e⟩ := List.mem_map.mp h
  unfold look
  cases hf : l.find? (fun p => decide (p.1 = s)) with
  | some q => exact ⟨q.2, rfl⟩
  | none => exact absurd (decide_eq_true e) (List.find?_eq_none.mp hf p hp)
section
variable {P : Program} {w : World} {K : PySem.W.Frag} {mg : Str → Option Value} {base : Heap} {T : Tb} {σ : L2.St} {H : Hp} {te ta tb tc : TE} {D : Ends} {tu tw tz : TS}
theorem ok_lshows {f : Addr} {fd : FuncData} (F : Fun K "_law_shows" "_law_shows" (topS 48) f fd) (m : mg "_law_shows" = some (.ref f)) (N : Nm mg) (GS : Has P w K mg base 1 "_law_sets" ["_law_many"] (Pm T 1 prLSets)) (GW : Has P w K mg base 1 "_law_within" ["_law_one", "_law_other"] (Pm T 2 prWithin))
    (GA : Has P w K mg base 1 "_law_alike" ["_law_mine", "_law_theirs", "_law_places"] (Pm T 3 prAlike)) : Has P w K mg base 2 "_law_shows" ["_law_rows_here", "_law_due", "_law_some", "_law_pairs"] (Pm T 4 prLShows) := by
  refine Has.of F m (F.binds fun _ _ _ _ _ _ us hl => match us, hl with | [_, _, _, _], _ => rfl) (F.ok scLShows (fun vs H Q E h => h.1) (fun cdv A outer s H vs Q E hr h => ?_))
  obtain ⟨_, R, ⟨v, vd, vs', vp, rows, n, due, some_, prs, rfl, hv, G, hd, hdl, hdz, hs, hp, rfl⟩, q⟩ := h
  obtain ⟨f1, fd1, G1, m1, k1, b1⟩ := GS
  obtain ⟨f2, fd2, G2, m2, k2, b2⟩ := GW
  obtain ⟨f3, fd3, G3, m3, k3, b3⟩ := GA
  have nd := scLShows.nd
  refine ⟨_, pss_cons (ps_if (pt_cmpR (r := rNeD K) (op_neD hr.units) (pe_callB (r := rSortT) (cr_sortT hr) (by rfl) N.sorted (by decide +kernel) (pa_cons (pv 2) pa_nil)) (pe_callB (r := rSortT) (cr_sortT hr) (by rfl) N.sorted (by decide +kernel) (pa_cons (pv 1) pa_nil)) (nomark _)) (pss_one (ps_ret pe_bl)) pss_nil)
    (pss_cons (ps_setLc (i := 5) (own := [("_law_one", 4)]) (g := gName 4) rfl nd rfl rfl (by rfl) (pi_list (pe_call G1 hr (by rfl) m1 k1 b1 .nil pass0 (pa_cons (pe_callB (r := rLn K) call_len_seq (by rfl) N.len (by decide +kernel) (pa_cons (pe_ix (r := rIxL K) ix_list (pv 0) pe_int (fun _ _ => rfl)) pa_nil)) pa_nil))) (blkOk_by (N := nsLShows) (sc := defScope (topS 48)) (by decide +kernel)) (fun _ _ _ _ _ => pg_name (i := 4) nd rfl (Or.inr rfl))
        (fun _ _ _ _ _ => pts_one (pt_not (pt_val (pe_callB (r := rAny K) (cr_any rfl) (by rfl) N.any (by decide +kernel) (pa_cons
          (pe_lc (own := [("_law_key", 8)]) (g := gName 8) (tt := tYes) rfl nd (pi_listK K (pv 1)) (blkOk_by (N := nsLShows) (sc := lcS [(".0", .local), ("_law_one", .cell), ("any", .globalImplicit), ("_law_due", .cell)]) (by decide +kernel)) (fun _ _ _ _ _ => pg_name (i := 8) nd rfl (Or.inl rfl))
            (fun _ _ _ _ _ => pts_nil) (fun _ _ _ _ _ => pe_call G2 hr (by rfl) m2 k2 b2 .nil pass0 (pa_cons (pv 8) (pa_cons (pv 4) pa_nil)))) pa_nil))))) (fun _ _ _ _ _ => pv 4))
    (pss_cons (ps_if (pt_cmpR (r := rNeD K) (op_neD hr.units) (pe_callB (r := rSortD) (cr_sortD hr rfl) (by rfl) N.sorted (by decide +kernel) (pa_cons (pv 3) pa_nil)) (pe_callB (r := rSortT) (cr_sortT hr) (by rfl) N.sorted (by decide +kernel) (pa_cons (pv 5) pa_nil)) (nomark _)) (pss_one (ps_ret pe_bl)) pss_nil)
    (pss_cons (ps_for PassesOwn.never rfl (pi_list (pv 5)) (pg_name (i := 4) nd rfl (Or.inl rfl))
      (pss_cons (ps_if (pt_not (pt_val (pe_callB (r := rAll K) (cr_all rfl) (by rfl) N.all (by decide +kernel) (pa_cons (pe_lc (own := [("_law_index", 9)]) (g := gName 9) (tt := tYes) rfl nd (pi_tup (pe_dget (u1 hr) (pv 3) (pv 4) (fun _ _ => rfl))) (blkOk_by (N := nsLShows) (sc := defScope (topS 48)) (by decide +kernel))
          (fun _ _ _ _ _ => pg_name (i := 9) nd rfl (Or.inl rfl)) (fun _ _ _ _ _ => pts_nil) (fun _ _ _ _ _ => pe_chain op_le op_lt pe_int (pv 9) (pe_callB (r := rLn K) call_len_seq (by rfl) N.len (by decide +kernel) (pa_cons (pv 0) pa_nil)))) pa_nil)))) (pss_one (ps_ret pe_bl)) pss_nil)
      (pss_cons (ps_par (i := 6) (j := 7) (by rfl) nd rfl rfl (by decide) rfl rfl (pa_cons (pe_ix (r := rIxL K) ix_list (pv 0) (pe_ix (r := rIxT K) ix_tup (pe_dget (u1 hr) (pv 3) (pv 4) (fun _ _ => rfl)) pe_int (fun _ _ => rfl)) (fun _ _ => rfl)) (pa_cons (pe_ix (r := rIxL K) ix_list (pv 0) (pe_ix (r := rIxT K) ix_tup (pe_dget (u1 hr) (pv 3) (pv 4) (fun _ _ => rfl)) pe_int (fun _ _ => rfl)) (fun _ _ => rfl)) pa_nil)) (by rfl))
      (pss_one (ps_if (PW.pt (pw_or (pt_not (pt_val (pe_call G3 hr (by rfl) m3 k3 b3 .nil pass0 (pa_cons (pv 6) (pa_cons (pv 7) (pa_cons (pv 4) pa_nil)))))) (pw_or1 (pt_cmpR (r := rEqD K) (op_eqD hr.units) (pv 6) (pv 7) (nomark _))))) (pss_one (ps_ret pe_bl)) pss_nil)))))
    (pss_one (ps_ret pe_bl))))), ?_⟩
  refine of_start (σ := [some v, some vd, some vs', some vp, none, none, none, none, none, none]) rfl ?_
  have n1 := G.w1
  have n4 := G.w4
  have h10 := G.few
  have hV : ∀ {σ : L2.St} {H1 : Hp}, Xt T H H1 → σ[0]? = some (some v) → Er T (tVar 0) σ H1 (rpL rpT rows) := fun e h => er_var (rpL rpT rows) h (Mn.mono e hv)
  have hDu : ∀ {σ : L2.St} {H1 : Hp}, Xt T H H1 → σ[1]? = some (some vd) → Er T (tVar 1) σ H1 (rpL rpT due) := fun e h => er_var (rpL rpT due) h (Mn.mono e hd)
  have hPr : ∀ {σ : L2.St} {H1 : Hp}, Xt T H H1 → σ[3]? = some (some vp) → Er T (tVar 3) σ H1 (rpD rpP prs) := fun e h => er_var (rpD rpP prs) h (Mn.mono e hp)
  refine q_when (T := T) (et_test (er_b (er_neL (er_sortT (er_var (rpL rpT some_) rfl hs)) (er_sortT (hDu (Xt.refl T H) rfl))))) (fun hb H1 e1 => ?_) (fun hb H1 e1 => ?_)
  · refine s_ret (T := T) er_c fun r H2 e2 hr2 => q r H2 (e1.trans e2) ?_
    have e3 : decide (sortL some_ = sortL due) = false := by simpa using hb.symm
    unfold lawShowsB
    rw [e3]
    exact hr2
  have hA : decide (sortL some_ = sortL due) = true := by simpa using hb.symm
  -- the rest
  refine q_asg (T := T) (R := rpL rpT (restOf n due)) ((er_lcF (F := rpT) (RB := rpT) (fun s => !((due.map fun k => within k s).any id)) id (es_list (F := rpT) (er_lsets (er_len0 G (hV e1 rfl)) ⟨n1, n4⟩)) (Nat.le_trans (setsN_len n) (by decide)) (fun _ => rfl) fun s x H2 hm e2 hx => ⟨?_, fun _ => er_var (rpT s) rfl hx⟩).imp fun H2 r _ hr2 => ?_) fun vr H2 e2 hvr => ?_
  · exact et_notB (et_B (er_b (er_any (er_lcM (F := rpT) (RB := fun b => rpV (.bl b)) (fun k => within k s) (es_list (F := rpT) (hDu (e1.trans e2) rfl)) (by omega) (fun _ => rfl) fun k y H3 hk e3 hy => er_lwithin (er_var (rpT k) rfl hy) (er_var (rpT s) rfl (Mn.mono e3 hx)) (hdl k hk)))))
  · rw [List.map_id] at hr2
    exact hr2
  have e02 := e1.trans e2
  have hR : ∀ {σ : L2.St} {H1 : Hp}, Xt T H2 H1 → σ[5]? = some (some vr) → Er T (tVar 5) σ H1 (rpL rpT (restOf n due)) := fun e h => er_var (rpL rpT (restOf n due)) h (Mn.mono e hvr)
  refine q_when (T := T) (et_test (er_b (er_neL (er_sortD (R := rpP) (hPr e02 rfl)) (er_sortT (hR (Xt.refl T H2) rfl))))) (fun hb H3 e3 => ?_) (fun hb H3 e3 => ?_)
  · refine s_ret (T := T) er_c fun r H4 e4 hr4 => q r H4 (e02.trans (e3.trans e4)) ?_
    have e5 : decide (sortL (prs.map (·.1)) = sortL (restOf n due)) = false := by simpa using hb.symm
    unfold lawShowsB
    rw [hA, e5]
    exact hr4
  have hB : decide (sortL (prs.map (·.1)) = sortL (restOf n due)) = true := by simpa using hb.symm
  have hperm : (prs.map (·.1)).Perm (restOf n due) := (sortL_eq _ _).mp (of_decide_eq_true hB)
  have hlook : ∀ s ∈ restOf n due, look prs s = some (lookP prs s) := fun s hs => by
    obtain ⟨b, hb⟩ := look_mem (hperm.mem_iff.mpr hs)
    unfold lookP
    rw [hb]
    rfl
  have e03 := e02.trans e3
  have lR : (restOf n due).length ≤ 16 := Nat.le_trans (List.length_filter_le _ _) (setsN_len n)
  refine q_forE (T := T) (es_list (F := rpT) (hR e3 rfl)) (fun i σ' _ => (∃ z4 z6 z7, σ' = [some v, some vd, some vs', some vp, z4, some vr, z6, z7, none, none]) ∧ ∀ s ∈ (restOf n due).take i, isUnlike rows s (lookP prs s).1 (lookP prs s).2 = true)
    (fun _ _ => ⟨⟨none, none, none, rfl⟩, fun s hs => by simp at hs⟩) (fun H4 e4 i y σ1 Ha Hb hi ea I eb hy => ?_) (fun σ' H' e4 I => ?_)
  · obtain ⟨⟨z4, z6, z7, rfl⟩, I⟩ := I
    obtain ⟨s, hs, hys⟩ := hy
    have hsm := List.mem_of_getElem? hs
    have hcS := setsN_cols (List.mem_filter.mp hsm).1
    have e0b := e03.trans ((e4.trans ea).trans eb)
    have hl := hlook s hsm
    obtain ⟨pi, pj⟩ : ∃ pi pj, lookP prs s = (pi, pj) := ⟨_, _, rfl⟩
    have hfail : ∀ {H5 : Hp} {u : V}, Xt T Hb H5 → isUnlike rows s (lookP prs s).1 (lookP prs s).2 = false → u = V.bl false → Q u H5 := fun e5 hf hu => q _ _ (e0b.trans e5) (by
      have e6 : ((restOf n due).map fun s => isUnlike rows s (lookP prs s).1 (lookP prs s).2).all id = false := by
        rw [Bool.eq_false_iff]
        intro h
        rw [List.all_map, List.all_eq_true] at h
        have h2 : isUnlike rows s (lookP prs s).1 (lookP prs s).2 = true := h s hsm
        rw [hf] at h2
        cases h2
      unfold lawShowsB
      rw [hA, hB, e6]
      exact hu)
    have pairE : ∀ {z6 z7 : Option V} {H5 : Hp}, Xt T Hb H5 → Er T (tDGet (tVar 3) (tVar 4)) [some v, some vd, some vs', some vp, some y, some vr, z6, z7, none, none] H5 (rpT [(lookP prs s).1, (lookP prs s).2]) := fun e => er_dget (R := rpP) (hPr (e0b.trans e) rfl) (er_var (rpT s) rfl (Mn.mono e hys)) hl
    refine q_when (T := T) (et_notB (et_B (er_b (er_all (er_lcM (F := rpN) (RB := fun b => rpV (.bl b)) (fun x => isUnlike.isNumL x rows.length) (es_tupT (pairE (Xt.refl T Hb))) (by show 2 ≤ 40000; decide) (fun _ => rfl) fun x y2 H5 hm e5 hx => ?_))))) (fun hb5 H5 e5 => ?_) (fun hb5 H5 e5 => ?_)
    · cases (show y2 = V.int x from hx)
      exact er_chain (g := fun i j => decide (i ≤ j)) (g' := fun i j => decide (i < j)) er_c (er_v rfl) (er_lenL (hV (e0b.trans e5) rfl))
    · refine s_ret (T := T) er_c fun u H6 e6 hu => hfail (e5.trans e6) ?_ hu
      have e3 : (isUnlike.isNumL (lookP prs s).1 rows.length && isUnlike.isNumL (lookP prs s).2 rows.length) = false := by
        have e' : (!(isUnlike.isNumL (lookP prs s).1 rows.length && (isUnlike.isNumL (lookP prs s).2 rows.length && true))) = true := hb5.symm
        rw [Bool.and_true] at e'
        cases h : (isUnlike.isNumL (lookP prs s).1 rows.length && isUnlike.isNumL (lookP prs s).2 rows.length) with
        | false => rfl
        | true => rw [h] at e'; cases e'
      unfold isUnlike
      rw [e3]
      rfl
    have e3 : (isUnlike.isNumL (lookP prs s).1 rows.length && isUnlike.isNumL (lookP prs s).2 rows.length) = true := by
      have e' : (!(isUnlike.isNumL (lookP prs s).1 rows.length && (isUnlike.isNumL (lookP prs s).2 rows.length && true))) = false := hb5.symm
      rw [Bool.and_true] at e'
      cases h : (isUnlike.isNumL (lookP prs s).1 rows.length && isUnlike.isNumL (lookP prs s).2 rows.length) with
      | true => rfl
      | false => rw [h] at e'; cases e'
    have hij : (0 ≤ (lookP prs s).1 ∧ (lookP prs s).1 < rows.length) ∧ (0 ≤ (lookP prs s).2 ∧ (lookP prs s).2 < rows.length) := by
      have e4 := e3
      unfold isUnlike.isNumL at e4
      simpa using e4
    have hi1 : (lookP prs s).1.toNat < rows.length := by omega
    have hj1 : (lookP prs s).2.toNat < rows.length := by omega
    have gi : rows[(lookP prs s).1.toNat]? = some (rows.getD (lookP prs s).1.toNat []) := by rw [List.getD_eq_getElem?_getD, List.getElem?_eq_getElem hi1]; rfl
    have gj : rows[(lookP prs s).2.toNat]? = some (rows.getD (lookP prs s).2.toNat []) := by rw [List.getD_eq_getElem?_getD, List.getElem?_eq_getElem hj1]; rfl
    have lgi := G.len _ (List.mem_of_getElem? gi)
    have lgj := G.len _ (List.mem_of_getElem? gj)
    refine q_par (T := T) (ea_2 (er_ixL (F := rpT) (hV (e0b.trans e5) rfl) (er_ixT (k := 0) (n := (lookP prs s).1) (pairE e5) er_c rfl rfl) (by omega) gi) (er_ixL (F := rpT) (hV (e0b.trans e5) rfl) (er_ixT (k := 1) (n := (lookP prs s).2) (pairE e5) er_c rfl rfl) (by omega) gj)) fun vs H6 e6 ⟨a, b, ev, ha, hb⟩ => ⟨a, b, ev, ?_⟩
    have e56 := e5.trans e6
    refine s_when (T := T) (et_orB (a := !decide (pick (rows.getD (lookP prs s).1.toNat []) s = pick (rows.getD (lookP prs s).2.toNat []) s)) (b := decide (rows.getD (lookP prs s).1.toNat [] = rows.getD (lookP prs s).2.toNat []))
      (et_notB (et_B (er_b (er_call (ea_3 (er_var (rpT _) rfl ha) (er_var (rpT _) rfl hb) (er_var (rpT s) rfl (Mn.mono e56 hys))) fun H7 vs _ ⟨x, y, z, e7, e8, e9, e10⟩ => ⟨by rw [e7]; rfl, _, _, s, x, y, z, e7, e8, e9, e10, by rw [lgi]; exact hcS, by rw [lgi, lgj], rfl⟩)))) fun _ => et_test (er_b (er_eqT (er_var (rpT _) rfl ha) (er_var (rpT _) rfl hb)))) (fun hb6 H7 e7 => ?_) (fun hb6 H7 e7 => ?_)
    · refine s_ret (T := T) er_c fun u H8 e8 hu => hfail (e56.trans (e7.trans e8)) ?_ hu
      have e9 : (decide (pick (rows.getD (lookP prs s).1.toNat []) s = pick (rows.getD (lookP prs s).2.toNat []) s) && !decide (rows.getD (lookP prs s).1.toNat [] = rows.getD (lookP prs s).2.toNat [])) = false := by
        have := hb6.symm
        revert this
        cases decide (pick (rows.getD (lookP prs s).1.toNat []) s = pick (rows.getD (lookP prs s).2.toNat []) s) <;> cases decide (rows.getD (lookP prs s).1.toNat [] = rows.getD (lookP prs s).2.toNat []) <;> simp
      unfold isUnlike
      rw [e9, Bool.and_false]
    · refine ⟨(((ea.trans eb).trans e5).trans e6).trans e7, ⟨_, _, _, rfl⟩, fun s' hs' => ?_⟩
      rw [take_next hs] at hs'
      rcases List.mem_append.mp hs' with h | h
      · exact I s' h
      · rw [List.mem_singleton.mp h]
        have e9 : (decide (pick (rows.getD (lookP prs s).1.toNat []) s = pick (rows.getD (lookP prs s).2.toNat []) s) && !decide (rows.getD (lookP prs s).1.toNat [] = rows.getD (lookP prs s).2.toNat [])) = true := by
          have := hb6.symm
          revert this
          cases decide (pick (rows.getD (lookP prs s).1.toNat []) s = pick (rows.getD (lookP prs s).2.toNat []) s) <;> cases decide (rows.getD (lookP prs s).1.toNat [] = rows.getD (lookP prs s).2.toNat []) <;> simp
        unfold isUnlike
        rw [e3, e9]
        rfl
  · obtain ⟨⟨z4, z6, z7, rfl⟩, I⟩ := I
    rw [List.take_length] at I
    refine s_ret (T := T) er_c fun u H5 e5 hu => q u H5 ((e03.trans e4).trans e5) ?_
    have e6 : ((restOf n due).map fun s => isUnlike rows s (lookP prs s).1 (lookP prs s).2).all id = true := by
      rw [List.all_map, List.all_eq_true]
      exact fun s hs => I s hs
    unfold lawShowsB
    rw [hA, hB, e6]
    exact hu
end
end K8
set_option maxHeartbeats 4000000
namespace K8
open PySem L2 PySem.Spec PyProof.Rows
/-- where a run begins -/
def runMarks (vs : List Int) : List Int := (evy vs.length).filter fun i => decide (i = 0) || !decide (vs.getD i.toNat 0 = vs.getD (i - 1).toNat 0)
def prLRuns : List V → Hp → Rp → Prop := fun vs H R => ∃ v ns, vs = [v] ∧ rpL rpN ns H v ∧ ns.length ≤ 1000 ∧ R = rpE (fun l => l.length = (runMarks ns).length) (rpL rpT)
theorem scLRuns : FnScope ["_law_values", "_law_marks", "_law_at", "_law_begin", "_law_end"] ["_law_values"] (defScope (topS 40)) := ⟨rfl, rfl, rfl, by decide +kernel, rfl, by decide +kernel, by decide +kernel⟩
theorem evy_get {n i : Nat} (h : i < n) : (evy n)[i]? = some (i : Int) := by
  unfold evy
  rw [List.getElem?_map, List.getElem?_range h]
  rfl
theorem evy_mem {n : Nat} {x : Int} (h : x ∈ evy n) : ∃ i : Nat, i < n ∧ x = (i : Int) := by
  unfold evy at h
  obtain ⟨i, h1, h2⟩ := List.mem_map.mp h
  exact ⟨i, List.mem_range.mp h1, h2.symm⟩
theorem getD_get {l : List Int} {i : Nat} (h : i < l.length) : l[i]? = some (l.getD i 0) := by rw [List.getD_eq_getElem?_getD, List.getElem?_eq_getElem h]; rfl
section
variable {P : Program} {w : World} {K : PySem.W.Frag} {mg : Str → Option Value} {base : Heap} {T : Tb} {σ : L2.St} {H : Hp} {te ta tb tc : TE} {D : Ends} {tz : TS}
theorem es_rngE {ta : TA} {n : Nat} (hn : n ≤ 100000) (h : Ea T ta σ H (fun _ vs => vs = [.int (n : Int)])) : Es T (iRng1 ta) σ H (evy n).length (fun i H x => ∃ e, (evy n)[i]? = some e ∧ rpN e H x) := fun H1 e R k =>
  h H1 e _ fun vs H2 e2 hv => ⟨(n : Int), hv, by omega, by omega, k _ H2 e2 (by
    rw [Int.toNat_natCast, evy_len]
    exact walk_range.mono (fun _ _ => True.intro) fun i H' x H'' hi z ⟨e1, e2⟩ => by
      subst e1
      refine ⟨Xt.refl T _, (i : Int), evy_get hi, ?_⟩
      show x = V.int (i : Int)
      rw [e2]
      show V.int ((0 : Int) + (i : Int)) = V.int (i : Int)
      rw [Int.zero_add])⟩
theorem pi_zipK {X : Cx} {e e2 : Expr} {ta : TA} {p pos tpos : Pos} {elts : List Expr} {kk : Nat} (K : PySem.W.Frag) (hg : Gl X "zip") (hm : X.mg "zip" = none) (ha : PA X [e, e2] ta) (hK : X.K = K := by rfl)
    (hs : starEach [e, e2] X.env = (false, eval e X.env) :: starEach [e2] X.env := by rfl) (hpl : (backTo pos (starEach [e2] X.env)).any (·.1) = false := by rfl) :
    PI X (.Tuple elts kk tpos) (.Call (.Name "zip" p) [e, e2] [] pos) (iZip K ta) := by
  subst hK
  exact pi_zip hg hm ha hs hpl
theorem er_one1 (h : Er T te σ H (rpN i)) : Er T (tLst (tCons te tNil)) σ H (rpL rpN [i]) := er_lst (ea_1 h) (fun _ vs ⟨x, e, _⟩ => by rw [e]; show 1 ≤ 100000; decide) fun H1 vs p _ ⟨x, e, hx⟩ hp => ⟨p, [x], rfl, by rw [upd_same, e], .cons hx .nil⟩
theorem ok_lruns {f : Addr} {fd : FuncData} (F : Fun K "_law_runs" "_law_runs" (topS 40) f fd) (m : mg "_law_runs" = some (.ref f)) (N : Nm mg) : Has P w K mg base 1 "_law_runs" ["_law_values"] (Pm T 1 prLRuns) := by
  refine Has.of F m (F.binds fun _ _ _ _ _ _ us hl => match us, hl with | [_], _ => rfl) (F.ok scLRuns (fun vs H Q E h => h.1) (fun cdv A outer s H vs Q E hr h => ?_))
  obtain ⟨_, R, ⟨v, ns, rfl, hv, hl, rfl⟩, q⟩ := h
  have nd := scLRuns.nd
  refine ⟨_, pss_cons (ps_set (i := 1) nd rfl (Or.inl rfl) (pe_op op_cat (pe_lc (own := [("_law_at", 2)]) (g := gName 2) rfl nd (pi_range1 (by rfl) N.range (pa_cons (pe_callB (r := rLn K) call_len_seq (by rfl) N.len (by decide +kernel) (pa_cons (pv 0) pa_nil)) pa_nil)) (blkOk_by (N := ["_law_values", "_law_marks", "_law_at", "_law_begin", "_law_end"]) (sc := defScope (topS 40)) (by decide +kernel))
      (fun _ _ _ _ _ => pg_name (i := 2) nd rfl (Or.inl rfl)) (fun _ _ _ _ _ => pts_one (PW.pt (pw_or (pt_cmpR (r := rEq) op_eq (pv 2) pe_int (nomark _)) (pw_or1 (pt_cmpR (r := rNe) op_ne (pe_ix (r := rIxL K) ix_list (pv 0) (pv 2) (fun _ _ => rfl)) (pe_ix (r := rIxL K) ix_list (pv 0) (pe_op op_sub (pv 2) pe_int) (fun _ _ => rfl)) (nomark _)))))) (fun _ _ _ _ _ => pv 2))
      (pe_lst (pa_cons (pe_callB (r := rLn K) call_len_seq (by rfl) N.len (by decide +kernel) (pa_cons (pv 0) pa_nil)) pa_nil))))
    (pss_one (ps_ret (pe_lc (own := [("_law_begin", 3), ("_law_end", 4)]) (g := gTup K 2 (gCons (gName 3) (gCons (gName 4) gNil))) (tt := tYes) rfl nd (pi_zipK K (by rfl) N.zip (pa_cons (pv 1) (pa_cons (pe_slice sl_list (pv 1) (po_some pe_int) po_none) pa_nil))) (blkOk_by (N := ["_law_values", "_law_marks", "_law_at", "_law_begin", "_law_end"]) (sc := defScope (topS 40)) (by decide +kernel))
      (fun _ _ _ _ _ => pg_tup rfl (pgs_cons (pg_name (i := 3) nd rfl (Or.inl rfl)) (pgs_cons (pg_name (i := 4) nd rfl (Or.inl rfl)) pgs_nil))) (fun _ _ _ _ _ => pts_nil)
      (fun _ _ _ _ _ => pe_tup (pa_cons (pe_ix (r := rIxL K) ix_list (pv 0) (pv 3) (fun _ _ => rfl)) (pa_cons (pe_op op_sub (pv 4) (pv 3)) pa_nil)))))), ?_⟩
  refine of_start (σ := [some v, none, none, none, none]) rfl ?_
  have hV : ∀ {σ : L2.St} {H1 : Hp}, Xt T H H1 → σ[0]? = some (some v) → Er T (tVar 0) σ H1 (rpL rpN ns) := fun e h => er_var (rpL rpN ns) h (Mn.mono e hv)
  have hlen : ∀ {σ : L2.St} {H1 : Hp}, Xt T H H1 → σ[0]? = some (some v) → Er T (tCB (rLn K) (tCons (tVar 0) tNil)) σ H1 (rpN (ns.length : Int)) := fun e h => er_lenL (hV e h)
  have lm : (runMarks ns).length ≤ ns.length := Nat.le_trans (List.length_filter_le _ _) (by rw [evy_len]; exact Nat.le_refl _)
  refine q_asg (T := T) (R := rpL rpN (runMarks ns ++ [(ns.length : Int)])) (er_cat (F := rpN) ((er_lcF (F := rpN) (RB := rpN) (fun i => decide (i = 0) || !decide (ns.getD i.toNat 0 = ns.getD (i - 1).toNat 0)) id (es_rngE (n := ns.length) (by omega) ((ea_1 (hlen (Xt.refl T H) rfl)).imp fun H2 vs _ ⟨a, e1, e2⟩ => by rw [e1, show a = V.int _ from e2])) (by rw [evy_len]; omega) (fun _ => rfl) fun i x H1 hm e hx => ?_).imp fun H1 u _ hu => by rw [List.map_id] at hu; exact hu)
    (er_one1 (hlen (Xt.refl T H) rfl)) (by show _ + 1 ≤ 100000; omega)) fun u H1 e1 hu => ?_
  · cases (show x = V.int i from hx)
    obtain ⟨k, hk, rfl⟩ := evy_mem hm
    refine ⟨et_orB (et_test (er_b (er_eqI (er_v rfl) er_c))) fun hz => ?_, fun _ => er_v rfl⟩
    have hz' : ¬((k : Int) = 0) := by simpa using hz
    exact et_test (er_b (er_neI (er_ixL (F := rpN) (k := k) (hV e rfl) (er_v rfl) rfl (by rw [Int.toNat_natCast]; exact getD_get hk)) (er_ixL (F := rpN) (k := k - 1) (hV e rfl) (er_N0 (g := fun i j => .int (i - j)) (i := (k : Int)) (j := 1) (er_v rfl) er_c) (by omega) (by
      have : ((k : Int) - 1).toNat = k - 1 := by omega
      rw [this]
      exact getD_get (by omega)))))
  · have hM : ∀ {σ : L2.St} {H2 : Hp}, Xt T H1 H2 → σ[1]? = some (some u) → Er T (tVar 1) σ H2 (rpL rpN (runMarks ns ++ [(ns.length : Int)])) := fun e h => er_var (rpL rpN _) h (Mn.mono e hu)
    have hml : min (runMarks ns ++ [(ns.length : Int)]).length ((runMarks ns ++ [(ns.length : Int)]).drop 1).length = (runMarks ns).length := by
      rw [List.length_drop, List.length_append, List.length_singleton]
      omega
    refine s_ret (T := T) (er_lcG (RB := rpT) (fun i acc => acc.length = i) (es_zip (F := rpN) (G := rpN) (ea_2 (hM (Xt.refl T H1) rfl) (er_slDrop (F := rpN) (k := 1) (hM (Xt.refl T H1) rfl) er_c))) (gm_two 3 4 2) (by rw [hml]; omega) rfl fun i x H2 acc hi e hx ha => ?_) fun r H2 e2 ⟨l, h1, h2⟩ => q r H2 (e1.trans e2) ⟨l, by rw [← hml]; exact h1, h2⟩
    rw [hml] at hi
    obtain ⟨S, y, y', b, b', rfl, hS, hb, hy, hb', hy'⟩ := hx
    cases (show y = V.int b from hy)
    cases (show y' = V.int b' from hy')
    refine g_two hS ⟨Xt.refl T H2, rfl, (· = true), et_yes, fun z => (by cases z), fun _ => ?_⟩
    rw [List.getElem?_append_left hi] at hb
    obtain ⟨k, hk, rfl⟩ := evy_mem (List.mem_filter.mp (List.mem_of_getElem? hb)).1
    refine er_tup (ea_2 (RA := rpN (ns.getD k 0)) (RB := rpN (b' - k)) (er_ixL (F := rpN) (k := k) (hV (e1.trans e) rfl) (er_v rfl) rfl (getD_get hk)) (er_N0 (g := fun i j => .int (i - j)) (i := b') (j := (k : Int)) (er_v rfl) (er_v rfl))) (fun _ vs ⟨_, _, e, _⟩ => by rw [e]; show 2 ≤ 100000; decide) fun H3 vs p _ ⟨a, c, e3, ea, ec⟩ hp => ⟨[ns.getD k 0, b' - k], ?_, p, rfl, ?_⟩
    · show (acc ++ [[ns.getD k 0, b' - k]]).length = i + 1
      rw [List.length_append, ha]
      rfl
    · rw [upd_same, e3, show a = V.int _ from ea, show c = V.int _ from ec]
      rfl
end
end K8
set_option maxHeartbeats 4000000
namespace K8
open PySem L2 PySem.Spec PyProof.Rows
/-- the prices where two rows differ -/
def diffC (r s ps : List Int) (n : Nat) : List Int := ((List.range n).filter fun i => !decide (r.getD i 0 = s.getD i 0)).map fun i => ps.getD i 0
def costTo (rows : List (List Int)) (ps : List Int) (n : Nat) : Nat → Int
  | 0 => ps.sum
  | k + 1 => costTo rows ps n k + (diffC (rows.getD k []) (rows.getD (k + 1) []) ps n).sum
def costL (rows : List (List Int)) (ps : List Int) (n : Nat) : Int := costTo rows ps n (rows.length - 1)
def prLCost : List V → Hp → Rp → Prop := fun vs H R => ∃ v vp rows ps n, vs = [v, vp] ∧ rpL rpT rows H v ∧ rpT ps H vp ∧ (∀ r ∈ rows, r.length = n) ∧ ps.length = n ∧ n ≤ 1000 ∧ rows.length ≤ 1000 ∧ R = rpN (costL rows ps n)
theorem scLCost : FnScope ["_law_rows_here", "_law_prices_here", "_law_found", "_law_one", "_law_other", "_law_mine", "_law_theirs", "_law_price"] ["_law_rows_here", "_law_prices_here"] (defScope (topS 42)) := ⟨rfl, rfl, rfl, by decide +kernel, rfl, by decide +kernel, by decide +kernel⟩
theorem getL_get {l : List (List Int)} {i : Nat} {x : List Int} (h : l[i]? = some x) : l.getD i [] = x := by rw [List.getD_eq_getElem?_getD, h]; rfl
theorem getN_get {l : List Int} {i : Nat} {x : Int} (h : l[i]? = some x) : l.getD i 0 = x := by rw [List.getD_eq_getElem?_getD, h]; rfl
section
variable {P : Program} {w : World} {K : PySem.W.Frag} {mg : Str → Option Value} {base : Heap} {T : Tb} {σ : L2.St} {H : Hp} {te ta tb tc : TE} {D : Ends} {tz : TS}
theorem ok_lcost {f : Addr} {fd : FuncData} (F : Fun K "_law_cost" "_law_cost" (topS 42) f fd) (m : mg "_law_cost" = some (.ref f)) (N : Nm mg) : Has P w K mg base 1 "_law_cost" ["_law_rows_here", "_law_prices_here"] (Pm T 2 prLCost) := by
  refine Has.of F m (F.binds fun _ _ _ _ _ _ us hl => match us, hl with | [_, _], _ => rfl) (F.ok scLCost (fun vs H Q E h => h.1) (fun cdv A outer s H vs Q E hr h => ?_))
  obtain ⟨_, R, ⟨v, vp, rows, ps, n, rfl, hv, hp, hln, hpl, hn, hl, rfl⟩, q⟩ := h
  have nd := scLCost.nd
  refine ⟨_, pss_cons (ps_set (i := 2) nd rfl (Or.inl rfl) (pe_callB (r := rSumT K) (cr_sumT rfl) (by rfl) N.sum (by decide +kernel) (pa_cons (pv 1) pa_nil)))
    (pss_cons (ps_for PassesOwn.never rfl (pi_zipK K (by rfl) N.zip (pa_cons (pv 0) (pa_cons (pe_slice sl_list (pv 0) (po_some pe_int) po_none) pa_nil))) (pg_tup rfl (pgs_cons (pg_name (i := 3) nd rfl (Or.inl rfl)) (pgs_cons (pg_name (i := 4) nd rfl (Or.inl rfl)) pgs_nil)))
      (pss_one (ps_set (i := 2) nd rfl (Or.inl rfl) (pe_op op_add (pv 2) (pe_callB (r := rSum K) (cr_sum rfl) (by rfl) N.sum (by decide +kernel) (pa_cons
        (pe_lc (own := [("_law_mine", 5), ("_law_theirs", 6), ("_law_price", 7)]) (g := gTup K 3 (gCons (gName 5) (gCons (gName 6) (gCons (gName 7) gNil)))) rfl nd (pi_zip3K K (by rfl) N.zip (pa_cons (pv 3) (pa_cons (pv 4) (pa_cons (pv 1) pa_nil)))) (blkOk_by (N := ["_law_rows_here", "_law_prices_here", "_law_found", "_law_one", "_law_other", "_law_mine", "_law_theirs", "_law_price"]) (sc := defScope (topS 42)) (by decide +kernel))
          (fun _ _ _ _ _ => pg_tup rfl (pgs_cons (pg_name (i := 5) nd rfl (Or.inl rfl)) (pgs_cons (pg_name (i := 6) nd rfl (Or.inl rfl)) (pgs_cons (pg_name (i := 7) nd rfl (Or.inl rfl)) pgs_nil)))) (fun _ _ _ _ _ => pts_one (pt_cmpR (r := rNe) op_ne (pv 5) (pv 6) (nomark _)))
          (fun _ _ _ _ _ => pv 7)) pa_nil))))))
    (pss_one (ps_ret (pv 2)))), ?_⟩
  refine of_start (σ := [some v, some vp, none, none, none, none, none, none]) rfl ?_
  refine q_asg (T := T) (R := rpN ps.sum) (er_sumT (er_var (rpT ps) rfl hp)) fun u H1 e1 hu => ?_
  cases (show u = V.int ps.sum from hu)
  have hV : ∀ {σ : L2.St} {H2 : Hp}, Xt T H1 H2 → σ[0]? = some (some v) → Er T (tVar 0) σ H2 (rpL rpT rows) := fun e h => er_var (rpL rpT rows) h (Mn.mono (e1.trans e) hv)
  have hml : min rows.length (rows.drop 1).length = rows.length - 1 := by
    rw [List.length_drop]
    omega
  refine q_forE (T := T) (es_zip (F := rpT) (G := rpT) (ea_2 (hV (Xt.refl T H1) rfl) (er_slDrop (F := rpT) (k := 1) (hV (Xt.refl T H1) rfl) er_c))) (fun i σ' _ => ∃ z3 z4, σ' = [some v, some vp, some (.int (costTo rows ps n i)), z3, z4, none, none, none])
    (fun H2 e2 => ⟨none, none, rfl⟩) (fun H2 e2 i x σ1 Ha Hb hi ea I eb hx => ?_) (fun σ' H2 e2 I => ?_)
  · obtain ⟨z3, z4, rfl⟩ := I
    obtain ⟨S, y, y', r, s, rfl, hS, hr1, hy, hs1, hy'⟩ := hx
    rw [List.getElem?_drop, Nat.add_comm] at hs1
    have lr := hln r (List.mem_of_getElem? hr1)
    have ls := hln s (List.mem_of_getElem? hs1)
    have e0 := (e1.trans e2).trans (ea.trans eb)
    refine g_two hS ?_
    refine s_asg (T := T) (R := rpN (costTo rows ps n (i + 1))) ?_ fun u H3 e3 hu => ⟨(ea.trans eb).trans e3, some y, some y', by rw [show u = V.int (costTo rows ps n (i + 1)) from hu]; rfl⟩
    refine er_N0 (g := fun i j => .int (i + j)) (i := costTo rows ps n i) (j := (diffC (rows.getD i []) (rows.getD (i + 1) []) ps n).sum) (er_v rfl) (er_sum ((er_lcG (RB := rpN) (fun k acc => acc = diffC (rows.getD i []) (rows.getD (i + 1) []) ps k) (es_zip3 (n := n) (a := r) (b := s) (c := ps) lr ls hpl
      (ea_3 (er_var (rpT r) rfl hy) (er_var (rpT s) rfl hy') (er_var (rpT ps) rfl (Mn.mono e0 hp)))) (gm_three 5 6 7 3) (by omega) rfl fun k x H3 acc hk e3 hx ha => ?_).imp fun H3 u _ ⟨l, h1, h2⟩ => ?_))
    · obtain ⟨S, a, b, c, rfl, hS3, h1, h2, h3⟩ := hx
      refine g_three hS3 ⟨Xt.refl T H3, rfl, (· = !decide (a = b)), et_test (er_b (er_neI (er_v rfl) (er_v rfl))), fun hb => ?_, fun hb => (er_v (v := V.int c) rfl).imp fun H4 u _ hu => ⟨c, ?_, hu⟩⟩
      · have e4 : ((rows.getD i []).getD k 0 = (rows.getD (i + 1) []).getD k 0) := by
          rw [getL_get hr1, getL_get hs1, getN_get h1, getN_get h2]
          simpa using hb
        unfold diffC
        rw [List.range_succ, List.filter_append, List.filter_cons_of_neg (by show ¬((!decide ((rows.getD i []).getD k 0 = (rows.getD (i + 1) []).getD k 0)) = true); rw [decide_eq_true e4]; decide), List.filter_nil, List.append_nil]
        exact ha
      · have e4 : ¬((rows.getD i []).getD k 0 = (rows.getD (i + 1) []).getD k 0) := by
          rw [getL_get hr1, getL_get hs1, getN_get h1, getN_get h2]
          simpa using hb
        show acc ++ [c] = _
        unfold diffC
        rw [List.range_succ, List.filter_append, List.filter_cons_of_pos (by show (!decide ((rows.getD i []).getD k 0 = (rows.getD (i + 1) []).getD k 0)) = true; rw [decide_eq_false e4]; rfl), List.filter_nil, List.map_append, ha]
        show _ = _ ++ [ps.getD k 0]
        rw [getN_get h3]
        rfl
    · rw [← h1]
      exact h2
  · obtain ⟨z3, z4, rfl⟩ := I
    rw [hml]
    exact s_ret (T := T) (er_v (v := V.int (costL rows ps n)) rfl) fun u H3 e3 hu => q u H3 ((e1.trans e2).trans e3) hu
end
end K8
set_option maxHeartbeats 4000000
namespace K8
open PySem L2 PySem.Spec PyProof.Rows
abbrev rListK : List V → Hp → VK → Prop := fun xs H Q => ∃ d kvs, xs = [V.ref d] ∧ Rd H d (.dT kvs) ∧ ∀ p bs, H p = none → IsKeys H kvs bs → Q (.ref p) (upd H p (.lst (bs.map V.ref)))
/-- a case: a list and a dict -/
def rpCase (q : List (List Int) × Prs) : Rp := fun H v => ∃ t a b, v = .ref t ∧ H t = some (.tup [a, b]) ∧ rpL rpT q.1 H a ∧ rpD rpP q.2 H b
instance {T : Tb} (q : List (List Int) × Prs) : Mn T (rpCase q) := ⟨fun e ⟨t, a, b, h1, h2, h3, h4⟩ => ⟨t, a, b, h1, e.tup h2, Mn.mono e h3, Mn.mono e h4⟩⟩
def CaseOk (q : List (List Int) × Prs) : Prop := q.1.length ≤ 60 ∧ KeysOk (q.2.map (·.1))
def prLCases (K : PySem.W.Frag) (CK : Addr) : List V → Hp → Rp → Prop := fun vs H R => ∃ vd v vf ns rows n ls l, vs = [vd, v, vf] ∧ rpDraw K ns H vd ∧ rpL rpT rows H v ∧ Good rows n ∧ rpKeys CK ls l H vf ∧ ls.length ≤ 16 ∧ KeysOk (l.map (·.1)) ∧ R = rpE (fun cs => ∀ q ∈ cs, CaseOk q) (rpL rpCase)
abbrev nsLCases : List Str := ["_law_draw", "_law_rows_here", "_law_found", "_law_some", "_law_pairs", "_law_cases_here", "_law_lap", "_law_more", "_law_less", "_law_key"]
theorem scLCases : FnScope nsLCases ["_law_draw", "_law_rows_here", "_law_found"] (defScope (topS 49)) := ⟨rfl, rfl, rfl, by decide +kernel, rfl, by decide +kernel, by decide +kernel⟩
theorem keysOk_len {ks : List (List Int)} (h : KeysOk ks) : ks.length ≤ 16 := nodup_sub h.1 h.2
where
  nodup_sub {M l : List (List Int)} (hn : M.Nodup) (h : ∀ x ∈ M, x ∈ l) : M.length ≤ l.length := by
    rcases Nat.lt_or_ge l.length M.length with h2 | h2
    · have := (nodup_perm hn h (Nat.le_of_lt h2)).length_eq
      omega
    · exact h2
theorem putD_keys (l : Prs) (k : List Int) (b : Int × Int) : (putD l k b).map (·.1) = if k ∈ l.map (·.1) then l.map (·.1) else l.map (·.1) ++ [k] := by
  unfold putD
  by_cases h : (l.any fun p => decide (p.1 = k)) = true
  · rw [if_pos h, if_pos]
    · rw [List.map_map]
      refine List.map_congr_left fun p _ => ?_
      show (if p.1 = k then (p.1, b) else p).1 = p.1
      split <;> rfl
    · obtain ⟨p, h1, h2⟩ := List.any_eq_true.mp h
      exact List.mem_map.mpr ⟨p, h1, of_decide_eq_true h2⟩
  · rw [if_neg h, if_neg]
    · rw [List.map_append]; rfl
    · intro hm
      obtain ⟨p, h1, h2⟩ := List.mem_map.mp hm
      exact h (List.any_eq_true.mpr ⟨p, h1, decide_eq_true h2⟩)
theorem keysOk_put {l : Prs} {k : List Int} {b : Int × Int} (h : KeysOk (l.map (·.1))) (hk : k ∈ sets4) : KeysOk ((putD l k b).map (·.1)) := by
  rw [putD_keys]
  split
  · exact h
  · rename_i hn
    refine ⟨List.nodup_append.mpr ⟨h.1, by simp, fun a ha b hb e => hn ?_⟩, fun x hx => ?_⟩
    · rw [List.mem_singleton.mp hb] at e
      rw [← e]
      exact ha
    · rcases List.mem_append.mp hx with h1 | h1
      · exact h.2 x h1
      · rw [List.mem_singleton.mp h1]
        exact hk
theorem keysOk_sub {l m : Prs} (h : KeysOk (l.map (·.1))) (s : m.Sublist l) : KeysOk (m.map (·.1)) := ⟨(s.map _).nodup h.1, fun x hx => h.2 x ((s.map _).subset hx)⟩
theorem keysOk_rev {l : Prs} (h : KeysOk (l.map (·.1))) : KeysOk (l.reverse.map (·.1)) := by
  rw [List.map_reverse]
  exact ⟨(List.reverse_perm _).nodup_iff.mpr h.1, fun x hx => h.2 x (List.mem_reverse.mp hx)⟩
theorem setsN_sets4 {n : Nat} {s : List Int} (h : s ∈ setsN n) : s ∈ sets4 := (List.mem_filter.mp h).1
/-- a copy of a dict, new, not that one -/
def rpDN (H0 : Hp) (o : V) (l : Prs) : Rp := fun H v => ∃ p kvs, v = .ref p ∧ o ≠ v ∧ H p = some (.dT kvs) ∧ PD rpP H kvs l ∧ Nw H0 p
instance {T : Tb} (H0 : Hp) (o : V) (l : Prs) : Mn T (rpDN H0 o l) := ⟨fun e ⟨p, kvs, h1, h0, h2, h3, h4⟩ => ⟨p, kvs, h1, h0, e.dT h2, pdmono e h3, h4⟩⟩
section
variable {P : Program} {w : World} {K : PySem.W.Frag} {mg : Str → Option Value} {base : Heap} {T : Tb} {σ : L2.St} {H : Hp} {te ta tb tc td : TE} {D : Ends} {tz : TS}
theorem er_listD {l : Prs} (hd : Er T td σ H (rpD rpP l)) : Er T (tCB rListK (tCons td tNil)) σ H (rpL rpT (l.map (·.1))) :=
  er_cb (ea_1 hd) fun H1 vs _ ⟨v, ev, a, kvs, h1, h2, h3⟩ => fun Q q => ⟨a, kvs, by rw [ev, h1], Rd.of h2, fun p bs hp hk => q _ _ (Xt.new hp) ⟨p, _, rfl, upd_same, pmono (T := T) (Xt.new hp) (go h3 hk)⟩⟩
where
  go {H : Hp} : ∀ {kvs : List (List Key × V)} {l : Prs} {bs : List Addr}, PD rpP H kvs l → IsKeys H kvs bs → Paired (fun y x => rpT x H y) (bs.map V.ref) (l.map (·.1))
    | _, _, _, .nil, .nil => .nil
    | _, _, _, .cons h t, .cons h' t' => by
      rw [List.map_cons, List.map_cons]
      exact .cons ⟨_, rfl, by rw [h', h.1, kI_V]⟩ (go t t')
theorem ea_pn {α : Type} {F : α → Rp} : Ea T tNil σ H (fun H' vs => Paired (fun y x => F x H' y) vs ([] : List α)) := ea_nil.imp fun _ vs _ e => by rw [e]; exact .nil
theorem ea_pc {α : Type} {F : α → Rp} {x : α} {xs : List α} {tr : TA} [m : ∀ x, Mn T (F x)] (h : Er T te σ H (F x)) (hr : Ea T tr σ H (fun H' vs => Paired (fun y x => F x H' y) vs xs)) : Ea T (tCons te tr) σ H (fun H' vs => Paired (fun y x => F x H' y) vs (x :: xs)) :=
  (ea_cons h hr).imp fun H1 vs _ ⟨v, r, e1, e2, e3⟩ => by rw [e1]; exact .cons e2 e3
theorem er_lstP {α : Type} {F : α → Rp} {xs : List α} {tr : TA} [m : ∀ x, Mn T (F x)] (h : Ea T tr σ H (fun H' vs => Paired (fun y x => F x H' y) vs xs)) (hz : xs.length ≤ 100000) : Er T (tLst tr) σ H (rpL F xs) :=
  er_lst h (fun _ vs e => by rw [plen e]; exact hz) fun H1 vs p _ e hp => ⟨p, vs, rfl, upd_same, pmono (T := T) (Xt.new hp) e⟩
theorem er_case {a : List (List Int)} {b : Prs} (ha : Er T ta σ H (rpL rpT a)) (hb : Er T tb σ H (rpD rpP b)) : Er T (tTup (tCons ta (tCons tb tNil))) σ H (rpCase (a, b)) :=
  er_tup (ea_2 ha hb) (fun _ vs ⟨_, _, e, _⟩ => by rw [e]; show 2 ≤ 100000; decide) fun H1 vs p _ ⟨x, y, e, hx, hy⟩ hp => ⟨p, x, y, rfl, by rw [upd_same, e], Mn.mono (T := T) (Xt.new hp) hx, Mn.mono (T := T) (Xt.new hp) hy⟩
theorem er_dictN {l : Prs} {o : V} (ho : ∀ a, o = .ref a → ∃ xs, H a = some (.dT xs)) (hd : Er T td σ H (rpD rpP l)) (hk : KeysOk (l.map (·.1))) : Er T (tCB (rDictD HN4) (tCons td tNil)) σ H (rpDN H o l) :=
  er_cb (ea_1 hd) fun H1 vs e1 ⟨v, ev, a, kvs, h1, h2, h3⟩ => fun Q q => ⟨a, kvs, by rw [ev, h1], h2, ⟨_, pd_keys h3, hk⟩, fun p hp => q _ _ (Xt.new hp) ⟨p, kvs, rfl, fun (z : o = .ref p) => (by
    obtain ⟨xs, hx⟩ := ho p z
    rw [e1.dT hx] at hp
    cases hp), upd_same, pdmono (T := T) (Xt.new hp) h3, Nw.of e1 hp⟩⟩
theorem ea_2d {RA : Rp} {RB : V → Rp} [m : Mn T RA] (ha : Er T ta σ H RA) (hb : ∀ v H1, Xt T H H1 → RA H1 v → Er T tb σ H1 (RB v)) : Ea T (tCons ta (tCons tb tNil)) σ H (fun H' vs => ∃ v w, vs = [v, w] ∧ RA H' v ∧ RB v H' w) := fun H1 e Q q =>
  ha H1 e _ fun v H2 e2 hv => hb v H2 (e.trans e2) hv H2 (Xt.refl T H2) _ fun w H3 e3 hw => q [v, w] H3 (e2.trans e3) ⟨v, w, rfl, m.mono e3 hv, hw⟩
theorem ok_lcases {CK f : Addr} {fd : FuncData} (F : Fun K "_law_cases" "_law_cases" (topS 49) f fd) (m : mg "_law_cases" = some (.ref f)) (N : Nm mg) (KC : KeysC P w K mg base CK) (GP : Has P w K mg base 3 "_law_pick" ["_law_draw", "_law_things"] (Pm T 2 (prPick T K)))
    (GT : Has P w K mg base 2 "_law_take" ["_law_draw", "_law_many"] (Pm T 2 (prTake K))) (GS : Has P w K mg base 1 "_law_sets" ["_law_many"] (Pm T 1 prLSets)) : Has P w K mg base 4 "_law_cases" ["_law_draw", "_law_rows_here", "_law_found"] (Pm T 3 (prLCases K CK)) := by
  refine Has.of F m (F.binds fun _ _ _ _ _ _ us hl => match us, hl with | [_, _, _], _ => rfl) (F.ok scLCases (fun vs H Q E h => h.1) (fun cdv A outer s H vs Q E hr h => ?_))
  obtain ⟨_, R, ⟨vd, v, vf, ns, rows, n, ls, l, rfl, hd, hv, G, hf, hls, hk, rfl⟩, q⟩ := h
  obtain ⟨f1, fd1, G1, m1, k1, b1⟩ := GP
  obtain ⟨f2, fd2, G2, m2, k2, b2⟩ := GT
  obtain ⟨f3, fd3, G3, m3, k3, b3⟩ := GS
  have nd := scLCases.nd
  refine ⟨_, pss_cons (ps_par (i := 3) (j := 4) (by rfl) nd rfl rfl (by decide) rfl rfl (pa_cons (pe_fld (pv 2) rfl) (pa_cons (pe_fld (pv 2) rfl) pa_nil)) (by rfl))
    (pss_cons (ps_set (i := 5) nd rfl (Or.inl rfl) (pe_lst
      (pa_cons (pe_tup (pa_cons (pe_revL (pv 3)) (pa_cons (pe_callTy (r := rDictL) (cr_dictL rfl (u3 hr)) (by rfl) N.dict (by decide +kernel) (pa_cons (pe_revL (pe_callTy (r := rListIt) (cr_listIt rfl) (by rfl) N.list (by decide +kernel) (pa_cons (pe_bm0 PySem.F.plainAttrs_dict PySem.F.slot_dict_items PySem.F.type_dict_items DX.mt_itemsT (pv 4)) pa_nil))) pa_nil)) pa_nil)))
      (pa_cons (pe_tup (pa_cons (pe_slice sl_list (pv 3) (po_some pe_int) po_none) (pa_cons (pv 4) pa_nil)))
      (pa_cons (pe_tup (pa_cons (pe_op op_cat (pv 3) (pe_slice sl_list (pv 3) po_none (po_some pe_int))) (pa_cons (pv 4) pa_nil)))
      (pa_cons (pe_tup (pa_cons (pe_lst pa_nil) (pa_cons (pv 4) pa_nil)))
      (pa_cons (pe_tup (pa_cons (pv 3) (pa_cons pe_dnewT pa_nil))) pa_nil)))))))
    (pss_cons (ps_for PassesOwn.never rfl (pi_range1 (by rfl) N.range (pa_cons pe_int pa_nil)) (pg_name (i := 6) nd rfl (Or.inl rfl))
      (pss_cons (ps_par (i := 7) (j := 8) (by rfl) nd rfl rfl (by decide) rfl rfl (pa_cons (pe_callTy (r := rDictD HN4) (cr_dictD (hn4 P w) (u3 hr)) (by rfl) N.dict (by decide +kernel) (pa_cons (pv 4) pa_nil)) (pa_cons (pe_callTy (r := rDictD HN4) (cr_dictD (hn4 P w) (u3 hr)) (by rfl) N.dict (by decide +kernel) (pa_cons (pv 4) pa_nil)) pa_nil)) (by rfl))
      (pss_cons (ps_set (i := 9) nd rfl (Or.inl rfl) (pe_call G1 hr (by rfl) m1 k1 b1 .nil pass0 (pa_cons (pv 0) (pa_cons (pe_op op_cat (pe_callTy (r := rListK) (call_list_dT rfl) (by rfl) N.list (by decide +kernel) (pa_cons (pv 4) pa_nil))
        (pe_call G3 (hr.mono (by decide)) (by rfl) m3 k3 b3 .nil pass0 (pa_cons (pe_callB (r := rLn K) call_len_seq (by rfl) N.len (by decide +kernel) (pa_cons (pe_ix (r := rIxL K) ix_list (pv 1) pe_int (fun _ _ => rfl)) pa_nil)) pa_nil))) pa_nil))))
      (pss_cons (ps_dput (u1 hr) (pv 7) (pv 9) (pe_tup (pa_cons (pe_call G2 (hr.mono (by decide)) (by rfl) m2 k2 b2 .nil pass0 (pa_cons (pv 0) (pa_cons (pe_callB (r := rLn K) call_len_seq (by rfl) N.len (by decide +kernel) (pa_cons (pv 1) pa_nil)) pa_nil)))
        (pa_cons (pe_call G2 (hr.mono (by decide)) (by rfl) m2 k2 b2 .nil pass0 (pa_cons (pv 0) (pa_cons (pe_op op_add (pe_callB (r := rLn K) call_len_seq (by rfl) N.len (by decide +kernel) (pa_cons (pv 1) pa_nil)) pe_int) pa_nil))) pa_nil))) rfl)
      (pss_cons (ps_expr (pe_bm PySem.F.plainAttrs_dict PySem.F.slot_dict_pop PySem.F.type_dict_pop (DX.mt_popT (u1 hr)) (pv 8) (pa_cons (pv 9) (pa_cons pe_non pa_nil))))
      (pss_one (ps_set (i := 5) nd rfl (Or.inl rfl) (pe_op op_cat (pv 5) (pe_lst
        (pa_cons (pe_tup (pa_cons (pv 3) (pa_cons (pv 7) pa_nil)))
        (pa_cons (pe_tup (pa_cons (pv 3) (pa_cons (pv 8) pa_nil)))
        (pa_cons (pe_tup (pa_cons (pe_op op_cat (pv 3) (pe_lst (pa_cons (pv 9) pa_nil))) (pa_cons (pv 8) pa_nil)))
        (pa_cons (pe_tup (pa_cons (pe_op op_cat (pv 3) (pe_lst (pa_cons (pe_tup (pa_cons pe_int pa_nil)) pa_nil))) (pa_cons (pv 4) pa_nil))) pa_nil)))))))))))))
    (pss_one (ps_ret (pv 5))))), ?_⟩
  refine of_start (σ := [some vd, some v, some vf, none, none, none, none, none, none, none]) rfl ?_
  have n1 := G.w1
  have n4 := G.w4
  have h1 := G.some
  have h10 := G.few
  have hl16 : l.length ≤ 16 := by have := keysOk_len hk; rwa [List.length_map] at this
  have hD : ∀ {σ : L2.St} {H1 : Hp}, Xt T H H1 → σ[0]? = some (some vd) → Er T (tVar 0) σ H1 (rpDraw K ns) := fun e h => er_var (rpDraw K ns) h (Mn.mono e hd)
  have hV : ∀ {σ : L2.St} {H1 : Hp}, Xt T H H1 → σ[1]? = some (some v) → Er T (tVar 1) σ H1 (rpL rpT rows) := fun e h => er_var (rpL rpT rows) h (Mn.mono e hv)
  refine q_par (T := T) (ea_2 (er_least KC (er_var (rpKeys CK ls l) rfl hf)) (er_pairs KC (er_var (rpKeys CK ls l) rfl hf))) fun vs H1 e1 ⟨vs', vp, ev, hs, hp⟩ => ⟨vs', vp, ev, ?_⟩
  have hS : ∀ {σ : L2.St} {H2 : Hp}, Xt T H1 H2 → σ[3]? = some (some vs') → Er T (tVar 3) σ H2 (rpL rpT ls) := fun e h => er_var (rpL rpT ls) h (Mn.mono e hs)
  have hP : ∀ {σ : L2.St} {H2 : Hp}, Xt T H1 H2 → σ[4]? = some (some vp) → Er T (tVar 4) σ H2 (rpD rpP l) := fun e h => er_var (rpD rpP l) h (Mn.mono e hp)
  refine q_asg (T := T) (R := rpL rpCase [(ls.reverse, l.reverse), (ls.drop 1, l), (ls ++ ls.take 1, l), ([], l), (ls, [])]) (er_lstP (ea_pc (er_case (er_rev (F := rpT) (hS (Xt.refl T H1) rfl)) (er_dictL (R := rpP) (er_rev (F := rpPr rpP) (er_listIt (R := rpP) (hP (Xt.refl T H1) rfl))) (keysOk_rev hk).1 (by rw [List.length_reverse]; omega)))
    (ea_pc (er_case (er_slDrop (F := rpT) (k := 1) (hS (Xt.refl T H1) rfl) er_c) (hP (Xt.refl T H1) rfl))
    (ea_pc (er_case (er_cat (F := rpT) (hS (Xt.refl T H1) rfl) (er_slTake (F := rpT) (k := 1) (hS (Xt.refl T H1) rfl) er_c) (by rw [List.length_take]; omega)) (hP (Xt.refl T H1) rfl))
    (ea_pc (er_case (er_nil (F := rpT)) (hP (Xt.refl T H1) rfl))
    (ea_pc (er_case (hS (Xt.refl T H1) rfl) (er_dnew (R := rpP))) ea_pn))))) (by show 5 ≤ 100000; decide)) fun vc H2 e2 hc => ?_
  have e12 := e1.trans e2
  refine q_forR (T := T) (n := 3) (by omega) ((ea_1 (R := rpN 3) er_c).imp fun H3 vs _ ⟨a, e1, e2⟩ => by rw [e1, show a = V.int _ from e2]; rfl)
    (fun i σ' H' => Xt T H2 H' ∧ ∃ z6 z7 z8 z9 vc cs, σ' = [some vd, some v, some vf, some vs', some vp, some vc, z6, z7, z8, z9] ∧ rpL rpCase cs H' vc ∧ cs.length ≤ 5 + 4 * i ∧ ∀ q ∈ cs, CaseOk q)
    (fun H3 e3 => ⟨e3, none, none, none, none, vc, _, rfl, Mn.mono e3 hc, Nat.le_refl 5, fun q hq => ?_⟩) (fun i σ' H3 hi I => ?_) (fun σ' H3 I => ?_)
  · simp only [List.mem_cons, List.not_mem_nil, or_false] at hq
    rcases hq with rfl | rfl | rfl | rfl | rfl
    · exact ⟨by show ls.reverse.length ≤ 60; rw [List.length_reverse]; omega, keysOk_rev hk⟩
    · exact ⟨by show (ls.drop 1).length ≤ 60; rw [List.length_drop]; omega, hk⟩
    · exact ⟨by show (ls ++ ls.take 1).length ≤ 60; rw [List.length_append, List.length_take]; omega, hk⟩
    · exact ⟨Nat.zero_le _, hk⟩
    · exact ⟨by show ls.length ≤ 60; omega, List.nodup_nil, fun k hk => by cases hk⟩
  · obtain ⟨eX, z6, z7, z8, z9, vc, cs, rfl, hc, hcl, hco⟩ := I
    have eo := e2.trans eX
    have e03 := e1.trans eo
    refine q_par (T := T) (ea_2d (RA := rpDN H3 .non l) (RB := fun v => rpDN H3 v l) (er_dictN (fun _ z => by cases z) (hP eo rfl) hk) fun v1 H4 e4 ⟨p, kvs, ep, _, hpd, _, _⟩ => (er_dictN (o := v1) (fun a z => ⟨kvs, by rw [ep] at z; cases z; exact hpd⟩) (hP (eo.trans e4) rfl) hk).imp fun H5 u e5 ⟨p', kvs', a1, a2, a3, a4, a5⟩ => ⟨p', kvs', a1, a2, a3, a4, fun u hu => ?_⟩) fun vs H4 e4 ⟨x7, x8, ev4, ⟨p7, kv7, ep7, _, h7, g7, nw7⟩, ⟨p8, kv8, ep8, ne78, h8, g8, nw8⟩⟩ => ⟨x7, x8, ev4, ?_⟩
    · cases hH : H4 p' with
      | some u' => 
        obtain ⟨ps, hps⟩ := a5 u' hH
        by_cases hps' : ∃ ps, u = .tbl ps
        · exact hps'
        · exact absurd (e4.at_ hu fun ps z => hps' ⟨ps, z⟩) (fun h => hps' ⟨ps, by rw [hH, hps] at h; exact (Option.some.inj h).symm⟩)
      | none =>
        by_cases hps' : ∃ ps, u = .tbl ps
        · exact hps'
        · have := e4.at_ hu fun ps z => hps' ⟨ps, z⟩
          rw [hH] at this
          cases this
    subst ep7 ep8
    have n78 : p8 ≠ p7 := fun z => ne78 (by rw [z])
    refine q_asg (T := T) (R := rpE (· ∈ l.map (·.1) ++ setsN n) rpT) (er_pick (l := l.map (·.1) ++ setsN n) ?_ (hD (e03.trans e4) rfl) (er_cat (F := rpT) (er_listD (hP (eo.trans e4) rfl)) (er_lsets (er_len0 G (hV (e03.trans e4) rfl)) ⟨n1, n4⟩) ?_)) fun vk H5 e5 ⟨k, hkm, hvk⟩ => ?_
    · rw [List.length_append]
      have h7 : [] ∈ setsN n := setsN_mem.mpr ⟨by decide, fun x hx => by simp at hx⟩
      have := List.length_pos_of_mem h7
      omega
    · have := setsN_len n
      rw [List.length_map]
      omega
    have hk4 : k ∈ sets4 := by
      rcases List.mem_append.mp hkm with h | h
      · exact hk.2 k h
      · exact setsN_sets4 h
    have e45 := e4.trans e5
    have l7 : kv7.length ≤ 16 := by rw [plen g7]; exact hl16
    have l8 : kv8.length ≤ 16 := by rw [plen g8]; exact hl16
    have h75 := e5.dT h7
    refine q_dput (T := T) (R := rpE (fun _ : Int × Int => True) rpP) (k := k) rfl h75 (by omega) ((er_tup (R := rpE (fun _ : Int × Int => True) rpP) (ea_2 (er_take (m := (rows.length : Int)) (by omega) (hD (e03.trans e45) rfl) (er_lenL (hV (e03.trans e45) rfl))) (er_take (m := (rows.length : Int) + 1) (by omega) (hD (e03.trans e45) rfl) (er_N0 (g := fun i j => .int (i + j)) (i := (rows.length : Int)) (j := 1) (er_lenL (hV (e03.trans e45) rfl)) er_c)))
      (fun _ vs ⟨_, _, e, _⟩ => by rw [e]; show 2 ≤ 100000; decide) fun H6 vs p _ ⟨a, b, e6, ⟨i, _, ea⟩, ⟨j, _, eb⟩⟩ hp => ⟨(i, j), True.intro, p, rfl, by rw [upd_same, e6, ea, eb]; rfl⟩)) (er_var (rpT k) rfl hvk) fun vt H6 e6 ⟨ij, _, hij⟩ => ?_
    have h76 := e6.dT h75
    have e46 := e5.trans e6
    have x6 : Xt T H3 (upd H6 p7 (.dT (putK kv7 (kI k) vt))) := (e4.trans e46).mutW nw7 h76 True.intro
    have h86 : upd H6 p7 (.dT (putK kv7 (kI k) vt)) p8 = some (.dT kv8) := by rw [upd_ne n78]; exact e46.dT h8
    have g76 : PD rpP (upd H6 p7 (.dT (putK kv7 (kI k) vt))) (putK kv7 (kI k) vt) (putD l k ij) := pd_put (R := rpP) (pdflat h76 (fun _ z => by cases z) (pdmono e46 g7)) (Ft.flat hij h76 fun _ z => by cases z)
    have g86 : PD rpP (upd H6 p7 (.dT (putK kv7 (kI k) vt))) kv8 l := pdflat h76 (fun _ z => by cases z) (pdmono e46 g8)
    have hk6 : rpT k (upd H6 p7 (.dT (putK kv7 (kI k) vt))) vk := Ft.flat (Mn.mono e6 hvk) h76 fun _ z => by cases z
    have h776 : upd H6 p7 (.dT (putK kv7 (kI k) vt)) p7 = some (.dT (putK kv7 (kI k) vt)) := upd_same
    generalize upd H6 p7 (.dT (putK kv7 (kI k) vt)) = H7 at x6 h86 g76 g86 hk6 h776 ⊢
    refine q_dpop (T := T) (k := k) rfl h86 (er_var (rpT k) rfl hk6) fun H8 e8 => ?_
    have h88 := e8.dT h86
    have x8 : Xt T H3 (upd H8 p8 (.dT (dropK kv8 (kI k)))) := (x6.trans e8).mutW nw8 h88 True.intro
    have d8 : rpD rpP (dropD l k) (upd H8 p8 (.dT (dropK kv8 (kI k)))) (.ref p8) := ⟨p8, _, rfl, upd_same, pd_drop (R := rpP) (pdflat h88 (fun _ z => by cases z) (pdmono e8 g86))⟩
    have d7 : rpD rpP (putD l k ij) (upd H8 p8 (.dT (dropK kv8 (kI k)))) (.ref p7) := ⟨p7, _, rfl, by rw [upd_ne n78.symm]; exact e8.dT h776, pdflat h88 (fun _ z => by cases z) (pdmono e8 g76)⟩
    have hk8 : rpT k (upd H8 p8 (.dT (dropK kv8 (kI k)))) vk := Ft.flat (Mn.mono e8 hk6) h88 fun _ z => by cases z
    generalize upd H8 p8 (.dT (dropK kv8 (kI k))) = H9 at x8 d8 d7 hk8 ⊢
    have eo9 := eo.trans x8
    refine s_asg (T := T) (R := rpL rpCase (cs ++ [(ls, putD l k ij), (ls, dropD l k), (ls ++ [k], dropD l k), (ls ++ [[9]], l)])) (er_cat (F := rpCase) (er_var (rpL rpCase cs) rfl (Mn.mono x8 hc)) (er_lstP (ea_pc (er_case (hS eo9 rfl) (er_var (rpD rpP (putD l k ij)) rfl d7))
      (ea_pc (er_case (hS eo9 rfl) (er_var (rpD rpP (dropD l k)) rfl d8))
      (ea_pc (er_case (er_cat (F := rpT) (hS eo9 rfl) (er_lstP (F := rpT) (xs := [k]) (ea_pc (er_var (rpT k) rfl hk8) ea_pn) (by show 1 ≤ 100000; decide)) (by show _ + 1 ≤ 100000; omega)) (er_var (rpD rpP (dropD l k)) rfl d8))
      (ea_pc (er_case (er_cat (F := rpT) (hS eo9 rfl) (er_lstP (F := rpT) (xs := [[9]]) (ea_pc (er_tupI (ns := [9]) (ea_c (ns := []) ea_nil) (by show 1 ≤ 100000; decide)) ea_pn) (by show 1 ≤ 100000; decide)) (by show _ + 1 ≤ 100000; omega)) (hP eo9 rfl)) ea_pn)))) (by show 4 ≤ 100000; decide)) (by show _ + 4 ≤ 100000; omega)) fun u H10 e10 hu => ?_
    refine ⟨eX.trans (x8.trans e10), _, _, _, _, u, _, rfl, hu, by rw [List.length_append]; show _ + 4 ≤ _; omega, fun q hq => ?_⟩
    rcases List.mem_append.mp hq with h | h
    · exact hco q h
    · simp only [List.mem_cons, List.not_mem_nil, or_false] at h
      rcases h with rfl | rfl | rfl | rfl
      · exact ⟨by show ls.length ≤ 60; omega, keysOk_put hk hk4⟩
      · exact ⟨by show ls.length ≤ 60; omega, keysOk_sub hk List.filter_sublist⟩
      · exact ⟨by show (ls ++ [k]).length ≤ 60; rw [List.length_append]; show _ + 1 ≤ 60; omega, keysOk_sub hk List.filter_sublist⟩
      · exact ⟨by show (ls ++ [[9]]).length ≤ 60; rw [List.length_append]; show _ + 1 ≤ 60; omega, hk⟩
  · obtain ⟨eX, z6, z7, z8, z9, vc, cs, rfl, hc, hcl, hco⟩ := I
    exact s_ret (T := T) (er_var (rpL rpCase cs) rfl hc) fun u H4 e4 hu => q u H4 ((e12.trans eX).trans e4) ⟨cs, hco, hu⟩
end
end K8
set_option maxHeartbeats 4000000
namespace K8
theorem range_getD {α : Type} (l : List α) (d : α) : (List.range l.length).map (fun i => l.getD i d) = l := by
  apply List.ext_getElem?
  intro i
  rw [List.getElem?_map]
  rcases Nat.lt_or_ge i l.length with h | h
  · rw [List.getElem?_range h]
    show some (l.getD i d) = _
    rw [List.getD_eq_getElem?_getD, List.getElem?_eq_getElem h]
    rfl
  · rw [List.getElem?_eq_none h, List.getElem?_eq_none (by rw [List.length_range]; exact h)]
    rfl
/-- the groups kin to a column, as the law picks them -/
def lawMine (rows gs : List (List Int)) (p : Int) : List (List Int) := gs.filter fun g => told rows (g.take 1) [p] && told rows [p] (g.take 1)
theorem mine_eq {rows gs : List (List Int)} {p : Int} (hne : ∀ g ∈ gs, g ≠ []) : lawMine rows gs p = (mineIx rows gs p).map fun k => gs.getD k.toNat [] := by
  have h1 : lawMine rows gs p = gs.filter fun g => both rows (g.headD 0) p := List.filter_congr fun g hg => by
    cases g with
    | nil => exact absurd rfl (hne _ hg)
    | cons c t => rfl
  rw [h1]
  unfold mineIx
  rw [List.map_map]
  conv => lhs; rw [← range_getD gs []]
  rw [List.filter_map]
  rfl
def sumR (D : Nat → Bool) (xs : List Int) : Nat → Int
  | 0 => 0
  | n + 1 => sumR D xs n + if D n = true then xs.getD n 0 else 0
theorem sumR_eq (D : Nat → Bool) (xs : List Int) : ∀ n, (((List.range n).filter D).map fun i => xs.getD i 0).sum = sumR D xs n
  | 0 => rfl
  | n + 1 => by
    rw [List.range_succ, List.filter_append, List.map_append, List.sum_append, sumR_eq D xs n]
    show _ = sumR D xs n + _
    by_cases h : D n = true
    · rw [if_pos h, List.filter_cons_of_pos h]
      simp
    · rw [if_neg h, List.filter_cons_of_neg h]
      simp
theorem sumR_ge {D : Nat → Bool} {xs : List Int} {h : Nat} {v : Int} : ∀ {n : Nat}, n ≤ h → sumR D (xs.set h v) n = sumR D xs n
  | 0, _ => rfl
  | n + 1, e => by
    show sumR D (xs.set h v) n + _ = sumR D xs n + _
    rw [sumR_ge (Nat.le_of_succ_le e)]
    have e2 : (xs.set h v).getD n 0 = xs.getD n 0 := by rw [List.getD_eq_getElem?_getD, List.getD_eq_getElem?_getD, List.getElem?_set_ne (by omega)]
    rw [e2]
theorem sumR_set {D : Nat → Bool} {xs : List Int} {h : Nat} {v : Int} (hl : h < xs.length) (hz : xs.getD h 0 = 0) : ∀ {n : Nat}, h < n → sumR D (xs.set h v) n = sumR D xs n + if D h = true then v else 0
  | n + 1, e => by
    show sumR D (xs.set h v) n + _ = sumR D xs n + _ + _
    rcases Nat.lt_or_ge h n with h1 | h1
    · rw [sumR_set hl hz h1]
      have e2 : (xs.set h v).getD n 0 = xs.getD n 0 := by rw [List.getD_eq_getElem?_getD, List.getD_eq_getElem?_getD, List.getElem?_set_ne (by omega)]
      rw [e2]
      omega
    · have e3 : h = n := by omega
      subst e3
      rw [sumR_ge (Nat.le_refl _)]
      have e2 : (xs.set h v).getD h 0 = v := by rw [List.getD_eq_getElem?_getD, List.getElem?_set_self hl]; rfl
      rw [e2, hz]
      split <;> omega
/-- over groups -/
def sumG (D : Nat → Bool) (ps : List Int) : List (List Int) → Int
  | [] => 0
  | g :: gs => (if D (g.headD 0).toNat = true then priceOf ps g else 0) + sumG D ps gs
theorem merge_sum {D : Nat → Bool} {ps : List Int} {n : Nat} : ∀ {gs : List (List Int)} {acc : List Int}, gs.flatten.Nodup → (∀ g ∈ gs, g ≠ []) → (∀ g ∈ gs, ∀ c ∈ g, 0 ≤ c ∧ c < (n : Int)) → acc.length = n → (∀ g ∈ gs, ∀ c ∈ g, acc.getD c.toNat 0 = 0) →
    sumR D (mergeTo ps gs acc) n = sumR D acc n + sumG D ps gs
  | [], acc, _, _, _, _, _ => by
    show sumR D acc n = sumR D acc n + 0
    omega
  | [] :: _, _, _, h2, _, _, _ => absurd rfl (h2 _ List.mem_cons_self)
  | (c0 :: g) :: gs, acc, h1, h2, h3, h4, h5 => by
    have b0 := h3 _ List.mem_cons_self c0 List.mem_cons_self
    rw [List.flatten_cons] at h1
    obtain ⟨n1, n2, n3⟩ := List.nodup_append.mp h1
    show sumR D (mergeTo ps gs (acc.set c0.toNat (priceOf ps (c0 :: g)))) n = sumR D acc n + ((if D c0.toNat = true then priceOf ps (c0 :: g) else 0) + sumG D ps gs)
    rw [merge_sum (gs := gs) n2 (fun g hg => h2 g (List.mem_cons_of_mem _ hg)) (fun g hg => h3 g (List.mem_cons_of_mem _ hg)) (by rw [List.length_set]; exact h4) fun g' hg c hc => ?_]
    · rw [sumR_set (by omega) (h5 _ List.mem_cons_self c0 List.mem_cons_self) (by omega)]
      omega
    · have hb := h3 g' (List.mem_cons_of_mem _ hg) c hc
      have hne : c0 ≠ c := n3 c0 List.mem_cons_self c (List.mem_flatten.mpr ⟨g', hg, hc⟩)
      have := h5 g' (List.mem_cons_of_mem _ hg) c hc
      rw [List.getD_eq_getElem?_getD] at this ⊢
      rw [List.getElem?_set_ne (by omega)]
      exact this
theorem kin_flat (rows : List (List Int)) : ∀ n, (kinTo rows n).flatten.Perm (evy n)
  | 0 => by
    show ([] : List (List Int)).flatten.Perm (evy 0)
    exact List.Perm.refl _
  | n + 1 => by
    have ih := kin_flat rows n
    rw [evy_succ]
    refine List.Perm.trans ?_ (ih.append_right _)
    show (kinStep rows (kinTo rows n) n).flatten.Perm _
    unfold kinStep
    cases hm : mineIx rows (kinTo rows n) n with
    | nil =>
      show (kinTo rows n ++ [[(n : Int)]]).flatten.Perm _
      rw [List.flatten_append]
      exact List.Perm.refl _
    | cons k r =>
      obtain ⟨j, e, hj, _⟩ := mine_lt (show k ∈ mineIx rows (kinTo rows n) n by rw [hm]; exact List.mem_cons_self)
      subst e
      show ((kinTo rows n).set ((j : Int).toNat) ((kinTo rows n).getD ((j : Int).toNat) [] ++ [(n : Int)])).flatten.Perm _
      rw [Int.toNat_natCast]
      exact set_flat _ _ hj
where
  set_flat (x : Int) : ∀ (gs : List (List Int)) {j : Nat}, j < gs.length → (gs.set j (gs.getD j [] ++ [x])).flatten.Perm (gs.flatten ++ [x])
    | [], _, h => by simp at h
    | g :: gs, 0, _ => by
      show (g ++ [x] ++ gs.flatten).Perm (g ++ gs.flatten ++ [x])
      rw [List.append_assoc, List.append_assoc]
      exact List.Perm.append_left g List.perm_append_comm
    | g :: gs, j + 1, h => by
      show (g ++ (gs.set j (gs.getD j [] ++ [x])).flatten).Perm (g ++ gs.flatten ++ [x])
      rw [List.append_assoc]
      exact List.Perm.append_left g (set_flat x gs (by simpa using h))
theorem both_refl (rows : List (List Int)) (a : Int) : both rows a a = true := by
  have : told rows [a] [a] = true := decide_eq_true fun _ _ _ _ e => e
  unfold both
  rw [this]
  rfl
theorem kin_both (rows : List (List Int)) : ∀ n, ∀ g ∈ kinTo rows n, ∀ c ∈ g, both rows (g.headD 0) c = true
  | 0, g, h => absurd h (by show ¬ g ∈ ([] : List (List Int)); simp)
  | n + 1, g, h => by
    have ih := kin_both rows n
    have gp := gps_to rows n
    change g ∈ kinStep rows (kinTo rows n) n at h
    unfold kinStep at h
    cases hm : mineIx rows (kinTo rows n) n with
    | nil =>
      rw [hm] at h
      change g ∈ kinTo rows n ++ [[(n : Int)]] at h
      rcases List.mem_append.mp h with h | h
      · exact ih g h
      · rw [List.mem_singleton.mp h]
        intro c hc
        rw [List.mem_singleton.mp hc]
        exact both_refl _ _
    | cons k r =>
      obtain ⟨j, e, hj, hb⟩ := mine_lt (show k ∈ mineIx rows (kinTo rows n) n by rw [hm]; exact List.mem_cons_self)
      subst e
      rw [hm] at h
      change g ∈ (kinTo rows n).set ((j : Int).toNat) ((kinTo rows n).getD ((j : Int).toNat) [] ++ [(n : Int)]) at h
      rw [Int.toNat_natCast] at h
      rcases mem_set_or h with h | h
      · have hg : (kinTo rows n).getD j [] ∈ kinTo rows n := by
          rw [List.getD_eq_getElem?_getD, List.getElem?_eq_getElem hj]
          exact List.getElem_mem hj
        have hne := gp.ne _ hg
        have ihg := ih _ hg
        generalize (kinTo rows n).getD j [] = g0 at h hb hne ihg
        subst h
        cases g0 with
        | nil => exact absurd rfl hne
        | cons c0 t =>
          intro c hc
          rcases List.mem_append.mp hc with hc | hc
          · exact ihg c hc
          · rw [List.mem_singleton.mp hc]
            exact hb
      · exact ih g h
theorem told1 {rows : List (List Int)} {a b : Int} (h : told rows [a] [b] = true) {r s : List Int} (hr : r ∈ rows) (hs : s ∈ rows) (e : r.getD a.toNat 0 = s.getD a.toNat 0) : r.getD b.toNat 0 = s.getD b.toNat 0 := by
  have h1 : ToldP rows [a] [b] := of_decide_eq_true h
  have h2 := h1 r hr s hs (by show [r.getD a.toNat 0] = [s.getD a.toNat 0]; rw [e])
  have h3 : [r.getD b.toNat 0] = [s.getD b.toNat 0] := h2
  injection h3
theorem sum_perm {a b : List Int} (h : a.Perm b) : a.sum = b.sum := by
  induction h with
  | nil => rfl
  | cons x _ ih => rw [List.sum_cons, List.sum_cons, ih]
  | swap x y l => rw [List.sum_cons, List.sum_cons, List.sum_cons, List.sum_cons]; omega
  | trans _ _ h1 h2 => exact h1.trans h2
theorem sumG_flat {D : Nat → Bool} {ps : List Int} : ∀ {gs : List (List Int)}, (∀ g ∈ gs, ∀ c ∈ g, D c.toNat = D (g.headD 0).toNat) → sumG D ps gs = (gs.flatten.map fun c => if D c.toNat = true then ps.getD c.toNat 0 else 0).sum
  | [], _ => rfl
  | g :: gs, h => by
    show (if D (g.headD 0).toNat = true then priceOf ps g else 0) + sumG D ps gs = _
    rw [sumG_flat (gs := gs) fun g hg => h g (List.mem_cons_of_mem _ hg), List.flatten_cons, List.map_append, List.sum_append]
    congr 1
    have hg := h g List.mem_cons_self
    unfold priceOf
    by_cases hd : D (g.headD 0).toNat = true
    · rw [if_pos hd]
      congr 1
      exact List.map_congr_left fun c hc => by rw [if_pos ((hg c hc).trans hd)]
    · rw [if_neg hd]
      have e : g.map (fun c => if D c.toNat = true then ps.getD c.toNat 0 else 0) = g.map fun _ => (0 : Int) := List.map_congr_left fun c hc => by rw [if_neg (by rw [hg c hc]; exact hd)]
      rw [e]
      exact (zeros g).symm
where
  zeros : ∀ g : List Int, (g.map fun _ => (0 : Int)).sum = 0
    | [] => rfl
    | _ :: g => by
      rw [List.map_cons, List.sum_cons, zeros g]
      rfl
theorem sumR_evy (D : Nat → Bool) (ps : List Int) : ∀ n, sumR D ps n = ((evy n).map fun c => if D c.toNat = true then ps.getD c.toNat 0 else 0).sum
  | 0 => rfl
  | n + 1 => by
    rw [evy_succ, List.map_append, List.sum_append, ← sumR_evy D ps n]
    show sumR D ps n + _ = sumR D ps n + ([if D ((n : Int).toNat) = true then ps.getD ((n : Int).toNat) 0 else 0].sum)
    rw [Int.toNat_natCast]
    simp
theorem evy_nodup (n : Nat) : (evy n).Nodup := by
  unfold evy
  rw [List.nodup_iff_pairwise_ne, List.pairwise_map]
  exact (List.nodup_iff_pairwise_ne.mp List.nodup_range).imp fun h e => h (by omega)
theorem sumR_zero (D : Nat → Bool) (m : Nat) : ∀ n, sumR D (List.replicate m 0) n = 0
  | 0 => rfl
  | n + 1 => by
    show sumR D (List.replicate m 0) n + _ = 0
    rw [sumR_zero D m n]
    have : (List.replicate m (0 : Int)).getD n 0 = 0 := by
      rw [List.getD_eq_getElem?_getD, List.getElem?_replicate]
      split <;> rfl
    rw [this]
    split <;> rfl
/-- the merged prices tell the same wherever kin columns agree -/
theorem merged_sum {rows : List (List Int)} {n : Nat} {ps : List Int} {D : Nat → Bool} (hD : ∀ g ∈ kinTo rows n, ∀ c ∈ g, D c.toNat = D (g.headD 0).toNat) : sumR D (mergedP rows n ps) n = sumR D ps n := by
  have gp := gps_to rows n
  have hf := kin_flat rows n
  unfold mergedP
  rw [merge_sum (hf.nodup_iff.mpr (evy_nodup n)) gp.ne gp.col List.length_replicate fun g hg c hc => ?_, sumR_zero, sumG_flat hD, sumR_evy, sum_perm (hf.map _)]
  · omega
  · rw [List.getD_eq_getElem?_getD, List.getElem?_replicate]
    split <;> rfl
theorem sum_sumR (xs : List Int) : xs.sum = sumR (fun _ => true) xs xs.length := by
  rw [← sumR_eq]
  have : (List.range xs.length).filter (fun _ => true) = List.range xs.length := List.filter_eq_self.mpr fun _ _ => rfl
  rw [this, range_getD]
theorem cost_merged {rows late : List (List Int)} {n : Nat} {ps : List Int} (hp : ps.length = n) (hl : ∀ r ∈ late, r ∈ rows) : costL late (mergedP rows n ps) n = costL late ps n := by
  unfold costL
  have go : ∀ k, k ≤ late.length - 1 → costTo late (mergedP rows n ps) n k = costTo late ps n k := by
    intro k
    induction k with
    | zero =>
      intro _
      show (mergedP rows n ps).sum = ps.sum
      have lm : (mergedP rows n ps).length = n := by unfold mergedP; rw [mergeTo_len, List.length_replicate]
      rw [sum_sumR, sum_sumR, lm, hp]
      exact merged_sum fun _ _ _ _ => rfl
    | succ k ih =>
      intro hk
      show costTo late (mergedP rows n ps) n k + (diffC _ _ (mergedP rows n ps) n).sum = costTo late ps n k + (diffC _ _ ps n).sum
      rw [ih (by omega)]
      congr 1
      have m1 : late.getD k [] ∈ rows := hl _ (by rw [List.getD_eq_getElem?_getD, List.getElem?_eq_getElem (by omega)]; exact List.getElem_mem _)
      have m2 : late.getD (k + 1) [] ∈ rows := hl _ (by rw [List.getD_eq_getElem?_getD, List.getElem?_eq_getElem (by omega)]; exact List.getElem_mem _)
      unfold diffC
      rw [sumR_eq, sumR_eq]
      refine merged_sum fun g hg c hc => ?_
      have hb := kin_both rows n g hg c hc
      unfold both at hb
      obtain ⟨b1, b2⟩ := Bool.and_eq_true_iff.mp hb
      show (!decide _) = !decide _
      congr 1
      exact decide_eq_decide.mpr ⟨fun e => told1 b2 m1 m2 e, fun e => told1 b1 m1 m2 e⟩
  exact go _ (Nat.le_refl _)
theorem runs_le {rows late : List (List Int)} {a b : Int} (hl : ∀ r ∈ late, r ∈ rows) (h : told rows [b] [a] = true) : (runMarks (late.map fun r => r.getD a.toNat 0)).length ≤ (runMarks (late.map fun r => r.getD b.toNat 0)).length := by
  unfold runMarks
  rw [List.length_map, List.length_map, ← List.countP_eq_length_filter, ← List.countP_eq_length_filter]
  refine List.countP_mono_left fun i hi hp => ?_
  obtain ⟨k, hk, rfl⟩ := evy_mem hi
  by_cases hz : (k : Int) = 0
  · rw [decide_eq_true hz]
    rfl
  · rw [decide_eq_false hz, Bool.false_or] at hp ⊢
    have e1 : ((k : Int) - 1).toNat = k - 1 := by omega
    rw [e1, Int.toNat_natCast] at hp ⊢
    have gd : ∀ (f : List Int → Int) {j : Nat} (hj : j < late.length), (late.map f).getD j 0 = f late[j] := fun f j hj => by
      rw [List.getD_eq_getElem?_getD, List.getElem?_map, List.getElem?_eq_getElem hj]
      rfl
    have hk1 : k - 1 < late.length := by omega
    rw [gd _ hk, gd _ hk1] at hp ⊢
    by_cases e : (late[k]).getD b.toNat 0 = (late[k - 1]).getD b.toNat 0
    · have e2 := told1 h (hl _ (List.getElem_mem hk)) (hl _ (List.getElem_mem hk1)) e
      rw [decide_eq_true e2] at hp
      cases hp
    · rw [decide_eq_false e]
      rfl
end K8
set_option maxHeartbeats 4000000
namespace K8
open PySem L2 PySem.Spec PyProof.Rows
def prLRight (K : PySem.W.Frag) : List V → Hp → Rp → Prop := fun vs H R => ∃ vd v ns rows n, vs = [vd, v] ∧ rpDraw K ns H vd ∧ rpL rpT rows H v ∧ Good rows n ∧ R = rpV (.bl true)
abbrev nsLRight : List Str := ["_law_draw", "_law_rows_here", "_law_table", "_law_width", "_law_one", "_law_other", "_law_is_less", "_law_groups_now", "_law_place", "_law_mine", "_law_prices_here", "_law_merged", "_law_order_here", "_law_late", "_law_counts", "_law_some", "_law_index", "_law_row"]
theorem scLRight : FnScope nsLRight ["_law_draw", "_law_rows_here"] (defScope (topS 50)) := ⟨rfl, rfl, rfl, by decide +kernel, rfl, by decide +kernel, by decide +kernel⟩
section
variable {P : Program} {w : World} {K : PySem.W.Frag} {mg : Str → Option Value} {base : Heap} {T : Tb} {σ : L2.St} {H : Hp} {te ta tb tc td tx : TE} {D : Ends} {tz : TS} {C : Addr}
/-- x[:k], the k not told -/
theorem er_slTakeE {α : Type} {F : α → Rp} {l : List α} {P : Int → Prop} [m : ∀ x, Mn T (F x)] (h : Er T te σ H (rpL F l)) (hk : Er T tx σ H (rpI P)) (hP : ∀ i, P i → 0 ≤ i) : Er T (tSl (rSlL K) te tNoPart (tPart tx)) σ H (rpE (fun l' => ∃ k, l' = l.take k) (rpL F)) := fun H0 e Q q =>
  h H0 e _ fun v H1 e1 ⟨a, ys, k1, k2, k3⟩ => eo_none H1 (e.trans e1) _ fun H2 e2 => hk H2 ((e.trans e1).trans e2) _ fun w H3 e3 ⟨i, pi, ew⟩ => by
    obtain ⟨k, rfl⟩ : ∃ k : Nat, i = (k : Int) := ⟨i.toNat, by have := hP i pi; omega⟩
    exact ⟨_, ew, a, ys, k1, SqL.of ((e2.trans e3).lst k2), fun p hp' => q _ _ (((e1.trans e2).trans e3).trans (Xt.new hp')) ⟨l.take k, ⟨k, rfl⟩, p, ys.take k, rfl, by rw [upd_same, cut_take], ptake k (pimp k3 fun y x z => (m x).mono ((e2.trans e3).trans (Xt.new hp')) z)⟩⟩
/-- x.index(e), the first place told -/
theorem er_indexT {l : List (List Int)} {s : List Int} {j : Nat} (h : Er T te σ H (rpL rpT l)) (hs : Er T tx σ H (rpT s)) (hj : l[j]? = some s) (hno : ∀ m, m < j → l[m]? ≠ some s) : Er T (tBM K "list" (rIndexD K) te (tCons tx tNil)) σ H (rpN (j : Int)) := fun H0 e Q q =>
  h H0 e _ fun v H1 e1 hv => by
    obtain ⟨a, ys, k1, k2, k3⟩ := id hv
    refine ⟨by rw [k1]; exact .inl ⟨rfl, ys, SqL.of k2⟩, hs H1 (e.trans e1) _ fun u H2 e2 hu => ⟨a, u, dT s, l.map dT, j, dT s, k1, rfl, by rw [← k1]; exact dpL (Mn.mono e2 hv), dpT hu, shL l, shT s, by rw [List.getElem?_map, hj]; rfl, by rw [eqvT]; exact decide_eq_true rfl, fun m z' hm hz => ?_, q _ H2 (e1.trans e2) rfl⟩⟩
    rw [List.getElem?_map] at hz
    cases hx : l[m]? with
    | none => rw [hx] at hz; cases hz
    | some x =>
      rw [hx] at hz
      cases hz
      rw [eqvT]
      exact decide_eq_false fun e => hno m hm (by rw [hx, e])
theorem er_lenE {α : Type} {F : α → Rp} {k : Nat} (h : Er T te σ H (rpE (fun l => l.length = k) (rpL F))) : Er T (tCB (rLn K) (tCons te tNil)) σ H (rpN (k : Int)) :=
  er_cb (ea_1 h) fun H1 vs _ ⟨v, ev, l, hl, a, ys, e1, e2, e3⟩ => fun Q q => ⟨a, ys, by rw [ev, e1], .inl (SqL.of e2), q _ H1 (Xt.refl T H1) (by rw [plen e3, hl]; rfl)⟩
theorem mine_first {rows gs : List (List Int)} {p : Int} {j : Nat} {r : List Int} (h : mineIx rows gs p = (j : Int) :: r) (hj : j < gs.length) {g : List Int} (hg : gs[j]? = some g) : ∀ m, m < j → gs[m]? ≠ some g := fun m hm e => by
  unfold mineIx at h
  obtain ⟨j', r', hf, e1, _⟩ := List.map_eq_cons_iff.mp h
  have e1 : j' = j := by omega
  subst e1
  have gD : ∀ {k : Nat}, gs[k]? = some g → gs.getD k [] = g := fun h => by rw [List.getD_eq_getElem?_getD, h]; rfl
  have hp := (List.mem_filter.mp (show j' ∈ (List.range gs.length).filter _ by rw [hf]; exact List.mem_cons_self)).2
  have hpm : m ∈ (List.range gs.length).filter fun i => both rows ((gs.getD i []).headD 0) p := List.mem_filter.mpr ⟨List.mem_range.mpr (by omega), by
    show both rows ((gs.getD m []).headD 0) p = true
    rw [gD e, ← gD hg]
    exact hp⟩
  have pw := (List.pairwise_lt_range (n := gs.length)).filter fun i => both rows ((gs.getD i []).headD 0) p
  rw [hf] at pw hpm
  rcases List.mem_cons.mp hpm with h | h
  · omega
  · have := (List.pairwise_cons.mp pw).1 m h
    omega
theorem ok_lright {f : Addr} {fd : FuncData} (F : Fun K "_law_runs_right" "_law_runs_right" (topS 50) f fd) (m : mg "_law_runs_right" = some (.ref f)) (N : Nm mg) (TM : TabM P w K mg base T C) (GT : Has P w K mg base 2 "_law_take" ["_law_draw", "_law_many"] (Pm T 2 (prTake K)))
    (GN : Has P w K mg base 5 "never_more" ["table", "one", "other"] (Pm T 3 (prNeverMore C))) (GL : Has P w K mg base 1 "_law_told" ["_law_rows_here", "_law_places", "_law_others"] (Pm T 3 prLTold)) (GK : Has P w K mg base 6 "kin" ["table"] (Pm T 1 (prKin C)))
    (GP : Has P w K mg base 4 "_law_prices" ["_law_draw", "_law_width"] (Pm T 2 (prLPrices K))) (GM : Has P w K mg base 7 "merged_prices" ["table", "prices"] (Pm T 2 (prMerged C))) (GO : Has P w K mg base 3 "_law_order" ["_law_draw", "_law_many"] (Pm T 2 (prOrder K)))
    (GC : Has P w K mg base 1 "_law_cost" ["_law_rows_here", "_law_prices_here"] (Pm T 2 prLCost)) (GR : Has P w K mg base 1 "_law_runs" ["_law_values"] (Pm T 1 prLRuns)) :
    Has P w K mg base 8 "_law_runs_right" ["_law_draw", "_law_rows_here"] (Pm T 2 (prLRight K)) := by
  refine Has.of F m (F.binds fun _ _ _ _ _ _ us hl => match us, hl with | [_, _], _ => rfl) (F.ok scLRight (fun vs H Q E h => h.1) (fun cdv A outer s H vs Q E hr h => ?_))
  obtain ⟨_, R, ⟨vd, v, ns, rows, n, rfl, hd, hv, G, rfl⟩, q⟩ := h
  obtain ⟨f1, fd1, G1, m1, k1, b1⟩ := GT
  obtain ⟨f2, fd2, G2, m2, k2, b2⟩ := GN
  obtain ⟨f3, fd3, G3, m3, k3, b3⟩ := GL
  obtain ⟨f4, fd4, G4, m4, k4, b4⟩ := GK
  obtain ⟨f5, fd5, G5, m5, k5, b5⟩ := GP
  obtain ⟨f6, fd6, G6, m6, k6, b6⟩ := GM
  obtain ⟨f7, fd7, G7, m7, k7, b7⟩ := GO
  obtain ⟨f8, fd8, G8, m8, k8, b8⟩ := GC
  obtain ⟨f9, fd9, G9, m9, k9, b9⟩ := GR
  obtain ⟨ft, fdt, Mt, Gt, bt⟩ := TM.made
  have nd := scLRight.nd
  refine ⟨_, pss_cons (ps_par (i := 2) (j := 3) (by rfl) nd rfl rfl (by decide) rfl rfl (pa_cons (pe_make Mt Gt (hr.mono (by decide)) (by rfl) TM.mgC bt .nil pass0 (pa_cons (pv 1) pa_nil)) (pa_cons (pe_callB (r := rLn K) call_len_seq (by rfl) N.len (by decide +kernel) (pa_cons (pe_ix (r := rIxL K) ix_list (pv 1) pe_int (fun _ _ => rfl)) pa_nil)) pa_nil)) (by rfl))
    (pss_cons (ps_par (i := 4) (j := 5) (by rfl) nd rfl rfl (by decide) rfl rfl (pa_cons (pe_call G1 (hr.mono (by decide)) (by rfl) m1 k1 b1 .nil pass0 (pa_cons (pv 0) (pa_cons (pv 3) pa_nil))) (pa_cons (pe_call G1 (hr.mono (by decide)) (by rfl) m1 k1 b1 .nil pass0 (pa_cons (pv 0) (pa_cons (pv 3) pa_nil))) pa_nil)) (by rfl))
    (pss_cons (ps_set (i := 6) nd rfl (Or.inl rfl) (pe_call G2 (hr.mono (by decide)) (by rfl) m2 k2 b2 .nil pass0 (pa_cons (pv 2) (pa_cons (pv 4) (pa_cons (pv 5) pa_nil)))))
    (pss_cons (ps_if (pt_cmpR (r := rNe) op_ne (pv 6) (pe_call G3 (hr.mono (by decide)) (by rfl) m3 k3 b3 .nil pass0 (pa_cons (pv 1) (pa_cons (pe_tup (pa_cons (pv 5) pa_nil)) (pa_cons (pe_tup (pa_cons (pv 4) pa_nil)) pa_nil)))) (nomark _)) (pss_one (ps_ret pe_bl)) pss_nil)
    (pss_cons (ps_set (i := 7) nd rfl (Or.inl rfl) (pe_lst pa_nil))
    (pss_cons (ps_for PassesOwn.never rfl (pi_range1 (by rfl) N.range (pa_cons (pv 3) pa_nil)) (pg_name (i := 8) nd rfl (Or.inr rfl))
      (pss_cons (ps_setLc (i := 9) (own := [("_law_some", 15)]) (g := gName 15) (by rfl) nd rfl rfl (by rfl) (pi_list (pv 7)) (blkOk_by (N := nsLRight) (sc := defScope (topS 50)) (by decide +kernel))
          (fun _ _ _ _ _ => pg_name (i := 15) nd rfl (Or.inl rfl)) (fun _ _ _ _ _ => pts_one (PW.pt (pw_and (pt_val (pe_call G3 (hr.mono (by decide)) (by rfl) m3 k3 b3 .nil pass0 (pa_cons (pv 1) (pa_cons (pe_sliceK (r := rSlA K) sl_tupA (pv 15) po_none (po_some pe_int)) (pa_cons (pe_tup (pa_cons (pv 8) pa_nil)) pa_nil)))))
            (pw_and1 (pt_val (pe_call G3 (hr.mono (by decide)) (by rfl) m3 k3 b3 .nil pass0 (pa_cons (pv 1) (pa_cons (pe_tup (pa_cons (pv 8) pa_nil)) (pa_cons (pe_sliceK (r := rSlA K) sl_tupA (pv 15) po_none (po_some pe_int)) pa_nil))))))))) (fun _ _ _ _ _ => pv 15))
        (pss_one (ps_if (pt_cmpR (op_eqD hr.units) (pv 9) (pe_lst pa_nil) (nomark _)) (pss_one (ps_expr (pe_bm PySem.F.plainAttrs_list PySem.F.slot_list_append PySem.F.type_list_append mt_append (pv 7) (pa_cons (pe_tup (pa_cons (pv 8) pa_nil)) pa_nil))))
          (pss_one (ps_asg (pe_op (r := rCatA K) op_catA (pe_ix ix_list (pv 9) pe_int (fun _ _ => rfl)) (pe_tup (pa_cons (pv 8) pa_nil))) (pg_sub (pv 7) (pe_bm PySem.F.plainAttrs_list PySem.F.slot_list_index PySem.F.type_list_index (mt_indexD (u65 hr)) (pv 7) (pa_cons (pe_ix ix_list (pv 9) pe_int (fun _ _ => rfl)) pa_nil)) set_list)))))))
    (pss_cons (ps_if (pt_cmpR (r := rNeD K) (op_neD hr.units) (pe_call G4 (hr.mono (by decide)) (by rfl) m4 k4 b4 .nil pass0 (pa_cons (pv 2) pa_nil)) (pv 7) (nomark _)) (pss_one (ps_ret pe_bl)) pss_nil)
    (pss_cons (ps_set (i := 10) nd rfl (Or.inl rfl) (pe_call G5 (hr.mono (by decide)) (by rfl) m5 k5 b5 .nil pass0 (pa_cons (pv 0) (pa_cons (pv 3) pa_nil))))
    (pss_cons (ps_par (i := 11) (j := 12) (by rfl) nd rfl rfl (by decide) rfl rfl (pa_cons (pe_call G6 hr (by rfl) m6 k6 b6 .nil pass0 (pa_cons (pv 2) (pa_cons (pv 10) pa_nil))) (pa_cons (pe_call G7 (hr.mono (by decide)) (by rfl) m7 k7 b7 .nil pass0 (pa_cons (pv 0) (pa_cons (pe_callB (r := rLn K) call_len_seq (by rfl) N.len (by decide +kernel) (pa_cons (pv 1) pa_nil)) pa_nil))) pa_nil)) (by rfl))
    (pss_cons (ps_set (i := 13) nd rfl (Or.inr rfl) (pe_slice sl_list (pe_lc (own := [("_law_index", 16)]) (g := gName 16) (tt := tYes) rfl nd (pi_list (pv 12)) (blkOk_by (N := nsLRight) (sc := defScope (topS 50)) (by decide +kernel))
        (fun _ _ _ _ _ => pg_name (i := 16) nd rfl (Or.inl rfl)) (fun _ _ _ _ _ => pts_nil) (fun _ _ _ _ _ => pe_ix (r := rIxL K) ix_list (pv 1) (pv 16) (fun _ _ => rfl))) po_none
        (po_some (pe_op op_add pe_int (pe_call G1 (hr.mono (by decide)) (by rfl) m1 k1 b1 .nil pass0 (pa_cons (pv 0) (pa_cons (pe_callB (r := rLn K) call_len_seq (by rfl) N.len (by decide +kernel) (pa_cons (pv 1) pa_nil)) pa_nil)))))))
    (pss_cons (ps_if (pt_cmpR (r := rNe) op_ne (pe_call G8 (hr.mono (by decide)) (by rfl) m8 k8 b8 .nil pass0 (pa_cons (pv 13) (pa_cons (pv 11) pa_nil))) (pe_call G8 (hr.mono (by decide)) (by rfl) m8 k8 b8 .nil pass0 (pa_cons (pv 13) (pa_cons (pv 10) pa_nil))) (nomark _)) (pss_one (ps_ret pe_bl)) pss_nil)
    (pss_cons (ps_setLc (i := 14) (own := [("_law_place", 8)]) (g := gName 8) (tt := tYes) (by rfl) nd rfl rfl (by rfl) (pi_tup (pe_tup (pa_cons (pv 4) (pa_cons (pv 5) pa_nil)))) (blkOk_by (N := nsLRight) (sc := defScope (topS 50)) (by decide +kernel))
        (fun _ _ _ _ _ => pg_name (i := 8) nd rfl (Or.inr rfl)) (fun _ _ _ _ _ => pts_nil) (fun _ _ _ _ _ => pe_callB (r := rLn K) call_len_seq (by rfl) N.len (by decide +kernel) (pa_cons (pe_call G9 (hr.mono (by decide)) (by rfl) m9 k9 b9 .nil pass0 (pa_cons
          (pe_lc (own := [("_law_row", 17)]) (g := gName 17) (tt := tYes) rfl nd (pi_listK K (pv 13)) (blkOk_by (N := nsLRight) (sc := lcS [(".0", .local), ("_law_place", .cell), ("len", .globalImplicit), ("_law_runs", .globalImplicit), ("_law_late", .cell)]) (by decide +kernel)) (fun _ _ _ _ _ => pg_name (i := 17) nd rfl (Or.inl rfl))
            (fun _ _ _ _ _ => pts_nil) (fun _ _ _ _ _ => pe_ix (r := rIxT K) ix_tup (pv 17) (pv 8) (fun _ _ => rfl))) pa_nil)) pa_nil)))
    (pss_one (ps_ret (pe_or (pe_not (pv 6)) (pe_one (pe_cmpR op_le (pe_ix ix_list (pv 14) pe_int (fun _ _ => rfl)) (pe_ix ix_list (pv 14) pe_int (fun _ _ => rfl)) (nomark _))))))))))))))))), ?_⟩
  refine of_start (σ := [some vd, some v, none, none, none, none, none, none, none, none, none, none, none, none, none, none, none, none]) rfl ?_
  have n1 := G.w1
  have n4 := G.w4
  have h1 := G.some
  have h10 := G.few
  have hD : ∀ {σ : L2.St} {H1 : Hp}, Xt T H H1 → σ[0]? = some (some vd) → Er T (tVar 0) σ H1 (rpDraw K ns) := fun e h => er_var (rpDraw K ns) h (Mn.mono e hd)
  have hV : ∀ {σ : L2.St} {H1 : Hp}, Xt T H H1 → σ[1]? = some (some v) → Er T (tVar 1) σ H1 (rpL rpT rows) := fun e h => er_var (rpL rpT rows) h (Mn.mono e hv)
  refine q_par (T := T) (ea_2 (er_mkTab (C := C) (hV (Xt.refl T H) rfl) G) (er_len0 G (hV (Xt.refl T H) rfl))) fun vs H1 e1 ⟨vt, vn, ev, ht, hn⟩ => ⟨vt, vn, ev, ?_⟩
  cases (show vn = V.int (n : Int) from hn)
  have hTb : ∀ {σ : L2.St} {H2 : Hp}, Xt T H1 H2 → σ[2]? = some (some vt) → Er T (tVar 2) σ H2 (rpTab C rows) := fun e h => er_var (rpTab C rows) h (Mn.mono e ht)
  refine q_par (T := T) (ea_2 (er_take (m := (n : Int)) (by omega) (hD e1 rfl) (er_v rfl)) (er_take (m := (n : Int)) (by omega) (hD e1 rfl) (er_v rfl))) fun vs H2 e2 ⟨va, vb, ev, ⟨a, ha, ea⟩, ⟨b, hb, eb⟩⟩ => ⟨va, vb, ev, ?_⟩
  subst ea eb
  have e02 := e1.trans e2
  refine q_asg (T := T) (R := rpV (.bl (told rows [b] [a]))) (er_call (ea_3 (RB := rpN a) (RC := rpN b) (hTb e2 rfl) (er_v rfl) (er_v rfl)) fun H3 vs _ ⟨x, y, z, e3, e4, e5, e6⟩ => ⟨by rw [e3]; rfl, x, rows, n, a, b, by rw [e3, show y = V.int a from e5, show z = V.int b from e6], e4, G, ha, hb, rfl⟩) fun vl H3 e3 hl => ?_
  cases (show vl = V.bl (told rows [b] [a]) from hl)
  have e03 := e02.trans e3
  refine q_not (T := T) ((et_test (er_b (er_neS (a := .bl (told rows [b] [a])) (b := .bl (told rows [b] [a])) (er_v rfl) (er_ltold (n := n) (hV e03 rfl) (er_one rfl) (er_one rfl) G.len (by omega) (cols1 hb) (cols1 ha)) rfl))).imp fun b hb => by rw [hb, decide_eq_true rfl]; rfl) fun H4 e4 => ?_
  have e04 := e03.trans e4
  refine q_newL fun p hp => ?_
  have ex0 : Xt T H4 (upd H4 p (.lst [])) := Xt.new hp
  refine q_forR (T := T) (n := n) (by omega) ((ea_1 (R := rpN (n : Int)) (er_v rfl)).imp fun H5 vs _ ⟨x, e1, e2⟩ => by rw [e1, show x = V.int _ from e2])
    (fun i σ' H' => (∃ z8 z9, σ' = [some vd, some v, some vt, some (.int (n : Int)), some (.int a), some (.int b), some (.bl (told rows [b] [a])), some (.ref p), z8, z9, none, none, none, none, none, none, none, none]) ∧ Xt T H4 H' ∧ i ≤ n ∧ ∃ ys, H' p = some (.lst ys) ∧ Paired (fun y x => rpT x H' y) ys (kinTo rows i))
    (fun H5 e5 => ⟨⟨none, none, rfl⟩, ex0.trans e5, Nat.zero_le _, [], e5.lst upd_same, .nil⟩) (fun i σ' H5 hi I => ?_) (fun σ' H5 I => ?_)
  · obtain ⟨⟨z8, z9, rfl⟩, eX, hin, ys, hys, hg⟩ := I
    have gp := gps_to rows i
    have glen := gp.few
    have eo := e04.trans eX
    have hG : ∀ {σ : L2.St} {H6 : Hp}, Xt T H5 H6 → σ[7]? = some (some (.ref p)) → Er T (tVar 7) σ H6 (rpL rpT (kinTo rows i)) := fun e h => er_var _ h ⟨p, ys, rfl, e.lst hys, pmono e hg⟩
    refine q_asg (T := T) (R := rpL rpT (lawMine rows (kinTo rows i) i)) ((er_lcF (F := rpT) (RB := rpT) (fun g => told rows (g.take 1) [(i : Int)] && told rows [(i : Int)] (g.take 1)) id (es_list (F := rpT) (hG (Xt.refl T H5) rfl)) (by omega) (fun _ => rfl) fun g x H6 hm e6 hx => ⟨?_, fun _ => er_var (rpT g) rfl hx⟩).imp fun H6 u _ hu => by rw [List.map_id] at hu; exact hu) fun u H6 e6 hu => ?_
    · have cg : Cols (g.take 1) n := ⟨fun c hc => by have := gp.col g hm c (List.mem_of_mem_take hc); omega, by rw [List.length_take]; omega⟩
      have ci : Cols [(i : Int)] n := cols1 (by omega)
      exact et_andB (et_B (er_b (er_ltold (n := n) (hV (eo.trans e6) rfl) (er_slT (k := 1) (er_var (rpT g) rfl hx) er_c) (er_one rfl) G.len (by omega) cg ci))) fun _ => et_B (er_b (er_ltold (n := n) (hV (eo.trans e6) rfl) (er_one rfl) (er_slT (k := 1) (er_var (rpT g) rfl hx) er_c) G.len (by omega) ci cg))
    · have eX6 := eX.trans e6
      have hme := mine_eq (rows := rows) (p := (i : Int)) gp.ne
      refine s_if (T := T) (et_test (er_b (er_eqL (er_var _ rfl hu) (er_nil (F := rpT))))) (fun hb H7 e7 => ?_) (fun hb H7 e7 => ?_)
      · have hm0 : lawMine rows (kinTo rows i) i = [] := of_decide_eq_true hb.symm
        have hm : mineIx rows (kinTo rows i) i = [] := by rw [hme] at hm0; exact List.map_eq_nil_iff.mp hm0
        have hys7 := (e6.trans e7).lst hys
        refine s_app (T := T) (R := rpT [(i : Int)]) rfl hys7 (by rw [plen hg]; omega) (er_one rfl) fun u H8 e8 hu8 => ⟨⟨_, _, rfl⟩, ((eX6.trans e7).trans e8).mut hp (e8.lst hys7) True.intro, by omega, _, upd_same, ?_⟩
        have hy8 := e8.lst hys7
        show Paired _ _ (kinStep rows (kinTo rows i) i)
        unfold kinStep
        rw [hm]
        exact papp (pflat hy8 (pmono ((e6.trans e7).trans e8) hg)) (.cons (Ft.flat hu8 hy8 fun _ z => by cases z) .nil)
      · have hm0 : lawMine rows (kinTo rows i) i ≠ [] := of_decide_eq_false hb.symm
        obtain ⟨k, r, hk⟩ : ∃ k r, mineIx rows (kinTo rows i) i = k :: r := by
          cases h : mineIx rows (kinTo rows i) i with
          | nil => rw [hme, h] at hm0; exact absurd rfl hm0
          | cons k r => exact ⟨k, r, rfl⟩
        obtain ⟨j, ej, hj, _⟩ := mine_lt (show k ∈ mineIx rows (kinTo rows i) i by rw [hk]; exact List.mem_cons_self)
        subst ej
        obtain ⟨g, hg1⟩ : ∃ g, (kinTo rows i)[j]? = some g := ⟨_, List.getElem?_eq_getElem hj⟩
        have eD : (kinTo rows i).getD j [] = g := by rw [List.getD_eq_getElem?_getD, hg1]; rfl
        have hgl := gp.len g (List.mem_of_getElem? hg1)
        have hys7 := (e6.trans e7).lst hys
        have hl0 : (lawMine rows (kinTo rows i) i)[0]? = some g := by
          rw [hme, hk]
          show some ((kinTo rows i).getD ((j : Int).toNat) []) = _
          rw [Int.toNat_natCast, eD]
        have hix : ∀ {H8 : Hp}, Xt T H7 H8 → Er T (tOp (rIxL K) (tVar 9) (tC (.int 0))) [some vd, some v, some vt, some (.int (n : Int)), some (.int a), some (.int b), some (.bl (told rows [b] [a])), some (.ref p), some (.int (i : Int)), some u, none, none, none, none, none, none, none, none] H8 (rpT g) := fun e8 => er_ixL (F := rpT) (k := 0) (er_var _ rfl (Mn.mono (e7.trans e8) hu)) er_c rfl hl0
        refine s_set (T := T) (R := rpT (g ++ [(i : Int)])) (j := j) rfl hys7 (er_catT (hix (Xt.refl T H7)) (er_one rfl) (by show _ + 1 ≤ 100000; omega)) (er_indexT (hG (e6.trans e7) rfl) (hix (Xt.refl T H7)) hg1 (mine_first hk hj hg1)) rfl (by rw [plen hg]; exact hj) fun u8 H8 e8 hu8 => ⟨⟨_, _, rfl⟩, ((eX6.trans e7).trans e8).mut hp (e8.lst hys7) True.intro, by omega, _, upd_same, ?_⟩
        have hy8 := e8.lst hys7
        show Paired _ _ (kinStep rows (kinTo rows i) i)
        unfold kinStep
        rw [hk]
        show Paired _ _ ((kinTo rows i).set ((j : Int).toNat) ((kinTo rows i).getD ((j : Int).toNat) [] ++ [(i : Int)]))
        rw [Int.toNat_natCast, eD]
        exact pset (G := fun y (x : List Int) => rpT x (upd H8 p (.lst (ys.set j u8))) y) (Ft.flat hu8 hy8 fun _ z => by cases z) j (pflat hy8 (pmono ((e6.trans e7).trans e8) hg))
  · obtain ⟨⟨z8, z9, rfl⟩, eX, hin, ys, hys, hg⟩ := I
    have e05 := e04.trans eX
    have e15 := ((e2.trans e3).trans e4).trans eX
    refine q_not (T := T) ((et_test (er_b (er_neL (a := kinTo rows n) (b := kinTo rows n) (er_call (ea_1 (hTb e15 rfl)) fun H6 vs _ ⟨x, e1, e2⟩ => ⟨by rw [e1]; rfl, x, rows, n, e1, e2, G, rfl⟩) (er_var _ rfl ⟨p, ys, rfl, hys, hg⟩)))).imp fun b hb => by rw [hb, decide_eq_true rfl]; rfl) fun H6 e6 => ?_
    have e06 := e05.trans e6
    have e16 := e15.trans e6
    refine q_asg (T := T) (R := rpE (fun ps => priceOk ps n) rpT) (er_call (ea_2 (RB := rpN (n : Int)) (hD e06 rfl) (er_v rfl)) fun H7 vs _ ⟨x, y, e1, e2, e3⟩ => ⟨by rw [e1]; rfl, x, ns, n, by rw [e1, show y = V.int _ from e3], e2, by omega, rfl⟩) fun vp H7 e7 ⟨ps, hps, hvp⟩ => ?_
    have e07 := e06.trans e7
    have e17 := e16.trans e7
    refine q_par (T := T) (ea_2 (RA := rpT (mergedP rows n ps)) (RB := rpE (fun l : List Int => l.length = rows.length ∧ ∀ x ∈ l, 0 ≤ x ∧ x < rows.length) (rpL rpN)) (er_call (ea_2 (hTb e17 rfl) (er_var (rpT ps) rfl hvp)) fun H8 vs _ ⟨x, y, e1, e2, e3⟩ => ⟨by rw [e1]; rfl, x, y, rows, n, ps, e1, e2, G, e3, hps, rfl⟩)
      (er_call (ea_2 (RB := rpN (rows.length : Int)) (hD e07 rfl) (er_lenL (hV e07 rfl))) fun H8 vs _ ⟨x, y, e1, e2, e3⟩ => ⟨by rw [e1]; rfl, x, ns, rows.length, by rw [e1, show y = V.int _ from e3], e2, ⟨h1, by omega⟩, rfl⟩)) fun vs H8 e8 ⟨vm, vo, ev, hm, ⟨ord, hord, ho⟩⟩ => ⟨vm, vo, ev, ?_⟩
    have e08 := e07.trans e8
    refine q_asg (T := T) (R := rpE (fun l' => ∃ k, l' = (ord.map fun i => rows.getD i.toNat []).take k) (rpL rpT)) (er_slTakeE (P := fun i => 1 ≤ i ∧ i ≤ rows.length) (er_lcM (F := rpN) (RB := rpT) (fun i => rows.getD i.toNat []) (es_list (F := rpN) (er_var (rpL rpN ord) rfl ho)) (by omega) (fun _ => rfl) fun i x H9 hi e9 hx => ?_) (er_1p (er_take (m := (rows.length : Int)) (by omega) (hD e08 rfl) (er_lenL (hV e08 rfl)))) (fun i hi => by omega)) fun vl H9 e9 ⟨late, ⟨k, hlk⟩, hvl⟩ => ?_
    · cases (show x = V.int i from hx)
      have := hord.2 i hi
      have hlt : i.toNat < rows.length := by omega
      exact er_ixL (F := rpT) (k := i.toNat) (hV (e08.trans e9) rfl) (er_v rfl) (by omega) (by rw [List.getD_eq_getElem?_getD, List.getElem?_eq_getElem hlt]; rfl)
    have hlm : ∀ r ∈ late, r ∈ rows := fun r hr => by
      rw [hlk] at hr
      obtain ⟨i, hi, rfl⟩ := List.mem_map.mp (List.mem_of_mem_take hr)
      have := hord.2 i hi
      have hlt : i.toNat < rows.length := by omega
      rw [List.getD_eq_getElem?_getD, List.getElem?_eq_getElem hlt]
      exact List.getElem_mem hlt
    have hll : late.length ≤ 1000 := by
      rw [hlk, List.length_take, List.length_map, hord.1]
      omega
    have hln : ∀ r ∈ late, r.length = n := fun r hr => G.len r (hlm r hr)
    have lm : (mergedP rows n ps).length = n := by unfold mergedP; rw [mergeTo_len, List.length_replicate]
    have lp : ps.length = n := hps.1
    have hL : ∀ {σ : L2.St} {H10 : Hp}, Xt T H9 H10 → σ[13]? = some (some vl) → Er T (tVar 13) σ H10 (rpL rpT late) := fun e h => er_var (rpL rpT late) h (Mn.mono e hvl)
    have hcost : ∀ {i : Nat} {σ : L2.St} {x : V} {xs : List Int}, rpT xs H9 x → xs.length = n → σ[13]? = some (some vl) → σ[i]? = some (some x) → Er T (tCall (Pm T 2 prLCost) [] E0 (tCons (tVar 13) (tCons (tVar i) tNil))) σ H9 (rpN (costL late xs n)) := fun hx hlx h13 hi => er_call (ea_2 (hL (Xt.refl T H9) h13) (er_var (rpT _) hi hx)) fun H10 vs _ ⟨x, y, e1, e2, e3⟩ => ⟨by rw [e1]; rfl, x, y, late, _, n, e1, e2, e3, hln, hlx, by omega, hll, rfl⟩
    refine q_not (T := T) ((et_test (er_b (er_neI (hcost (i := 11) (Mn.mono e9 hm) lm rfl rfl) (hcost (i := 10) (Mn.mono (e8.trans e9) hvp) lp rfl rfl)))).imp fun b hb => by rw [hb, decide_eq_true (cost_merged lp hlm)]; rfl) fun H10 e10 => ?_
    refine q_asg (T := T) (R := rpL rpN ([a, b].map fun c => ((runMarks (late.map fun r => r.getD c.toNat 0)).length : Int))) (er_lcM (F := rpN) (RB := rpN) (fun c => ((runMarks (late.map fun r => r.getD c.toNat 0)).length : Int)) (es_tupT (ns := [a, b]) (er_tupI (ns := [a, b]) ((ea_2 (RA := rpN a) (RB := rpN b) (er_v rfl) (er_v rfl)).imp fun H11 vs _ ⟨x, y, e1, e2, e3⟩ => by rw [e1, show x = V.int a from e2, show y = V.int b from e3]; rfl) (by show 2 ≤ 100000; decide))) (by show 2 ≤ 40000; decide) (fun _ => rfl) fun c x H11 hc e11 hx => ?_) fun vc H11 e11 hvc => ?_
    · cases (show x = V.int c from hx)
      have hc2 : 0 ≤ c ∧ c < n := by
        simp only [List.mem_cons, List.not_mem_nil, or_false] at hc
        rcases hc with rfl | rfl
        · exact ha
        · exact hb
      refine er_lenE (F := rpT) (er_call (ea_1 (er_lcM (F := rpT) (RB := rpN) (fun r => r.getD c.toNat 0) (es_list (F := rpT) (hL (e10.trans e11) rfl)) (by omega) (fun _ => rfl) fun r y H12 hr e12 hy => ?_)) fun H12 vs _ ⟨x, e1, e2⟩ => ⟨by rw [e1]; rfl, x, _, e1, e2, by rw [List.length_map]; exact hll, rfl⟩)
      have := hln r hr
      exact er_ixT (k := c.toNat) (er_var (rpT r) rfl hy) (er_v rfl) (by omega) (getD_get (by omega))
    · have hC : ∀ {σ : L2.St} {H12 : Hp}, Xt T H11 H12 → σ[14]? = some (some vc) → Er T (tVar 14) σ H12 (rpL rpN [((runMarks (late.map fun r => r.getD a.toNat 0)).length : Int), ((runMarks (late.map fun r => r.getD b.toNat 0)).length : Int)]) := fun e h => er_var (rpL rpN _) h (Mn.mono e hvc)
      refine s_ret (T := T) (er_orV (a := !told rows [b] [a]) (b := decide (((runMarks (late.map fun r => r.getD a.toNat 0)).length : Int) ≤ ((runMarks (late.map fun r => r.getD b.toNat 0)).length : Int))) (er_notV (er_v rfl)) fun _ => er_N0 (g := fun i j => .bl (decide (i ≤ j))) (er_ixL (F := rpN) (k := 0) (hC (Xt.refl T H11) rfl) er_c rfl rfl) (er_ixL (F := rpN) (k := 1) (hC (Xt.refl T H11) rfl) er_c rfl rfl)) fun u H12 e12 hu => q u H12 ((((e08.trans e9).trans e10).trans e11).trans e12) ?_
      have ht : (!told rows [b] [a] || decide (((runMarks (late.map fun r => r.getD a.toNat 0)).length : Int) ≤ ((runMarks (late.map fun r => r.getD b.toNat 0)).length : Int))) = true := by
        cases h : told rows [b] [a] with
        | false => rfl
        | true =>
          have := runs_le hlm h
          rw [decide_eq_true (by omega)]
          rfl
      rw [ht] at hu
      exact hu
end
end K8
set_option maxHeartbeats 4000000
namespace K8
theorem within_iff {a b : List Int} : within a b = true ↔ ∀ x ∈ a, x ∈ b := by
  unfold within
  rw [List.all_eq_true]
  exact ⟨fun h x hx => List.contains_iff_mem.mp (h x hx), fun h x hx => List.contains_iff_mem.mpr (h x hx)⟩
theorem within_refl (a : List Int) : within a a = true := within_iff.mpr fun _ h => h
theorem within_trans {a b c : List Int} (h : within a b = true) (h' : within b c = true) : within a c = true := within_iff.mpr fun x hx => within_iff.mp h' x (within_iff.mp h x hx)
theorem pick_inj {r r' s : List Int} : pick r s = pick r' s ↔ ∀ x ∈ s, r.getD x.toNat 0 = r'.getD x.toNat 0 := List.map_inj_left
theorem pick_evy {r : List Int} {n : Nat} (h : r.length = n) : pick r (evy n) = r := by
  unfold pick evy
  rw [List.map_map, ← h]
  exact range_getD r 0
theorem any_false {α : Type} {l : List α} {f : α → Bool} : (l.map f).any id = false ↔ ∀ x ∈ l, f x = false := by
  rw [List.any_map]
  constructor
  · intro h x hx
    rw [List.any_eq_false] at h
    have := h x hx
    exact Bool.eq_false_iff.mpr this
  · intro h
    rw [List.any_eq_false]
    intro x hx
    exact Bool.eq_false_iff.mp (h x hx)
theorem any_true {α : Type} {l : List α} {f : α → Bool} : (l.map f).any id = true ↔ ∃ x ∈ l, f x = true := by
  rw [List.any_map, List.any_eq_true]
  exact Iff.rfl
theorem all_true {α : Type} {l : List α} {f : α → Bool} : (l.map f).all id = true ↔ ∀ x ∈ l, f x = true := by
  rw [List.all_map, List.all_eq_true]
  exact Iff.rfl
section
variable {rows : List (List Int)} {n : Nat}
theorem good_mono {k s : List Int} (h : within k s = true) (g : good rows n k = true) : good rows n s = true := by
  have hg : ToldP rows k (evy n) := of_decide_eq_true g
  exact decide_eq_true fun r hr r' hr' e => hg r hr r' hr' (pick_inj.mpr fun x hx => pick_inj.mp e x (within_iff.mp h x hx))
theorem unlike_bad (hl : ∀ r ∈ rows, r.length = n) {s : List Int} {i j : Int} (h : isUnlike rows s i j = true) : good rows n s = false := by
  unfold isUnlike isUnlike.isNumL at h
  obtain ⟨h1, h2⟩ := Bool.and_eq_true_iff.mp h
  obtain ⟨hi, hj⟩ := Bool.and_eq_true_iff.mp h1
  obtain ⟨hi0, hi1⟩ := Bool.and_eq_true_iff.mp hi
  obtain ⟨hj0, hj1⟩ := Bool.and_eq_true_iff.mp hj
  obtain ⟨e1, e2⟩ := Bool.and_eq_true_iff.mp h2
  have hi0 := of_decide_eq_true hi0
  have hi1 := of_decide_eq_true hi1
  have hj0 := of_decide_eq_true hj0
  have hj1 := of_decide_eq_true hj1
  have e1 := of_decide_eq_true e1
  have hli : i.toNat < rows.length := by omega
  have hlj : j.toNat < rows.length := by omega
  have mi : rows.getD i.toNat [] ∈ rows := by rw [List.getD_eq_getElem?_getD, List.getElem?_eq_getElem hli]; exact List.getElem_mem hli
  have mj : rows.getD j.toNat [] ∈ rows := by rw [List.getD_eq_getElem?_getD, List.getElem?_eq_getElem hlj]; exact List.getElem_mem hlj
  cases hg : good rows n s with
  | false => rfl
  | true =>
    have ht : ToldP rows s (evy n) := of_decide_eq_true hg
    have := ht _ mi _ mj e1
    rw [pick_evy (hl _ mi), pick_evy (hl _ mj)] at this
    rw [decide_eq_true this] at e2
    cases e2
theorem unlike_is {s : List Int} {i j : Nat} (h : Unlike rows s (evy n) i j) : isUnlike rows s (i : Int) (j : Int) = true := by
  obtain ⟨r, r', h1, h2, h3, h4⟩ := h
  have li := (List.getElem?_eq_some_iff.mp h1).1
  have lj := (List.getElem?_eq_some_iff.mp h2).1
  have e1 : rows.getD ((i : Int).toNat) [] = r := by rw [Int.toNat_natCast]; exact getL_get h1
  have e2 : rows.getD ((j : Int).toNat) [] = r' := by rw [Int.toNat_natCast]; exact getL_get h2
  unfold isUnlike isUnlike.isNumL
  rw [e1, e2, decide_eq_true h3, decide_eq_false (show ¬r = r' from fun e => h4 (by rw [e])), decide_eq_true (show (0 : Int) ≤ (i : Int) by omega), decide_eq_true (show (0 : Int) ≤ (j : Int) by omega), decide_eq_true (show (i : Int) < rows.length by omega), decide_eq_true (show (j : Int) < rows.length by omega)]
  rfl
/-- one of the least good sets -/
def isKey (rows : List (List Int)) (n : Nat) (s : List Int) : Bool := (!((((goods rows n).filter fun o => !decide (o = s)).map fun o => within o s).any id)) && good rows n s
theorem least_eq : leastOf (goods rows n) = (setsN n).filter (isKey rows n) := by
  show (List.filter (fun s => !((((goods rows n).filter fun o => !decide (o = s)).map fun o => within o s).any id)) ((setsN n).filter (good rows n))) = _
  rw [List.filter_filter]
  rfl
theorem isKey_iff {s : List Int} : isKey rows n s = true ↔ good rows n s = true ∧ ∀ o ∈ setsN n, good rows n o = true → within o s = true → o = s := by
  unfold isKey
  rw [Bool.and_eq_true_iff, Bool.not_eq_true', any_false]
  constructor
  · rintro ⟨h1, h2⟩
    refine ⟨h2, fun o ho hg hw => Classical.byContradiction fun hne => ?_⟩
    have := h1 o (List.mem_filter.mpr ⟨List.mem_filter.mpr ⟨ho, hg⟩, by rw [decide_eq_false hne]; rfl⟩)
    rw [hw] at this
    cases this
  · rintro ⟨h1, h2⟩
    refine ⟨fun o ho => ?_, h1⟩
    obtain ⟨h3, h4⟩ := List.mem_filter.mp ho
    obtain ⟨h5, h6⟩ := List.mem_filter.mp h3
    cases hw : within o s with
    | false => rfl
    | true =>
      rw [decide_eq_true (h2 o h5 h6 hw)] at h4
      cases h4
/-- what lies within another one stands before it -/
theorem sets_before {i j : Nat} {s o : List Int} (hs : (setsN n)[i]? = some s) (ho : (setsN n)[j]? = some o) (hw : within o s = true) : j ≤ i := by
  rcases Nat.lt_or_ge i j with h | h
  · have hp := setsN_later n
    obtain ⟨hi, es⟩ := List.getElem?_eq_some_iff.mp hs
    obtain ⟨hj, eo⟩ := List.getElem?_eq_some_iff.mp ho
    have := List.pairwise_iff_getElem.mp hp i j hi hj h
    rw [es, eo, hw] at this
    cases this
  · exact h
theorem sets_anti {s o : List Int} (hs : s ∈ setsN n) (ho : o ∈ setsN n) (h1 : within s o = true) (h2 : within o s = true) : s = o := by
  obtain ⟨i, hi⟩ := List.mem_iff_getElem?.mp hs
  obtain ⟨j, hj⟩ := List.mem_iff_getElem?.mp ho
  have a := sets_before hi hj h2
  have b := sets_before hj hi h1
  have : i = j := by omega
  subst this
  rw [hi] at hj
  exact Option.some.inj hj
theorem key_below : ∀ (i : Nat) {s : List Int}, (setsN n)[i]? = some s → good rows n s = true → ∃ k ∈ setsN n, isKey rows n k = true ∧ within k s = true := by
  intro i
  induction i using Nat.strongRecOn with
  | ind i ih =>
    intro s hs hg
    by_cases hk : isKey rows n s = true
    · exact ⟨s, List.mem_of_getElem? hs, hk, within_refl s⟩
    · have : ¬∀ o ∈ setsN n, good rows n o = true → within o s = true → o = s := fun h => hk (isKey_iff.mpr ⟨hg, h⟩)
      obtain ⟨o, ho⟩ := Classical.not_forall.mp this
      obtain ⟨o1, ho⟩ := Classical.not_imp.mp ho
      obtain ⟨o2, ho⟩ := Classical.not_imp.mp ho
      obtain ⟨o3, o4⟩ := Classical.not_imp.mp ho
      obtain ⟨j, hj⟩ := List.mem_iff_getElem?.mp o1
      have hji := sets_before hs hj o3
      have hne : j ≠ i := fun e => by
        rw [e, hs] at hj
        exact o4 (Option.some.inj hj).symm
      obtain ⟨k, k1, k2, k3⟩ := ih j (by omega) hj o2
      exact ⟨k, k1, k2, within_trans k3 o3⟩
theorem law_take (i : Nat) : ((setsN n).take i).foldl (lawStep rows n) [] = ((setsN n).take i).filter (isKey rows n) := by
  induction i with
  | zero => rfl
  | succ i ih =>
    cases hx : (setsN n)[i]? with
    | none =>
      have : (setsN n).length ≤ i := List.getElem?_eq_none_iff.mp hx
      rw [List.take_of_length_le (by omega)] at ih ⊢
      exact ih
    | some s =>
      rw [take_next hx, foldl_snoc, List.filter_append, ih]
      have e : (!((((setsN n).take i).filter (isKey rows n)).map fun k => within k s).any id && good rows n s) = isKey rows n s := by
        rw [Bool.eq_iff_iff, Bool.and_eq_true_iff, Bool.not_eq_true', any_false, isKey_iff]
        constructor
        · rintro ⟨h1, h2⟩
          refine ⟨h2, fun o ho hg hw => Classical.byContradiction fun hne => ?_⟩
          obtain ⟨j, hj⟩ := List.mem_iff_getElem?.mp ho
          obtain ⟨k, k1, k2, k3⟩ := key_below j hj hg
          have k4 := within_trans k3 hw
          obtain ⟨l, hl⟩ := List.mem_iff_getElem?.mp k1
          have l1 := sets_before hx hl k4
          have l2 : l ≠ i := fun e => by
            rw [e, hx] at hl
            have e2 := Option.some.inj hl
            rw [← e2] at k3
            exact hne (sets_anti ho (List.mem_of_getElem? hx) hw k3)
          have := h1 k (List.mem_filter.mpr ⟨List.mem_of_getElem? (i := l) (by rw [List.getElem?_take, if_pos (by omega)]; exact hl), k2⟩)
          rw [k4] at this
          cases this
        · rintro ⟨h1, h2⟩
          refine ⟨fun k hk => ?_, h1⟩
          obtain ⟨k1, k2⟩ := List.mem_filter.mp hk
          cases hw : within k s with
          | false => rfl
          | true =>
            have e2 := h2 k (List.mem_of_mem_take k1) (isKey_iff.mp k2).1 hw
            rw [e2] at k1
            exact absurd k1 (not_take (setsN_nodup n) hx)
      cases hk : isKey rows n s with
      | true =>
        rw [hk] at e
        rw [lawStep_yes e, List.filter_cons_of_pos hk]
        rfl
      | false =>
        rw [hk] at e
        rw [lawStep_no e, List.filter_cons_of_neg (by rw [hk]; decide), List.filter_nil, List.append_nil]
theorem lawKeys_eq : lawKeys rows n = leastOf (goods rows n) := by
  rw [least_eq]
  have := law_take (rows := rows) (n := n) (setsN n).length
  rw [List.take_length] at this
  exact this
abbrev dueOf (rows : List (List Int)) (n : Nat) : List (List Int) := leastOf (goods rows n)
theorem due_mem {s : List Int} : s ∈ dueOf rows n ↔ s ∈ setsN n ∧ isKey rows n s = true := by
  show s ∈ leastOf (goods rows n) ↔ _
  rw [least_eq, List.mem_filter]
theorem due_nodup : (dueOf rows n).Nodup := by
  show (leastOf (goods rows n)).Nodup
  rw [least_eq]
  exact (setsN_nodup n).filter _
theorem rest_mem {ls : List (List Int)} {s : List Int} : s ∈ restOf n ls ↔ s ∈ setsN n ∧ ∀ k ∈ ls, within k s = false := by
  unfold restOf
  rw [List.mem_filter, Bool.not_eq_true', any_false]
theorem rest_due {s : List Int} (hs : s ∈ setsN n) : s ∈ restOf n (dueOf rows n) ↔ good rows n s = false := by
  rw [rest_mem]
  constructor
  · rintro ⟨_, h⟩
    cases hg : good rows n s with
    | false => rfl
    | true =>
      obtain ⟨j, hj⟩ := List.mem_iff_getElem?.mp hs
      obtain ⟨k, k1, k2, k3⟩ := key_below j hj hg
      have := h k (due_mem.mpr ⟨k1, k2⟩)
      rw [k3] at this
      cases this
  · intro hg
    refine ⟨hs, fun k hk => ?_⟩
    cases hw : within k s with
    | false => rfl
    | true =>
      have := good_mono hw (isKey_iff.mp (due_mem.mp hk).2).1
      rw [hg] at this
      cases this
theorem rest_eq : restOf n (dueOf rows n) = (setsN n).filter fun s => !good rows n s := List.filter_congr fun s hs => by
  have h := rest_due (rows := rows) hs
  cases hg : good rows n s with
  | false =>
    have := (List.mem_filter.mp (h.mpr hg)).2
    exact this
  | true =>
    cases hr : (!(((dueOf rows n).map fun k => within k s).any id)) with
    | false => rfl
    | true =>
      have := h.mp (List.mem_filter.mpr ⟨hs, hr⟩)
      rw [hg] at this
      cases this
theorem rest_perm {a b : List (List Int)} (h : a.Perm b) : restOf n a = restOf n b := List.filter_congr fun s _ => by
  congr 1
  rw [Bool.eq_iff_iff, any_true, any_true]
  exact ⟨fun ⟨x, h1, h2⟩ => ⟨x, h.mem_iff.mp h1, h2⟩, fun ⟨x, h1, h2⟩ => ⟨x, h.mem_iff.mpr h1, h2⟩⟩
theorem rest_nodup (ls : List (List Int)) : (restOf n ls).Nodup := (setsN_nodup n).filter _
theorem nested_false {ls : List (List Int)} : nested ls = false ↔ ∀ a ∈ ls, ∀ b ∈ ls, a ≠ b → within a b = false := by
  unfold nested
  rw [List.any_eq_false]
  constructor
  · intro h a ha b hb hne
    have := h (within a b) (List.mem_flatMap.mpr ⟨a, ha, List.mem_map.mpr ⟨b, List.mem_filter.mpr ⟨hb, by rw [decide_eq_false hne]; rfl⟩, rfl⟩⟩)
    exact Bool.eq_false_iff.mpr this
  · intro h x hx
    obtain ⟨a, ha, hx⟩ := List.mem_flatMap.mp hx
    obtain ⟨b, hb, rfl⟩ := List.mem_map.mp hx
    obtain ⟨h1, h2⟩ := List.mem_filter.mp hb
    have hne : a ≠ b := fun e => by rw [decide_eq_true e] at h2; cases h2
    rw [h a ha b h1 hne]
    decide
theorem look_some {l : Prs} {s : List Int} : (look l s).isSome = true ↔ s ∈ l.map (·.1) := by
  constructor
  · intro h
    unfold look at h
    cases hf : l.find? (fun p => decide (p.1 = s)) with
    | none => rw [hf] at h; cases h
    | some p => exact List.mem_map.mpr ⟨p, List.mem_of_find?_eq_some hf, of_decide_eq_true (by have := List.find?_some hf; exact this)⟩
  · intro h
    obtain ⟨b, hb⟩ := look_mem h
    rw [hb]
    rfl
theorem shows_iff {ls : List (List Int)} {l : Prs} : showsB rows n ls l = true ↔ ((∀ s ∈ ls, s ∈ setsN n) ∧ ls.Nodup) ∧ nested ls = false ∧ (∀ s ∈ ls, good rows n s = true) ∧ (l.length = (restOf n ls).length ∧ ∀ s ∈ restOf n ls, s ∈ l.map (·.1)) ∧ ∀ s ∈ restOf n ls, isUnlike rows s (lookP l s).1 (lookP l s).2 = true := by
  unfold showsB
  rw [Bool.and_eq_true_iff, Bool.and_eq_true_iff, Bool.and_eq_true_iff, Bool.and_eq_true_iff, Bool.and_eq_true_iff, Bool.and_eq_true_iff, all_true, all_true, all_true, all_true, Bool.not_eq_true', decide_eq_true_iff, decide_eq_true_iff]
  refine and_congr (and_congr ⟨fun h s hs => List.contains_iff_mem.mp (h s hs), fun h s hs => List.contains_iff_mem.mpr (h s hs)⟩ Iff.rfl) (and_congr Iff.rfl (and_congr Iff.rfl (and_congr (and_congr (by omega) ?_) Iff.rfl)))
  exact ⟨fun h s hs => look_some.mp (h s hs), fun h s hs => look_some.mpr (h s hs)⟩
theorem law_iff {due ls : List (List Int)} {l : Prs} : lawShowsB rows n due ls l = true ↔ ls.Perm due ∧ (l.map (·.1)).Perm (restOf n due) ∧ ∀ s ∈ restOf n due, isUnlike rows s (lookP l s).1 (lookP l s).2 = true := by
  unfold lawShowsB
  rw [Bool.and_eq_true_iff, Bool.and_eq_true_iff, decide_eq_true_iff, decide_eq_true_iff, sortL_eq, sortL_eq, all_true]
theorem shows_law (hl : ∀ r ∈ rows, r.length = n) {ls : List (List Int)} {l : Prs} : showsB rows n ls l = true ↔ lawShowsB rows n (dueOf rows n) ls l = true := by
  rw [shows_iff, law_iff]
  constructor
  · rintro ⟨⟨h1, h2⟩, h3, h4, ⟨h5, h6⟩, h7⟩
    have h3 := nested_false.mp h3
    have noRest : ∀ o ∈ setsN n, good rows n o = true → ∃ k ∈ ls, within k o = true := fun o ho hg => Classical.byContradiction fun hne => by
      have : o ∈ restOf n ls := rest_mem.mpr ⟨ho, fun k hk => by
        cases hw : within k o with
        | false => rfl
        | true => exact absurd ⟨k, hk, hw⟩ hne⟩
      have := unlike_bad hl (h7 o this)
      rw [hg] at this
      cases this
    have hp : ls.Perm (dueOf rows n) := (List.perm_ext_iff_of_nodup h2 due_nodup).mpr fun s => by
      rw [due_mem, isKey_iff]
      constructor
      · intro hs
        refine ⟨h1 s hs, h4 s hs, fun o ho hg hw => ?_⟩
        obtain ⟨k, hk, hkw⟩ := noRest o ho hg
        have hks : k = s := Classical.byContradiction fun hne => by
          have := h3 k hk s hs hne
          rw [within_trans hkw hw] at this
          cases this
        subst hks
        exact sets_anti ho (h1 k hk) hw hkw
      · rintro ⟨hs, hg, hmin⟩
        obtain ⟨k, hk, hkw⟩ := noRest s hs hg
        have := hmin k (h1 k hk) (h4 k hk) hkw
        rw [← this]
        exact hk
    rw [← rest_perm hp]
    exact ⟨hp, (nodup_perm (rest_nodup ls) h6 (by rw [List.length_map, h5]; exact Nat.le_refl _)).symm, h7⟩
  · rintro ⟨hp, h5, h7⟩
    have hr := rest_perm (n := n) hp
    have hm : ∀ s ∈ ls, s ∈ setsN n ∧ isKey rows n s = true := fun s hs => due_mem.mp (hp.mem_iff.mp hs)
    refine ⟨⟨fun s hs => (hm s hs).1, hp.nodup_iff.mpr due_nodup⟩, nested_false.mpr fun a ha b hb hne => ?_, fun s hs => (isKey_iff.mp (hm s hs).2).1, ⟨?_, fun s hs => ?_⟩, fun s hs => h7 s (by rw [← hr]; exact hs)⟩
    · cases hw : within a b with
      | false => rfl
      | true => exact absurd ((isKey_iff.mp (hm b hb).2).2 a (hm a ha).1 (isKey_iff.mp (hm a ha).2).1 hw) hne
    · have := h5.length_eq
      rw [List.length_map] at this
      rw [hr, this]
    · rw [hr] at hs
      exact h5.mem_iff.mpr hs
theorem shows_case (hl : ∀ r ∈ rows, r.length = n) (ls : List (List Int)) (l : Prs) : showsB rows n ls l = (lawShowsB rows n (dueOf rows n) ls l && decide ls.Nodup) := by
  rw [Bool.eq_iff_iff, Bool.and_eq_true_iff, shows_law hl, decide_eq_true_iff]
  refine ⟨fun h => ⟨h, ?_⟩, fun h => h.1⟩
  exact (law_iff.mp h).1.nodup_iff.mpr due_nodup
theorem law_found {prs : Prs} (h : Against rows n (setsN n) prs) : lawShowsB rows n (dueOf rows n) (dueOf rows n) prs = true := by
  refine law_iff.mpr ⟨List.Perm.refl _, by rw [rest_eq, h.1], fun s hs => ?_⟩
  have hk : s ∈ prs.map (·.1) := by rw [h.1, ← rest_eq]; exact hs
  unfold lookP look
  cases hf : prs.find? (fun p => decide (p.1 = s)) with
  | none =>
    obtain ⟨p, hp, e⟩ := List.mem_map.mp hk
    exact absurd (decide_eq_true e) (List.find?_eq_none.mp hf p hp)
  | some p =>
    obtain ⟨i, j, e1, e2⟩ := h.2 p (List.mem_of_find?_eq_some hf)
    have e3 : p.1 = s := of_decide_eq_true (by have := List.find?_some hf; exact this)
    show isUnlike rows s p.2.1 p.2.2 = true
    rw [e1, ← e3]
    exact unlike_is e2
theorem shows_found (hl : ∀ r ∈ rows, r.length = n) {prs : Prs} (h : Against rows n (setsN n) prs) : showsB rows n (dueOf rows n) prs = true := (shows_law hl).mpr (law_found h)
end
end K8
set_option maxHeartbeats 4000000
namespace K8
open PySem L2 PySem.Spec PyProof.Rows
def prLaw (T : Tb) (K : PySem.W.Frag) : List V → Hp → Rp → Prop := fun vs H R => ∃ v ns, vs = [v] ∧ rpS K ns H v ∧ LamX.Tabs T H ∧ R = rpV (.bl true)
abbrev nsLaw : List Str := ["_law_script", "_law_draw", "_law_turn", "_law_rows_here", "_law_table", "_law_due", "_law_found", "_law_some", "_law_pairs"]
theorem scLaw : FnScope nsLaw ["_law_script"] (defScope (topS 51)) := ⟨rfl, rfl, rfl, by decide +kernel, rfl, by decide +kernel, by decide +kernel⟩
structure ShowsM (P : Program) (w : World) (K : PySem.W.Frag) (mg : Str → Option Value) (base : Heap) (T : Tb) (C CK : Addr) : Prop where
  ex : ∃ f fd, Meth K CK "shows" f ∧ FnOk P w K mg base CX0 5 f fd ["self", "table"] (Pm T 2 (prShows T C CK)) ∧ Binds K fd ["self", "table"] []
theorem kf_shows (l p : Addr) : (kf l p).lookup ("shows" : Str) = none := by
  unfold kf kf1
  rw [lookup_putF, if_neg (by decide), lookup_putF, if_neg (by decide)]
  rfl
section
variable {P : Program} {w : World} {K : PySem.W.Frag} {mg : Str → Option Value} {base : Heap} {T : Tb} {σ : L2.St} {H : Hp} {te ta tb tc td tx : TE} {D : Ends} {tz : TS} {C CK : Addr} {rows : List (List Int)} {n : Nat}
theorem er_drw {t : TA} {ns : List Int} (h : Ea T t σ H (fun H' vs => ∃ v k, vs = [v, .int k] ∧ rpS K ns H' v)) : Er T (tDrw t) σ H (rpDraw K ns) := fun H1 e Q q =>
  h H1 e _ fun vs H2 e2 ⟨v, k, ev, a, ea, hs⟩ => ⟨a, k, by rw [ev, ea], fun d hd => q _ _ (e2.trans (Xt.new hd)) ⟨d, a, rfl, upd_same, (Xt.new (T := T) hd).sqL hs⟩⟩
theorem er_shows {ls : List (List Int)} {l : Prs} (ha : Er T ta σ H (rpKeys CK ls l)) (hb : Er T tb σ H (rpTab C rows)) (G : Good rows n) (hT : LamX.Tabs T H) (hls : ls.length ≤ 60) : Er T (tMeth CK "shows" (Pm T 2 (prShows T C CK)) [] E0 ta (tCons tb tNil)) σ H (rpV (.bl (showsB rows n ls l))) := fun H1 e Q q =>
  ha H1 e _ fun v H2 e2 hv => by
    obtain ⟨a, dx, pl, pp, ev, h1, _⟩ := id hv
    exact ⟨a, dx, _, ev, h1, kf_shows pl pp, (ea_1 hb) H2 (e.trans e2) _ fun vs H3 e3 ⟨u, eu, hu⟩ => ⟨by rw [eu]; rfl, _, ⟨v, u, rows, n, ls, l, by rw [eu]; rfl, Mn.mono e3 hv, hu, G, ((e.trans e2).trans e3).2 hT, hls, rfl⟩, fun r H4 e4 hr => q r H4 ((e2.trans e3).trans e4) hr⟩⟩
theorem er_eqSet {l : List (List Int)} {n : Nat} (hn : n = l.length) (ha : Er T ta σ H (rpE (fun n : Int => (n = l.length) ↔ l.Nodup) rpN)) (hb : Er T tb σ H (rpN n)) : Er T (tOp rEq ta tb) σ H (rpV (.bl (decide l.Nodup))) :=
  er_op ha hb fun H1 x y _ ⟨k, hk, e1⟩ e2 => fun Q q => by
    cases (show x = V.int k from e1)
    cases (show y = V.int n from e2)
    refine ⟨rfl, q _ H1 (Xt.refl T H1) ?_⟩
    show V.bl (decide (V.int k = V.int (n : Int))) = _
    have e : decide (V.int k = V.int (n : Int)) = decide l.Nodup := decide_eq_decide.mpr ⟨fun z => hk.mp (by rw [V.int.inj z, hn]), fun z => by rw [hk.mpr z, hn]⟩
    rw [e]
theorem er_notTrue {b : Bool} (ha : Er T ta σ H (rpV (.bl b))) : Er T (tOp rNotB ta (tC (.bl true))) σ H (rpV (.bl (!b))) :=
  er_op ha (er_c (v := .bl true)) fun H1 x y _ e1 e2 => fun Q q => ⟨b, true, e1, e2, q _ H1 (Xt.refl T H1) (by
    show V.bl _ = V.bl _
    cases b <;> rfl)⟩
theorem er_lshows {due ls : List (List Int)} {l : Prs} (ha : Er T ta σ H (rpL rpT rows)) (hb : Er T tb σ H (rpL rpT due)) (hc : Er T tc σ H (rpL rpT ls)) (hd : Er T td σ H (rpD rpP l)) (G : Good rows n) (hk : ∀ k ∈ due, k.length ≤ 100) (hz : due.length ≤ 1000) : Er T (tCall (Pm T 4 prLShows) [] E0 (tCons ta (tCons tb (tCons tc (tCons td tNil))))) σ H (rpV (.bl (lawShowsB rows n due ls l))) :=
  er_call (ea_cons ha (ea_3 hb hc hd)) fun H1 vs _ ⟨x, r, e1, e2, y, z, u, e3, e4, e5, e6⟩ => ⟨by rw [e1, e3]; rfl, x, y, z, u, rows, n, due, ls, l, by rw [e1, e3], e2, G, e4, hk, hz, e5, e6, rfl⟩
/-- over a list that is not told before it is made -/
theorem q_forLE {α : Type} {F : α → Rp} {Pb : List α → Prop} {g : TG} {tu : TS} (h : Er T te σ H (rpE Pb (rpL F))) (k : ∀ v l H1, Xt T H H1 → Pb l → rpL F l H1 v → tSeq (tFor (iList K (tC v)) g tu) tz D σ H1) : tSeq (tFor (iList K te) g tu) tz D σ H :=
  h H (Xt.refl T H) _ fun v H1 e1 ⟨l, pl, hv⟩ => k v l H1 e1 pl hv
theorem er_at {R : Rp} {v : V} [m : Mn T R] (h : R H v) : Er T (tC v) σ H R := er_c.imp fun H1 u e eu => by rw [show u = v from eu]; exact m.mono e h
theorem ok_law {f : Addr} {fd : FuncData} (F : Fun K "law" "law" (topS 51) f fd) (N : Nm mg) (TM : TabM P w K mg base T C) (KM : KeysM P w K mg base T CK) (SM : ShowsM P w K mg base T C CK) (GR : Has P w K mg base 3 "_law_rows" ["_law_draw", "_law_most"] (Pm T 2 (prLRows K)))
    (GK : Has P w K mg base 2 "_law_keys" ["_law_rows_here"] (Pm T 1 prLKeys)) (GF : Has P w K mg base 5 "find_keys" ["table"] (Pm T 1 (prFindKeys T C CK))) (GY : Has P w K mg base 6 "keys" ["table"] (Pm T 1 (prKeys T C)))
    (GS : Has P w K mg base 2 "_law_shows" ["_law_rows_here", "_law_due", "_law_some", "_law_pairs"] (Pm T 4 prLShows)) (GC : Has P w K mg base 4 "_law_cases" ["_law_draw", "_law_rows_here", "_law_found"] (Pm T 3 (prLCases K CK)))
    (GZ : Has P w K mg base 8 "_law_runs_right" ["_law_draw", "_law_rows_here"] (Pm T 2 (prLRight K))) : FnOk P w K mg base CX0 9 f fd ["_law_script"] (Pm T 1 (prLaw T K)) := by
  refine F.ok scLaw (fun vs H Q E h => h.1) (fun cdv A outer s H vs Q E hr h => ?_)
  obtain ⟨_, R, ⟨v, ns, rfl, hv, hT, rfl⟩, q⟩ := h
  obtain ⟨f1, fd1, G1, m1, k1, b1⟩ := GR
  obtain ⟨f2, fd2, G2, m2, k2, b2⟩ := GK
  obtain ⟨f3, fd3, G3, m3, k3, b3⟩ := GF
  obtain ⟨f4, fd4, G4, m4, k4, b4⟩ := GY
  obtain ⟨f5, fd5, G5, m5, k5, b5⟩ := GS
  obtain ⟨f6, fd6, G6, m6, k6, b6⟩ := GC
  obtain ⟨f7, fd7, G7, m7, k7, b7⟩ := GZ
  obtain ⟨ft, fdt, Mt, Gt, bt⟩ := TM.made
  obtain ⟨fk, fdk, Mk1, Gk, bk⟩ := KM.made
  obtain ⟨fs, fds, Ms, Gs, bs⟩ := SM.ex
  have nd := scLaw.nd
  refine ⟨_, pss_cons (ps_set (i := 1) nd rfl (Or.inl rfl) (pe_drw (pa_cons (pv 0) (pa_cons pe_int pa_nil))))
    (pss_cons (ps_for PassesOwn.never rfl (pi_range1 (by rfl) N.range (pa_cons pe_int pa_nil)) (pg_name (i := 2) nd rfl (Or.inl rfl))
      (pss_cons (ps_set (i := 3) nd rfl (Or.inl rfl) (pe_call G1 (hr.mono (by decide)) (by rfl) m1 k1 b1 .nil pass0 (pa_cons (pv 1) (pa_cons pe_int pa_nil))))
      (pss_cons (ps_par (i := 4) (j := 5) (by rfl) nd rfl rfl (by decide) rfl rfl (pa_cons (pe_make Mt Gt (hr.mono (by decide)) (by rfl) TM.mgC bt .nil pass0 (pa_cons (pv 3) pa_nil)) (pa_cons (pe_call G2 (hr.mono (by decide)) (by rfl) m2 k2 b2 .nil pass0 (pa_cons (pv 3) pa_nil)) pa_nil)) (by rfl))
      (pss_cons (ps_set (i := 6) nd rfl (Or.inl rfl) (pe_call G3 (hr.mono (by decide)) (by rfl) m3 k3 b3 .nil pass0 (pa_cons (pv 4) pa_nil)))
      (pss_cons (ps_if (PW.pt (pw_or (pt_cmpR (r := rNeD K) (op_neD hr.units) (pe_call G4 (hr.mono (by decide)) (by rfl) m4 k4 b4 .nil pass0 (pa_cons (pv 4) pa_nil)) (pv 5) (nomark _))
          (pw_or (pt_cmpR (r := rNeD K) (op_neD hr.units) (pe_callB (r := rSortT) (cr_sortT hr) (by rfl) N.sorted (by decide +kernel) (pa_cons (pe_fld (pv 6) rfl) pa_nil)) (pe_callB (r := rSortT) (cr_sortT hr) (by rfl) N.sorted (by decide +kernel) (pa_cons (pv 5) pa_nil)) (nomark _))
          (pw_or1 (pt_cmpR (r := rNotB) op_notBl (pe_meth (pv 6) KM.cl Ms Gs (hr.mono (by decide)) bs .nil pass0 (pa_cons (pv 4) pa_nil)) pe_bl (nomark _)))))) (pss_one (ps_ret pe_bl)) pss_nil)
      (pss_cons (ps_if (pt_not (pt_val (pe_call G5 (hr.mono (by decide)) (by rfl) m5 k5 b5 .nil pass0 (pa_cons (pv 3) (pa_cons (pv 5) (pa_cons (pe_fld (pv 6) rfl) (pa_cons (pe_fld (pv 6) rfl) pa_nil))))))) (pss_one (ps_ret pe_bl)) pss_nil)
      (pss_cons (ps_for PassesOwn.never rfl (pi_list (pe_call G6 (hr.mono (by decide)) (by rfl) m6 k6 b6 .nil pass0 (pa_cons (pv 1) (pa_cons (pv 3) (pa_cons (pv 6) pa_nil))))) (pg_tup rfl (pgs_cons (pg_name (i := 7) nd rfl (Or.inl rfl)) (pgs_cons (pg_name (i := 8) nd rfl (Or.inl rfl)) pgs_nil)))
        (pss_one (ps_if (pt_cmpR (r := rNe) op_ne (pe_meth (pe_make Mk1 Gk (hr.mono (by decide)) (by rfl) KM.mgC bk .nil pass0 (pa_cons (pv 7) (pa_cons (pv 8) pa_nil))) KM.cl Ms Gs (hr.mono (by decide)) bs .nil pass0 (pa_cons (pv 4) pa_nil))
          (pe_and (pe_call G5 (hr.mono (by decide)) (by rfl) m5 k5 b5 .nil pass0 (pa_cons (pv 3) (pa_cons (pv 5) (pa_cons (pv 7) (pa_cons (pv 8) pa_nil)))))
            (pe_one (pe_cmpR (r := rEq) op_eq (pe_callB (r := rLenSetT P w) cr_lenSetT (by rfl) N.len (by decide +kernel) (pa_cons (pe_callTy (r := rSetOfT K P w) (cr_setOfT rfl hr.units) (by rfl) N.set (by decide +kernel) (pa_cons (pv 7) pa_nil)) pa_nil)) (pe_callB (r := rLn K) call_len_seq (by rfl) N.len (by decide +kernel) (pa_cons (pv 7) pa_nil)) (nomark _)))) (nomark _))
          (pss_one (ps_ret pe_bl)) pss_nil)))
      (pss_one (ps_if (pt_not (pt_val (pe_call G7 hr (by rfl) m7 k7 b7 .nil pass0 (pa_cons (pv 1) (pa_cons (pv 3) pa_nil))))) (pss_one (ps_ret pe_bl)) pss_nil)))))))))
    (pss_one (ps_ret pe_bl))), ?_⟩
  refine of_start (σ := [some v, none, none, none, none, none, none, none, none]) rfl ?_
  have hS : ∀ {σ : L2.St} {H1 : Hp}, Xt T H H1 → σ[0]? = some (some v) → Er T (tVar 0) σ H1 (rpS K ns) := fun e h => er_var (rpS K ns) h (Mn.mono e hv)
  refine q_asg (T := T) (R := rpDraw K ns) (er_drw ((ea_2 (RB := rpN 0) (hS (Xt.refl T H) rfl) er_c).imp fun H1 vs _ ⟨x, y, e1, e2, e3⟩ => ⟨x, 0, by rw [e1, show y = V.int 0 from e3], e2⟩)) fun vd H1 e1 hd => ?_
  have hD : ∀ {σ : L2.St} {H2 : Hp}, Xt T H1 H2 → σ[1]? = some (some vd) → Er T (tVar 1) σ H2 (rpDraw K ns) := fun e h => er_var (rpDraw K ns) h (Mn.mono e hd)
  refine q_forE (T := T) (es_rng1 (n := 4) (by omega) ((ea_1 (R := rpN 4) er_c).imp fun H3 vs _ ⟨a, e1, e2⟩ => by rw [e1, show a = V.int _ from e2]; rfl)) (fun i σ' _ => ∃ z2 z3 z4 z5 z6 z7 z8, σ' = [some v, some vd, z2, z3, z4, z5, z6, z7, z8])
    (fun H2 e2 => ⟨none, none, none, none, none, none, none, rfl⟩) (fun H2 e2 i x σ1 Ha Hb hi ea I eb hx => ?_) (fun σ' H2 e2 I => ?_)
  · obtain ⟨z2, z3, z4, z5, z6, z7, z8, rfl⟩ := I
    have eHb : Xt T H1 Hb := (e2.trans ea).trans eb
    refine q_asg (T := T) (R := rpE (fun rows => ∃ n, Good rows n) (rpL rpT)) (er_call (ea_2 (RB := rpN 8) (hD eHb rfl) er_c) fun H3 vs _ ⟨a, b, e1, e2, e3⟩ => ⟨by rw [e1]; rfl, a, ns, 8, by rw [e1, show b = V.int 8 from e3], e2, by omega, rfl⟩) fun vr H3 e3 ⟨rows, ⟨n, G⟩, hr3⟩ => ?_
    have e13 := eHb.trans e3
    have hl : ∀ r ∈ rows, r.length = n := G.len
    have hV : ∀ {σ : L2.St} {H4 : Hp}, Xt T H3 H4 → σ[3]? = some (some vr) → Er T (tVar 3) σ H4 (rpL rpT rows) := fun e h => er_var (rpL rpT rows) h (Mn.mono e hr3)
    refine q_par (T := T) (ea_2 (er_mkTab (C := C) (hV (Xt.refl T H3) rfl) G) (RB := rpL rpT (dueOf rows n)) (er_call (ea_1 (hV (Xt.refl T H3) rfl)) fun H4 vs _ ⟨a, e1, e2⟩ => ⟨by rw [e1]; rfl, a, rows, n, e1, e2, G, by rw [lawKeys_eq]⟩)) fun vs H4 e4 ⟨vt, vu, ev, ht, hu⟩ => ⟨vt, vu, ev, ?_⟩
    have e14 := e13.trans e4
    have e04 := e1.trans e14
    have hTb : ∀ {σ : L2.St} {H5 : Hp}, Xt T H4 H5 → σ[4]? = some (some vt) → Er T (tVar 4) σ H5 (rpTab C rows) := fun e h => er_var (rpTab C rows) h (Mn.mono e ht)
    have hU : ∀ {σ : L2.St} {H5 : Hp}, Xt T H4 H5 → σ[5]? = some (some vu) → Er T (tVar 5) σ H5 (rpL rpT (dueOf rows n)) := fun e h => er_var (rpL rpT (dueOf rows n)) h (Mn.mono e hu)
    refine q_asg (T := T) (R := rpE (Against rows n (setsN n)) (rpKeys CK (dueOf rows n))) (er_call (ea_1 (hTb (Xt.refl T H4) rfl)) fun H5 vs e5 ⟨a, e1, e2⟩ => ⟨by rw [e1]; rfl, a, rows, n, e1, e2, G, (e04.trans e5).2 hT, rfl⟩) fun vf H5 e5 ⟨prs, hag, hf⟩ => ?_
    have e05 := e04.trans e5
    have hF : ∀ {σ : L2.St} {H6 : Hp}, Xt T H5 H6 → σ[6]? = some (some vf) → Er T (tVar 6) σ H6 (rpKeys CK (dueOf rows n) prs) := fun e h => er_var (rpKeys CK (dueOf rows n) prs) h (Mn.mono e hf)
    have dmem : ∀ k ∈ dueOf rows n, k ∈ setsN n := fun k hk => (due_mem.mp hk).1
    have dlen : (dueOf rows n).length ≤ 16 := Nat.le_trans (show (leastOf (goods rows n)).length ≤ (setsN n).length by rw [least_eq]; exact List.length_filter_le _ _) (setsN_len n)
    have dk : ∀ k ∈ dueOf rows n, k.length ≤ 100 := fun k hk => (setsN_cols (dmem k hk)).2
    refine q_not (T := T) (et_or (P := (· = false)) (P' := (· = false)) ((et_test (er_b (er_neL (a := dueOf rows n) (b := dueOf rows n) (er_call (ea_1 (hTb e5 rfl)) fun H6 vs e6 ⟨a, e1, e2⟩ => ⟨by rw [e1]; rfl, a, rows, n, e1, e2, G, (e05.trans e6).2 hT, rfl⟩) (hU e5 rfl)))).imp fun b hb => by rw [hb, decide_eq_true rfl]; rfl)
      (fun _ => et_or (P := (· = false)) (P' := (· = false)) ((et_test (er_b (er_neL (er_sortT (er_least KM.toKeysC (hF (Xt.refl T H5) rfl))) (er_sortT (hU e5 rfl))))).imp fun b hb => by rw [hb, decide_eq_true rfl]; rfl)
        (fun _ => (et_test (er_b (er_notTrue (er_shows (hF (Xt.refl T H5) rfl) (hTb e5 rfl) G (e05.2 hT) (by omega))))).imp fun b hb => by rw [hb, shows_found hl hag]; rfl) (fun z => by cases z) fun b _ hb => hb) (fun z => by cases z) fun b _ hb => hb) fun H6 e6 => ?_
    have e06 := e05.trans e6
    refine q_not (T := T) ((et_notB (et_B (er_b (er_lshows (hV ((e4.trans e5).trans e6) rfl) (hU (e5.trans e6) rfl) (er_least KM.toKeysC (hF e6 rfl)) (er_pairs KM.toKeysC (hF e6 rfl)) G dk (by omega))))).imp fun b hb => by rw [hb, law_found hag]; rfl) fun H7 e7 => ?_
    have e07 := e06.trans e7
    have e17 : Xt T H1 H7 := ((e14.trans e5).trans e6).trans e7
    refine q_forLE (T := T) (F := rpCase) (Pb := fun cs => ∀ q ∈ cs, CaseOk q) (er_call (ea_3 (hD e17 rfl) (hV (((e4.trans e5).trans e6).trans e7) rfl) (hF (e6.trans e7) rfl)) fun H8 vs _ ⟨a, b, c, e1, e2, e3, e4⟩ => ⟨by rw [e1]; rfl, a, b, c, ns, rows, n, dueOf rows n, prs, e1, e2, e3, G, e4, dlen, against_ok hag, rfl⟩) fun vc cs H8 e8 hco hcs => ?_
    have e08 := e07.trans e8
    have e48 : Xt T H4 H8 := ((e5.trans e6).trans e7).trans e8
    refine q_forE (T := T) (es_list (F := rpCase) (er_at (R := rpL rpCase cs) hcs)) (fun i σ' _ => ∃ z7 z8, σ' = [some v, some vd, some x, some vr, some vt, some vu, some vf, z7, z8]) (fun H9 e9 => ⟨z7, z8, rfl⟩) (fun H9 e9 i y σ1 Hc Hd hi ec I ed hy => ?_) (fun σ' H9 e9 I => ?_)
    · obtain ⟨z7, z8, rfl⟩ := I
      obtain ⟨⟨ls, l⟩, hq, t, a, b, rfl, hS2, hla, hlb⟩ := hy
      have hc2 := hco _ (List.mem_of_getElem? hq)
      have hls : ls.length ≤ 60 := hc2.1
      have hkl : KeysOk (l.map (·.1)) := hc2.2
      have e8d : Xt T H8 Hd := (e9.trans ec).trans ed
      refine g_two hS2 ?_
      have h7 : ∀ {σ : L2.St} {H10 : Hp}, Xt T Hd H10 → σ[7]? = some (some a) → Er T (tVar 7) σ H10 (rpL rpT ls) := fun e h => er_var (rpL rpT ls) h (Mn.mono e hla)
      have h8 : ∀ {σ : L2.St} {H10 : Hp}, Xt T Hd H10 → σ[8]? = some (some b) → Er T (tVar 8) σ H10 (rpD rpP l) := fun e h => er_var (rpD rpP l) h (Mn.mono e hlb)
      refine s_when (T := T) (P := (· = false)) ((et_test (er_b (er_neS (a := .bl (showsB rows n ls l)) (b := .bl (lawShowsB rows n (dueOf rows n) ls l && decide ls.Nodup)) (er_shows (er_mkKeys (h7 (Xt.refl T Hd) rfl) (h8 (Xt.refl T Hd) rfl) hkl) (hTb (e48.trans e8d) rfl) G ((e08.trans e8d).2 hT) hls)
        (er_andV (er_lshows (hV ((e4.trans e48).trans e8d) rfl) (hU (e48.trans e8d) rfl) (h7 (Xt.refl T Hd) rfl) (h8 (Xt.refl T Hd) rfl) G dk (by omega)) fun _ => er_eqSet rfl (er_lenSet (h7 (Xt.refl T Hd) rfl) (by omega)) (er_lenL (h7 (Xt.refl T Hd) rfl))) rfl))).imp fun b hb => by rw [hb, shows_case hl, decide_eq_true rfl]; rfl) (fun z => by cases z) fun _ H10 e10 => ⟨(ec.trans ed).trans e10, some a, some b, rfl⟩
    · obtain ⟨z7, z8, rfl⟩ := I
      refine s_when (T := T) (P := (· = false)) ((et_notB (et_B (er_b (er_call (R := rpV (.bl true)) (ea_2 (hD (e17.trans (e8.trans e9)) rfl) (hV ((e4.trans e48).trans e9) rfl)) fun H10 vs _ ⟨a, b, e1, e2, e3⟩ => ⟨by rw [e1]; rfl, a, b, ns, rows, n, e1, e2, e3, G, rfl⟩)))).imp fun b hb => by rw [hb]; rfl) (fun z => by cases z) fun _ H10 e10 => ⟨((((((((ea.trans eb).trans e3).trans e4).trans e5).trans e6).trans e7).trans e8).trans e9).trans e10, _, _, _, _, _, _, _, rfl⟩
  · obtain ⟨z2, z3, z4, z5, z6, z7, z8, rfl⟩ := I
    exact s_ret (T := T) er_c fun u H3 e3 hu => q u H3 ((e1.trans e2).trans e3) hu
end
end K8
set_option maxHeartbeats 0
namespace K8
open PySem PySem.Spec PyProof.Rows L2
abbrev FnQ : Type := Option (Str × Str × Arguments × FuncBody × Scope × Addr × List (Str × Addr) × Addr)
def fnQ (K : PySem.W.Frag) (a : Addr) : FnQ := match K.lookup a with
  | some ⟨_, _, .func fd, _⟩ => some (fd.name, fd.qualname, fd.params, fd.body, fd.scope, fd.globals, fd.closure, fd.builtins)
  | _ => none
def noneV : Value → Bool
  | .none => true
  | _ => false
theorem noneV_eq {v : Value} (h : noneV v = true) : v = .none := by
  cases v with
  | none => rfl
  | _ => cases h
def okQ (K : PySem.W.Frag) (a : Addr) (q : Str) : Bool := PySem.W.keepIn K (.ref a) && (match K.lookup a with
  | some ⟨_, _, .func fd, _⟩ => PySem.W.codeIn K fd.code q && noneV fd.defaults
  | _ => false)
def valQ (x q : Str) (st : Stmt) : FnQ := some (x, q, defArgs st, .stmts (defBody st), defScope st, mainGlobals, [], builtinsNs)
theorem fun_at {K : PySem.W.Frag} {a : Addr} {x q : Str} {st : Stmt} (e : fnQ K a = valQ x q st) (c : okQ K a q = true) : ∃ fd, Fun K x q st a fd := by
  obtain ⟨kp, c2⟩ := He.ba c
  unfold fnQ at e
  cases z : K.lookup a with
  | none =>
    rw [z] at c2
    cases c2
  | some o =>
    obtain ⟨oc, od, dt, osl⟩ := o
    rw [z] at c2 e
    cases dt with
    | func fd =>
      obtain ⟨n1, n2, n3, n4, n5, n6, n7, n8, n9, n10, n11, n12, n13, n14, n15⟩ := fd
      have e2 : (some (n1, n2, n3, n4, n5, n6, n7, n15) : FnQ) = some (x, q, defArgs st, .stmts (defBody st), defScope st, mainGlobals, [], builtinsNs) := e
      simp only [Option.some.injEq, Prod.mk.injEq] at e2
      obtain ⟨h1, h2, h3, h4, h5, h6, h7, h8⟩ := e2
      subst h1 h2 h3 h4 h5 h6 h7 h8
      have c3 : (PySem.W.codeIn K n13 n2 && noneV n8) = true := c2
      obtain ⟨k1, k2⟩ := He.ba c3
      have k2 := noneV_eq k2
      subst k2
      exact ⟨_, ⟨oc, od, n9, n10, n11, n12, n13, n14, osl, rfl, z, k1⟩, kp⟩
    | _ => cases c2
structure DfQ where
  ad : PySem.W.Frag → Addr
  name : Str
  qual : Str
  st : Stmt
abbrev dG (x : Str) (i : Nat) : DfQ := ⟨fun K => He.ga K x, x, x, topS i⟩
abbrev dM (C m q : Str) (st : Stmt) : DfQ := ⟨fun K => He.ma K (He.ga K C) m, m, q, st⟩
/-- the property's object, its getter -/
def pAd (K : PySem.W.Frag) : Addr := He.ma K (He.ga K "Table") "width"
def gAd (K : PySem.W.Frag) : Addr := match PySem.W.recIn K (pAd K) "property" with
  | some (.ref g :: _) => g
  | _ => 0
def dfs1 : List DfQ := [dG "is_number" 13, dG "is_row" 14, dG "width_of" 15, dG "check_table" 17, dG "check_column" 18, dG "check_prices" 19, dG "picked" 21, dG "sets_of" 22, dG "unlike_pair" 23, dG "least_of" 24, dG "is_within" 25, dG "is_unlike" 27, dG "find_keys" 28, dG "keys" 29, dG "kin" 30, dG "tell_both" 31, dG "merged_prices" 32, dG "never_more" 33]
def dfs2 : List DfQ := [dG "_law_number" 35, dG "_law_take" 36, dG "_law_pick" 37, dG "_law_order" 38, dG "_law_rows" 39, dG "_law_runs" 40, dG "_law_prices" 41, dG "_law_cost" 42, dG "_law_told" 43, dG "_law_sets" 44, dG "_law_alike" 45, dG "_law_within" 46, dG "_law_keys" 47, dG "_law_shows" 48, dG "_law_cases" 49, dG "_law_runs_right" 50, dG "law" 51]
def dfs3 : List DfQ := [dM "Table" "__init__" "Table.__init__" sTabInit, dM "Table" "__len__" "Table.__len__" sTabLen, ⟨gAd, "width", "Table.width", sTabWidth⟩, dM "Keys" "__init__" "Keys.__init__" sKeysInit, dM "Keys" "shows" "Keys.shows" sKeysShows]
def dfs : List DfQ := dfs1 ++ (dfs2 ++ dfs3)
def gls : List Str := dfs1.map (·.name) ++ (dfs2.map (·.name) ++ (["Table", "Keys"] : List Str))
def free : List Str := ["tuple", "list", "dict", "set", "int", "bool", "len", "range", "all", "any", "sum", "sorted", "zip", "enumerate", "isinstance"]
def fas : List He.Fa := gls.map He.Fa.glo ++ (free.map He.Fa.free ++ [.int "MOST_ROWS" 10, .int "MOST_COLUMNS" 4, .int "MOST_VALUE" 6, .int "MOST_PRICE" 9, .cls "Table", .cls "Keys", .mkr "Table", .mkr "Keys", .noat "Table" "rows", .noat "Keys" "least", .noat "Keys" "pairs", .meth "Keys" "shows"])
def mainB (K : PySem.W.Frag) : Bool := He.eqO (PySem.W.findIn K (.ref (He.ga K "Table")) "__class__") (some (some (.builtin "object.__class__"))) &&
  (He.eqO (PySem.W.specialIn K (.builtin "object.__class__") "__get__") (some (some (.builtin "getset_descriptor.__get__"))) &&
  (decide (PySem.W.takesIn K (.builtin "object.__class__") = some true) && (decide (PySem.W.mroIn K (He.ga K "Table") (.type "object") = some true) && decide (PySem.W.kitOne K (.ref (He.ga K "Table")) (.ref (He.ga K "Table")) = some true))))
def lenB (K : PySem.W.Frag) : Bool := He.eqO (PySem.W.findIn K (.ref (He.ga K "Table")) "__len__") (some (some (.ref (He.ma K (He.ga K "Table") "__len__")))) && PySem.W.isFn K (.ref (He.ma K (He.ga K "Table") "__len__"))
def prpB (K : PySem.W.Frag) : Bool := He.eqO (PySem.W.findIn K (.ref (He.ga K "Table")) "width") (some (some (.ref (pAd K)))) && (He.eqO (PySem.W.specialIn K (.ref (pAd K)) "__get__") (some (some (.builtin "property.__get__"))) &&
  (decide (PySem.W.takesIn K (.ref (pAd K)) = some true) && (match PySem.W.recIn K (pAd K) "property" with
    | some (.ref _ :: _) => true
    | _ => false)))
/-- the code object of sets_of, its table -/
abbrev cP (K : PySem.W.Frag) : Addr × Addr := He.cT K ("sets_of", none)
def tabQ (g : Addr → Option Obj) (K : PySem.W.Frag) : Bool := PySem.W.codeHdIn K (cP K).1 (cP K).2 && (match g (cP K).2 with
  | some o => He.emptyTab o
  | none => false)
def allB (K : PySem.W.Frag) : Bool := (fas.all fun f => f.ok K) && ((dfs.all fun d => okQ K (d.ad K) d.qual) && (mainB K && (lenB K && prpB K)))
abbrev AlQ : Type := Bool × List FnQ
def obsK (g : Addr → Option Obj) (K : PySem.W.Frag) : AlQ := (allB K && tabQ g K, dfs.map fun d => fnQ K (d.ad K))
def obsQ (g : Addr → Option Obj) : AlQ := obsK g (He.frT g (He.asD g 5))
def valA : AlQ := (true, dfs.map fun d => valQ d.name d.qual d.st)
structure Says (h : Heap) (K : PySem.W.Frag) : Prop where
  all : allB K = true
  fns : (dfs.map fun d => fnQ K (d.ad K)) = dfs.map fun d => valQ d.name d.qual d.st
  hd : PySem.W.codeHdIn K (cP K).1 (cP K).2 = true
  out : K.lookup (cP K).2 = none
  empty : h.get? (cP K).2 = some { cls := .none, data := .fields #[] }
theorem says_of {h : Heap} (e : obsQ h.get? = valA) : Says h (He.frT h.get? (He.asD h.get? 5)) := by
  unfold obsQ at e
  have e1 : (allB (He.frT h.get? (He.asD h.get? 5)) && tabQ h.get? (He.frT h.get? (He.asD h.get? 5))) = true := congrArg (fun z : AlQ => z.1) e
  have e2 := congrArg (fun z : AlQ => z.2) e
  obtain ⟨h1, h2⟩ := He.ba e1
  obtain ⟨h3, h4⟩ := He.ba h2
  have key : ∃ o, h.get? (cP (He.frT h.get? (He.asD h.get? 5))).2 = some o ∧ He.emptyTab o = true := by
    cases q : h.get? (cP (He.frT h.get? (He.asD h.get? 5))).2 with
    | none =>
      rw [q] at h4
      cases h4
    | some o =>
      rw [q] at h4
      exact ⟨o, rfl, h4⟩
  obtain ⟨o, q, z⟩ := key
  exact ⟨h1, e2, h3, He.frT_none q z, by rw [q, He.emptyTab_eq z]⟩
def hookQ : PySem.W.Hook where
  α := AlQ
  obs := fun s => obsQ s.heap.get?
  val := fun _ => valA
  says := fun _ h => ∃ K : PySem.W.Frag, K.In h ∧ Says h K
  of := fun _ _ e => ⟨_, He.frT_in, says_of e⟩
  keeps := fun _ _ _ ⟨K, hK, c⟩ k => ⟨K, PySem.W.Frag.In.keeps hK k, ⟨c.all, c.fns, c.hd, c.out, k _ _ c.empty⟩⟩
abbrev RR : PySem.W.OpenRow := PySem.W.OpenLaw.row PySem.Challenge.rw_runcolumns_k08_whole_keys
def ob (s : PySem.W.SharedT) : AlQ := obsQ (HandSHeadRun.getT s)
theorem ob_eq (s : PySem.W.SharedT) : ob s = hookQ.obs s.abs := by
  have e : HandSHeadRun.getT s = s.abs.heap.get? := funext (HandSHeadRun.getT_eq s)
  unfold ob
  rw [e]
  rfl
def nm1 : List Str := ["_wall", "ColumnError", "BadRows", "BadTable", "BadIndex", "BadColumn", "BadPrices", "MOST_ROWS", "MOST_COLUMNS", "MOST_VALUE", "MOST_PRICE", "is_number", "is_row", "width_of", "Table", "check_table", "check_column", "check_prices", "picked", "sets_of", "unlike_pair", "least_of", "is_within", "Keys", "is_unlike", "find_keys", "keys", "kin", "tell_both", "merged_prices", "never_more"]
def nm2 : List Str := ["_law_number", "_law_take", "_law_pick", "_law_order", "_law_rows", "_law_runs", "_law_prices", "_law_cost", "_law_told", "_law_sets", "_law_alike", "_law_within", "_law_keys", "_law_shows", "_law_cases", "_law_runs_right"]
def nms : List Str := nm1 ++ nm2
theorem run (w : World) : HandSHeadRun.RunEq RR (PySem.W.view RR.prog [51]) hookQ ob 4000 nms w := by
  intro os
  kernel_rfl
end K8
set_option maxHeartbeats 4000000
namespace K8
open PySem PySem.Spec PyProof.Rows L2
section
variable {K : PySem.W.Frag} {h : Heap} {mg : Str → Option Value}
theorem Says.parts (c : Says h K) : (∀ f ∈ fas, f.ok K = true) ∧ (∀ d ∈ dfs, okQ K (d.ad K) d.qual = true) ∧ mainB K = true ∧ lenB K = true ∧ prpB K = true := by
  obtain ⟨h1, h2⟩ := He.ba c.all
  obtain ⟨h3, h4⟩ := He.ba h2
  obtain ⟨h5, h6⟩ := He.ba h4
  obtain ⟨h7, h8⟩ := He.ba h6
  exact ⟨fun f hf => List.all_eq_true.mp h1 f hf, fun d hd => List.all_eq_true.mp h3 d hd, h5, h7, h8⟩
theorem Says.fa (c : Says h K) (i : Nat) {f : He.Fa} (e : fas[i]? = some f := by rfl) : f.ok K = true := c.parts.1 f (List.mem_of_getElem? e)
theorem Says.fd (c : Says h K) (i : Nat) {d : DfQ} (e : dfs[i]? = some d := by rfl) : ∃ fd, Fun K d.name d.qual d.st (d.ad K) fd :=
  fun_at (List.map_inj_left.mp c.fns d (List.mem_of_getElem? e)) (c.parts.2.1 d (List.mem_of_getElem? e))
theorem Says.isC (c : Says h K) (hc : Cls K (He.ga K "Table")) : C8.InsC K (He.ga K "Table") := by
  obtain ⟨h1, h2⟩ := He.ba c.parts.2.2.1
  obtain ⟨h3, h4⟩ := He.ba h2
  obtain ⟨h5, h6⟩ := He.ba h4
  obtain ⟨h7, h8⟩ := He.ba h6
  exact ⟨hc, He.eqO_ok h1, He.eqO_ok h3, of_decide_eq_true h5, of_decide_eq_true h7, of_decide_eq_true h8⟩
theorem Says.ln (c : Says h K) : PySem.W.findIn K (.ref (He.ga K "Table")) "__len__" = some (some (.ref (He.ma K (He.ga K "Table") "__len__"))) ∧ PySem.W.isFn K (.ref (He.ma K (He.ga K "Table") "__len__")) = true := by
  obtain ⟨h1, h2⟩ := He.ba c.parts.2.2.2.1
  exact ⟨He.eqO_ok h1, h2⟩
theorem Says.prp (c : Says h K) : PropOf K (He.ga K "Table") "width" (pAd K) (gAd K) := by
  obtain ⟨h1, h2⟩ := He.ba c.parts.2.2.2.2
  obtain ⟨h3, h4⟩ := He.ba h2
  obtain ⟨h5, h6⟩ := He.ba h4
  refine ⟨He.eqO_ok h1, He.eqO_ok h3, of_decide_eq_true h5, ?_⟩
  unfold gAd
  cases q : PySem.W.recIn K (pAd K) "property" with
  | none =>
    rw [q] at h6
    cases h6
  | some l =>
    rw [q] at h6
    cases l with
    | nil => cases h6
    | cons u r =>
      cases u with
      | ref g => exact ⟨r, rfl⟩
      | _ => cases h6
theorem Says.nm (c : Says h K) (X : K.In h) (G : h.Ns mainGlobals mg) : Nm mg :=
  ⟨He.free_ok X G (c.fa 37), He.free_ok X G (c.fa 38), He.free_ok X G (c.fa 39), He.free_ok X G (c.fa 40), He.free_ok X G (c.fa 41), He.free_ok X G (c.fa 42), He.free_ok X G (c.fa 43), He.free_ok X G (c.fa 44), He.free_ok X G (c.fa 45), He.free_ok X G (c.fa 46), He.free_ok X G (c.fa 47), He.free_ok X G (c.fa 48), He.free_ok X G (c.fa 49), He.free_ok X G (c.fa 50), He.free_ok X G (c.fa 51),
    He.int_ok X G (c.fa 52), He.int_ok X G (c.fa 53), He.int_ok X G (c.fa 54), He.int_ok X G (c.fa 55)⟩
theorem code_of {x q : Str} {st : Stmt} {fd : FuncData} (F : Fun K x q st (He.fAd K (x, none)) fd) : fd.code = .ref (He.codeOf K (x, none)) := by
  obtain ⟨oc, od, kV, doc, pm, an, cdv, ct, osl, rfl, lk, hcd⟩ := F.ex
  obtain ⟨c, rfl⟩ := He.codeIn_ref hcd
  rw [He.codeOf_eq lk (c := c) rfl]
theorem ok_all {P : Program} {w : World} {base : Heap} {T : Tb} (X : K.In h) (G : h.Ns mainGlobals mg) (c : Says h K) (hT : T = [((cP K).2, lamQ)]) (TB : LamX.TabB base mg (cP K).1 (cP K).2) {fd : FuncData} (F : Fun K "law" "law" (topS 51) (He.ga K "law") fd) :
    FnOk P w K mg base CX0 9 (He.ga K "law") fd ["_law_script"] (Pm T 1 (prLaw T K)) := by
  have N := c.nm X G
  -- Table
  have TC : TabC P w K mg base (He.ga K "Table") := ⟨He.cls_ok (c.fa 56), He.noat_ok (c.fa 60), He.glo_ok X G (c.fa 35), c.isC (He.cls_ok (c.fa 56))⟩
  obtain ⟨_, f0⟩ := c.fd 0
  have G0 := ok_is_number (P := P) (w := w) (base := base) (T := T) f0 (He.glo_ok X G (c.fa 0)) N
  obtain ⟨_, f1⟩ := c.fd 1
  have G1 := ok_is_row (P := P) (w := w) (base := base) (T := T) f1 (He.glo_ok X G (c.fa 1)) N G0
  obtain ⟨_, f2⟩ := c.fd 2
  have G2 := ok_width_of (P := P) (w := w) (base := base) (T := T) f2 (He.glo_ok X G (c.fa 2)) N
  obtain ⟨_, fi⟩ := c.fd 35
  obtain ⟨_, fl⟩ := c.fd 36
  obtain ⟨_, fw⟩ := c.fd 37
  have TM : TabM P w K mg base T (He.ga K "Table") := ⟨TC, ⟨_, _, He.mkr_ok (c.fa 58), ok_tabInit fi N TC G2 G1, fi.binds fun _ _ _ _ _ _ us hl => match us, hl with | [_, _], _ => rfl⟩,
    ⟨_, _, c.ln.1, c.ln.2, ok_tabLen fl N TC, fl.binds fun _ _ _ _ _ _ us hl => match us, hl with | [_], _ => rfl⟩, ⟨_, _, _, c.prp, ok_tabWidth fw N TC, fw.binds fun _ _ _ _ _ _ us hl => match us, hl with | [_], _ => rfl⟩⟩
  obtain ⟨_, f3⟩ := c.fd 3
  have G3 := ok_check_table (P := P) (w := w) (base := base) (T := T) f3 (He.glo_ok X G (c.fa 3)) N TC
  obtain ⟨_, f4⟩ := c.fd 4
  have G4 := ok_check_column f4 (He.glo_ok X G (c.fa 4)) N TM G0
  obtain ⟨_, f5⟩ := c.fd 5
  have G5 := ok_check_prices f5 (He.glo_ok X G (c.fa 5)) N TM G0
  obtain ⟨_, f6⟩ := c.fd 6
  have G6 := ok_picked (P := P) (w := w) (base := base) (T := T) f6 (He.glo_ok X G (c.fa 6)) N
  obtain ⟨_, f7⟩ := c.fd 7
  have G7 := ok_sets_of (P := P) (w := w) (base := base) (T := T) f7 (He.glo_ok X G (c.fa 7)) N (code_of f7) ⟨TB, by rw [hT]; exact List.mem_cons_self, fun p hp e => by rw [hT] at hp; rw [List.mem_singleton.mp hp]⟩
  obtain ⟨_, f8⟩ := c.fd 8
  have G8 := ok_unlike_pair f8 (He.glo_ok X G (c.fa 8)) N TM G6
  obtain ⟨_, f10⟩ := c.fd 10
  have G10 := ok_within (P := P) (w := w) (base := base) (T := T) f10 (He.glo_ok X G (c.fa 10)) N
  obtain ⟨_, f9⟩ := c.fd 9
  have G9 := ok_least_of f9 (He.glo_ok X G (c.fa 9)) N G10
  obtain ⟨_, f11⟩ := c.fd 11
  have G11 := ok_is_unlike f11 (He.glo_ok X G (c.fa 11)) N TM G6
  -- Keys
  have KC : KeysC P w K mg base (He.ga K "Keys") := ⟨He.cls_ok (c.fa 57), He.noat_ok (c.fa 61), He.noat_ok (c.fa 62), He.glo_ok X G (c.fa 36)⟩
  obtain ⟨_, fk⟩ := c.fd 38
  have KM : KeysM P w K mg base T (He.ga K "Keys") := ⟨KC, ⟨_, _, He.mkr_ok (c.fa 59), ok_keysInit fk N KC, fk.binds fun _ _ _ _ _ _ us hl => match us, hl with | [_, _, _], _ => rfl⟩⟩
  obtain ⟨_, fs⟩ := c.fd 39
  have SM : ShowsM P w K mg base T (He.ga K "Table") (He.ga K "Keys") := ⟨_, _, He.meth_ok (c.fa 63), ok_shows fs N TM KC G3 G7 G10 G8 G11, fs.binds fun _ _ _ _ _ _ us hl => match us, hl with | [_, _], _ => rfl⟩
  obtain ⟨_, f12⟩ := c.fd 12
  have G12 := ok_find_keys f12 (He.glo_ok X G (c.fa 12)) N TM KM G3 G7 G8 G9
  obtain ⟨_, f13⟩ := c.fd 13
  have G13 := ok_keys f13 (He.glo_ok X G (c.fa 13)) N KC G12
  obtain ⟨_, f15⟩ := c.fd 15
  have G15 := ok_tell_both f15 (He.glo_ok X G (c.fa 15)) G8
  obtain ⟨_, f14⟩ := c.fd 14
  have G14 := ok_kin f14 (He.glo_ok X G (c.fa 14)) N TM G3 G15
  obtain ⟨_, f16⟩ := c.fd 16
  have G16 := ok_merged f16 (He.glo_ok X G (c.fa 16)) N TM G3 G5 G14
  obtain ⟨_, f17⟩ := c.fd 17
  have G17 := ok_never_more f17 (He.glo_ok X G (c.fa 17)) G8 G3 G4
  -- the law's
  obtain ⟨_, l0⟩ := c.fd 18
  have L0 := ok_lnumber (P := P) (w := w) (base := base) (T := T) l0 (He.glo_ok X G (c.fa 18)) N
  obtain ⟨_, l1⟩ := c.fd 19
  have L1 := ok_take l1 (He.glo_ok X G (c.fa 19)) N L0
  obtain ⟨_, l2⟩ := c.fd 20
  have L2 := ok_pick l2 (He.glo_ok X G (c.fa 20)) N L1
  obtain ⟨_, l3⟩ := c.fd 21
  have L3 := ok_order l3 (He.glo_ok X G (c.fa 21)) N L1
  obtain ⟨_, l4⟩ := c.fd 22
  have L4 := ok_lrows l4 (He.glo_ok X G (c.fa 22)) N L1
  obtain ⟨_, l5⟩ := c.fd 23
  have L5 := ok_lruns (P := P) (w := w) (base := base) (T := T) l5 (He.glo_ok X G (c.fa 23)) N
  obtain ⟨_, l6⟩ := c.fd 24
  have L6 := ok_lprices l6 (He.glo_ok X G (c.fa 24)) N L2
  obtain ⟨_, l7⟩ := c.fd 25
  have L7 := ok_lcost (P := P) (w := w) (base := base) (T := T) l7 (He.glo_ok X G (c.fa 25)) N
  obtain ⟨_, l8⟩ := c.fd 26
  have L8 := ok_ltold (P := P) (w := w) (base := base) (T := T) l8 (He.glo_ok X G (c.fa 26)) N
  obtain ⟨_, l9⟩ := c.fd 27
  have L9 := ok_lsets (P := P) (w := w) (base := base) (T := T) l9 (He.glo_ok X G (c.fa 27)) N
  obtain ⟨_, l10⟩ := c.fd 28
  have L10 := ok_alike (P := P) (w := w) (base := base) (T := T) l10 (He.glo_ok X G (c.fa 28)) N
  obtain ⟨_, l11⟩ := c.fd 29
  have L11 := ok_lwithin (P := P) (w := w) (base := base) (T := T) l11 (He.glo_ok X G (c.fa 29)) N
  obtain ⟨_, l12⟩ := c.fd 30
  have L12 := ok_lkeys l12 (He.glo_ok X G (c.fa 30)) N L9 L11 L8
  obtain ⟨_, l13⟩ := c.fd 31
  have L13 := ok_lshows l13 (He.glo_ok X G (c.fa 31)) N L9 L11 L10
  obtain ⟨_, l14⟩ := c.fd 32
  have L14 := ok_lcases l14 (He.glo_ok X G (c.fa 32)) N KC L2 L1 L9
  obtain ⟨_, l15⟩ := c.fd 33
  have L15 := ok_lright l15 (He.glo_ok X G (c.fa 33)) N TM L1 G17 L8 G14 L6 G16 L3 L7 L5
  exact ok_law F N TM KM SM L4 L12 G12 G13 L13 L14 L15
theorem law_at {w : World} {fa : Addr} (X : K.In h) (G : h.Ns mainGlobals mg) (hfa : mg ("law" : Str) = some (.ref fa)) (c : Says h K) : LamX.LawAtS PySem.Challenge.rw_runcolumns_k08_whole_keys w K CX0 9 63 "_law_script" mg fa h := by
  have e := hfa.symm.trans (He.glo_ok X G (c.fa 34))
  cases e
  obtain ⟨fd, F⟩ := c.fd 34
  refine ⟨fd, [cP K], Pm [((cP K).2, lamQ)] 1 (prLaw [((cP K).2, lamQ)] K), fun p hp => ?_, fun p hp => ?_, fun p hp => ?_, ?_, fun H a ns hl hb hT hS => ?_, fun base KB NB TB => ok_all X G c rfl (TB _ List.mem_cons_self) F⟩
  · rw [List.mem_singleton.mp hp]
    exact c.empty
  · rw [List.mem_singleton.mp hp]
    exact c.out
  · rw [List.mem_singleton.mp hp]
    exact PySem.W.codeHd_of_K X c.hd
  · intro s u
    obtain ⟨oc, od, kV, doc, pm, an, cdv, ct, osl, rfl, lk, hcd⟩ := F.ex
    exact .of_eq rfl
  · refine ⟨rfl, rpV (.bl true), ⟨.ref a, ns, rfl, ⟨a, rfl, hS⟩, fun p hp => ?_, rfl⟩, fun v H2 e hv => hv⟩
    rw [List.mem_singleton.mp hp]
    exact ⟨#[], hT _ List.mem_cons_self, True.intro, fun pos cv hc => (by cases hc)⟩
end
end K8
set_option maxHeartbeats 0
open PySem PySem.W PySem.Calls PyProof.Rows
theorem PySem.Challenge.cw_runcolumns_k08_whole_keys_holds : PySem.Challenge.rw_runcolumns_k08_whole_keys.Holds := by
  w_on; o_law
  refine HandSHeadRun.head_any (r := OpenLaw.row PySem.Challenge.rw_runcolumns_k08_whole_keys) (q := view (OpenLaw.row PySem.Challenge.rw_runcolumns_k08_whole_keys).prog [51]) (H := K8.hookQ) (ob := K8.ob) (M := 4000) (loose := K8.nms) (d := HandSHeadRun.topDef (OpenLaw.row PySem.Challenge.rw_runcolumns_k08_whole_keys).prog 51) (kwd := []) K8.ob_eq
    (by kernel_rfl) (fun s => by kernel_rfl) K8.run (by kernel_rfl) (by kernel_rfl) (by kernel_rfl) (by rfl) (by first | assumption | decide +kernel) (by decide +kernel) ⟨rfl, rfl, rfl, rfl, rfl, by decide +kernel⟩ ?hw ?hc
  case hw => w_witness2
  case hc =>
    refine LamX.walk_ofTsE (l := PySem.Challenge.rw_runcolumns_k08_whole_keys) (n := 63) (k := 9) (x := "_law_script") (CX := fun _ => L2.CX0) rfl (by decide) (by kernel_rfl) ⟨rfl, by decide, by decide⟩ ?F (fun _ _ _ _ _ z => z)
    intro w mg fa h Y G hmg0
    obtain ⟨K, KX, c⟩ := Y
    have hmg : mg ("law" : PySem.Str) = some (.ref fa) := by
      have e : (HandSHeadRun.topDef (OpenLaw.row PySem.Challenge.rw_runcolumns_k08_whole_keys).prog 51).name = ("law" : PySem.Str) := by kernel_rfl
      rw [← e]
      exact hmg0
    exact ⟨K, KX, K8.law_at KX G hmg c⟩
