import PyProof.Rows.All
import Wide.All
import OpenK.AllK
import Wide.FinOn
import HandS.ForMost
import HandS.Evl
import HandS.TupAny
import HandS.TupMul
import HandS.Conv
import HandS.IsInst
import HandS.Zip
import HandS.Ends
import PyProof.ReprRoads
import HandS.Dict
import HandS.DictComp
import HandS.More
import KE.KEqDict
import PyProof.DictUpdate
import HandS.Iter
import PyProof.Draws
import PyProof.EnumMake
import PyProof.ReprBulk
import PySem.Challenge.RW_phiworks_k36_whole_rows_as_terms
import HandS.TupSets
import HandS.Style
import KE.KRevSl
import HandS.Wide
import KE.GoesMore
import KE.KDictZip
import PyProof.NeKinds
import HandS.TupLe
set_option Elab.async false
set_option linter.all false
set_option maxRecDepth 100000
set_option maxHeartbeats 4000000
/-! Plain data (none, bools, ints, texts, tuples of such) and what evaluates to it. -/
namespace Pd
open PySem PySem.Spec PyProof.Rows L2 Evl

/-- a tuple that stands for good: tracked, or one of the module's own -/
def TupAt (K : PySem.W.Frag) (H : Hp) (a : Addr) (xs : List V) : Prop :=
  H a = some (.tup xs) ∨ ∃ (o : Obj) (its : Array Value) (n : Nat), K.lookup a = some o ∧ o.cls = .type "tuple" ∧ o.data = .seq its n ∧ its.size ≤ sizeLine ∧ Vals xs its.toList
theorem TupAt.sq {K : PySem.W.Frag} {H : Hp} {a : Addr} {xs : List V} (h : TupAt K H a xs) : SqT K H a xs := h.imp Or.inl id
/-- tuples stay -/
def Tx (H H' : Hp) : Prop := ∀ a xs, H a = some (.tup xs) → H' a = some (.tup xs)
theorem Tx.refl (H : Hp) : Tx H H := fun _ _ h => h
theorem Tx.trans {H H1 H2 : Hp} (a : Tx H H1) (b : Tx H1 H2) : Tx H H2 := fun x o h => b x o (a x o h)
theorem tx_of {H H' : Hp} (e : Ex H H') : Tx H H' := fun a xs h => e a _ h
theorem Tx.upd {H : Hp} {p : Addr} {o : HO} (h : ∀ xs, H p ≠ some (.tup xs)) : Tx H (upd H p o) := fun a xs e => by
  rw [upd_ne (fun z => by subst z; exact h xs e)]
  exact e
theorem Tx.updL {H : Hp} {p : Addr} {o : HO} {ys : List V} (h : H p = some (.lst ys)) : Tx H (L2.upd H p o) := Tx.upd fun xs e => by
  rw [h] at e
  cases e

mutual
inductive PV (K : PySem.W.Frag) (H : Hp) : V → PyData → Prop
  | non : PV K H .non .none
  | bl (b : Bool) : PV K H (.bl b) (.bool b)
  | int (i : Int) : PV K H (.int i) (.int i)
  | str (x : Str) : PV K H (.str x) (.str x)
  | tup {a : Addr} {xs : List V} {ds : List PyData} : TupAt K H a xs → PVs K H xs ds → PV K H (.ref a) (.tuple ds)
inductive PVs (K : PySem.W.Frag) (H : Hp) : List V → List PyData → Prop
  | nil : PVs K H [] []
  | cons {v : V} {vs : List V} {d : PyData} {ds : List PyData} : PV K H v d → PVs K H vs ds → PVs K H (v :: vs) (d :: ds)
end
section
variable {K : PySem.W.Frag} {H H' H1 : Hp}
mutual
theorem PV.dp : ∀ (d : PyData) {v : V}, PV K H v d → Dp K H v d
  | .none, _, h => by cases h; exact .non
  | .bool b, _, h => by cases h; exact .bl b
  | .int i, _, h => by cases h; exact .int i
  | .str x, _, h => by cases h; exact .str x
  | .list xs, _, h => by cases h
  | .dict xs, _, h => by cases h
  | .tuple ds, _, h => by
    cases h with
    | tup a b => exact .tup a.sq (PVs.dp ds b)
theorem PVs.dp : ∀ (ds : List PyData) {vs : List V}, PVs K H vs ds → DpAll K H vs ds
  | [], _, h => by cases h; exact .nil
  | d :: ds, _, h => by
    cases h with
    | cons a b => exact .cons (PV.dp d a) (PVs.dp ds b)
end
theorem TupAt.tx {a : Addr} {xs : List V} (e : Tx H H') (h : TupAt K H a xs) : TupAt K H' a xs := h.imp (fun h => e a xs h) id
mutual
theorem PV.tx (e : Tx H H') : ∀ (d : PyData) {v : V}, PV K H v d → PV K H' v d
  | .none, _, h => by cases h; exact .non
  | .bool b, _, h => by cases h; exact .bl b
  | .int i, _, h => by cases h; exact .int i
  | .str x, _, h => by cases h; exact .str x
  | .list xs, _, h => by cases h
  | .dict xs, _, h => by cases h
  | .tuple ds, _, h => by
    cases h with
    | tup a b => exact .tup (a.tx e) (PVs.tx e ds b)
theorem PVs.tx (e : Tx H H') : ∀ (ds : List PyData) {vs : List V}, PVs K H vs ds → PVs K H' vs ds
  | [], _, h => by cases h; exact .nil
  | d :: ds, _, h => by
    cases h with
    | cons a b => exact .cons (PV.tx e d a) (PVs.tx e ds b)
end
theorem PV.ex {d : PyData} {v : V} (h : PV K H v d) (e : Ex H H') : PV K H' v d := h.tx (tx_of e)
theorem PVs.ex {ds : List PyData} {vs : List V} (h : PVs K H vs ds) (e : Ex H H') : PVs K H' vs ds := h.tx (tx_of e)
theorem PVs.length : ∀ {ds : List PyData} {vs : List V}, PVs K H vs ds → vs.length = ds.length
  | [], _, h => by cases h; rfl
  | d :: ds, _, h => by
    cases h with
    | cons a b => exact congrArg (· + 1) b.length
theorem PVs.get : ∀ {ds : List PyData} {vs : List V} {i : Nat} {v : V}, PVs K H vs ds → vs[i]? = some v → ∃ d, ds[i]? = some d ∧ PV K H v d
  | [], _, i, v, h, e => by cases h; cases e
  | d :: ds, _, 0, v, h, e => by
    cases h with
    | cons a b =>
      cases e
      exact ⟨d, rfl, a⟩
  | d :: ds, _, i + 1, v, h, e => by
    cases h with
    | cons a b => exact PVs.get (i := i) b e
theorem PVs.at : ∀ {ds : List PyData} {vs : List V} {i : Nat} {d : PyData}, PVs K H vs ds → ds[i]? = some d → ∃ v, vs[i]? = some v ∧ PV K H v d
  | [], _, i, v, h, e => by cases e
  | d :: ds, _, 0, v, h, e => by
    cases h with
    | cons a b =>
      cases e
      exact ⟨_, rfl, a⟩
  | d :: ds, _, i + 1, v, h, e => by
    cases h with
    | cons a b => exact PVs.at (i := i) b e
theorem PVs.append : ∀ {ds es : List PyData} {vs ws : List V}, PVs K H vs ds → PVs K H ws es → PVs K H (vs ++ ws) (ds ++ es)
  | [], _, _, _, h, k => by cases h; exact k
  | d :: ds, _, _, _, h, k => by
    cases h with
    | cons a b => exact .cons a (PVs.append b k)
theorem PVs.one {d : PyData} {v : V} (h : PV K H v d) : PVs K H [v] [d] := .cons h .nil
theorem PVs.ints : ∀ ns : List Int, PVs K H (ns.map V.int) (ns.map PyData.int)
  | [] => .nil
  | n :: ns => .cons (.int n) (PVs.ints ns)
theorem PVs.of_ints : ∀ {ns : List Int} {vs : List V}, PVs K H vs (ns.map PyData.int) → vs = ns.map V.int
  | [], _, h => by cases h; rfl
  | n :: ns, _, h => by
    cases h with
    | cons a b =>
      cases a
      rw [PVs.of_ints b]
      rfl
theorem pv_int {v : V} {i : Int} (h : PV K H v (.int i)) : v = .int i := by cases h; rfl
theorem pv_str {v : V} {x : Str} (h : PV K H v (.str x)) : v = .str x := by cases h; rfl
theorem pv_bl {v : V} {b : Bool} (h : PV K H v (.bool b)) : v = .bl b := by cases h; rfl
theorem pv_non {v : V} (h : PV K H v .none) : v = .non := by cases h; rfl
theorem pv_tup {v : V} {ds : List PyData} (h : PV K H v (.tuple ds)) : ∃ a xs, v = .ref a ∧ TupAt K H a xs ∧ PVs K H xs ds := by
  cases h with
  | tup a b => exact ⟨_, _, rfl, a, b⟩
theorem pv_isnon {v : V} {d : PyData} (h : PV K H v d) : decide (v = .non) = (match d with | .none => true | _ => false) := by
  cases h <;> rfl

/-! ### expressions -/
def EvP (K : PySem.W.Frag) (te : TE) (σ : L2.St) (H : Hp) (d : PyData) : Prop := ∀ H1, Ex H H1 → ∀ Q : VK, (∀ v H2, Ex H1 H2 → PV K H2 v d → Q v H2) → te σ H1 Q
def EvPs (K : PySem.W.Frag) (ta : TA) (σ : L2.St) (H : Hp) (ds : List PyData) : Prop := ∀ H1, Ex H H1 → ∀ Q : List V → Hp → Prop, (∀ vs H2, Ex H1 H2 → PVs K H2 vs ds → Q vs H2) → ta σ H1 Q
/-- a new list of such -/
def EvPL (K : PySem.W.Frag) (te : TE) (σ : L2.St) (H : Hp) (ds : List PyData) : Prop := ∀ H1, Ex H H1 → ∀ Q : VK, (∀ p vs H2, H1 p = none → Ex H1 H2 → H2 p = some (.lst vs) → PVs K H2 vs ds → Q (.ref p) H2) → te σ H1 Q
variable {σ : L2.St} {ta tb te : TE} {t : TT} {d e f : PyData} {ds es : List PyData} {v x y : V}
theorem EvP.mono (h : EvP K te σ H d) (e : Ex H H') : EvP K te σ H' d := fun H1 a Q q => h H1 (e.trans a) Q q
theorem EvPs.mono {ta : TA} (h : EvPs K ta σ H ds) (e : Ex H H') : EvPs K ta σ H' ds := fun H1 a Q q => h H1 (e.trans a) Q q
theorem EvPL.mono (h : EvPL K te σ H ds) (e : Ex H H') : EvPL K te σ H' ds := fun H1 a Q q => h H1 (e.trans a) Q q
theorem ep_ev (h : Ev te σ H v) (p : PV K H v d) : EvP K te σ H d := fun H1 e Q q => h H1 e _ fun H2 e2 => q v H2 e2 (p.ex (e.trans e2))
theorem ep_var {i : Nat} (h : σ[i]? = some (some v)) (p : PV K H v d) : EvP K (tVar i) σ H d := ep_ev (ev_var h) p
theorem ep_c (p : PV K H v d) : EvP K (tC v) σ H d := ep_ev ev_c p
theorem ep_int {i : Int} : EvP K (tC (.int i)) σ H (.int i) := ep_c (.int i)
theorem ep_str {x : Str} : EvP K (tC (.str x)) σ H (.str x) := ep_c (.str x)
theorem ep_non : EvP K (tC .non) σ H .none := ep_c .non
theorem ep_bl {b : Bool} : EvP K (tC (.bl b)) σ H (.bool b) := ep_c (.bl b)
theorem ev_epI {i : Int} (h : EvP K te σ H (.int i)) : Ev te σ H (.int i) := fun H1 e Q q => h H1 e _ fun v H2 e2 p => by
  cases p
  exact q H2 e2
theorem ev_epS {x : Str} (h : EvP K te σ H (.str x)) : Ev te σ H (.str x) := fun H1 e Q q => h H1 e _ fun v H2 e2 p => by
  cases p
  exact q H2 e2
theorem ev_epB {b : Bool} (h : EvP K te σ H (.bool b)) : Ev te σ H (.bl b) := fun H1 e Q q => h H1 e _ fun v H2 e2 p => by
  cases p
  exact q H2 e2
theorem ep_evI {i : Int} (h : Ev te σ H (.int i)) : EvP K te σ H (.int i) := ep_ev h (.int i)
theorem ep_evB {b : Bool} (h : Ev te σ H (.bl b)) : EvP K te σ H (.bool b) := ep_ev h (.bl b)
theorem eps_nil : EvPs K tNil σ H [] := fun H1 _ _ q => q [] H1 (Ex.refl H1) .nil
theorem eps_cons {tr : TA} (h : EvP K te σ H d) (hr : EvPs K tr σ H ds) : EvPs K (tCons te tr) σ H (d :: ds) := fun H1 e _ q =>
  h H1 e _ fun v H2 e2 p => hr H2 (e.trans e2) _ fun vs H3 e3 ps => q _ H3 (e2.trans e3) (.cons (p.ex e3) ps)
theorem ep_tup {ta : TA} (h : EvPs K ta σ H ds) (hl : ds.length ≤ 100000) : EvP K (tTup ta) σ H (.tuple ds) := fun H1 e _ q =>
  h H1 e _ fun vs H2 e2 ps => ⟨by rw [ps.length]; exact sz_of hl, fun p hp => q _ _ (e2.trans (Ex.new hp)) (.tup (.inl upd_same) (ps.ex (Ex.new hp)))⟩
theorem el_tup {ta : TA} (h : EvPs K ta σ H ds) (hl : ds.length ≤ 100000) : EvPL K (tLst ta) σ H ds := fun H1 e _ q =>
  h H1 e _ fun vs H2 e2 ps => ⟨by rw [ps.length]; exact sz_of hl, fun p hp => q p vs _ (fresh_back e2 hp) (e2.trans (Ex.new hp)) upd_same (ps.ex (Ex.new hp))⟩
theorem ep_if {b : Bool} (h : EvT t σ H b) (h1 : b = true → EvP K ta σ H d) (h2 : b = false → EvP K tb σ H d) : EvP K (tIf t ta tb) σ H d := fun H1 e Q q => h H1 e _ fun H2 e2 => by
  cases b with
  | true =>
    show ta σ H2 Q
    exact h1 rfl H2 (e.trans e2) Q fun v H3 e3 p => q v H3 (e2.trans e3) p
  | false =>
    show tb σ H2 Q
    exact h2 rfl H2 (e.trans e2) Q fun v H3 e3 p => q v H3 (e2.trans e3) p
/-- a test whose answer the data tells -/
theorem et_eqD (ha : EvP K ta σ H d) (hb : EvP K tb σ H e) (s1 : SeqAt.shaped d = true) (s2 : SeqAt.shaped e = true) : Ev (tOp (rEqD K) ta tb) σ H (.bl (PyData.eqv d e)) := fun H1 x Q q =>
  ha H1 x _ fun v H2 e2 p => hb H2 (x.trans e2) _ fun u H3 e3 p2 => ⟨d, e, (p.ex e3).dp, p2.dp, s1, s2, q H3 (e2.trans e3)⟩
theorem et_neD (ha : EvP K ta σ H d) (hb : EvP K tb σ H e) (s1 : SeqAt.shaped d = true) (s2 : SeqAt.shaped e = true) : Ev (tOp (rNeD K) ta tb) σ H (.bl (!PyData.eqv d e)) := fun H1 x Q q =>
  ha H1 x _ fun v H2 e2 p => hb H2 (x.trans e2) _ fun u H3 e3 p2 => ⟨d, e, (p.ex e3).dp, p2.dp, s1, s2, q H3 (e2.trans e3)⟩
def isNone : PyData → Bool
  | .none => true
  | _ => false
theorem pv_isNone (h : PV K H v d) : decide (v = .non) = isNone d := by cases h <;> rfl
theorem et_isN (ha : EvP K ta σ H d) : Ev (tOp (fun x y H Q => y = .non ∧ Q (.bl (decide (x = .non))) H) ta (tC .non)) σ H (.bl (isNone d)) := fun H1 x Q q =>
  ha H1 x _ fun v H2 e2 p => ⟨rfl, by rw [pv_isNone p]; exact q H2 e2⟩
theorem et_notN (ha : EvP K ta σ H d) : Ev (tOp (fun x y H Q => y = .non ∧ Q (.bl (!decide (x = .non))) H) ta (tC .non)) σ H (.bl (!isNone d)) := fun H1 x Q q =>
  ha H1 x _ fun v H2 e2 p => ⟨rfl, by rw [pv_isNone p]; exact q H2 e2⟩
/-- t + u -/
theorem ep_cat (ha : EvP K ta σ H (.tuple ds)) (hb : EvP K tb σ H (.tuple es)) (hl : ds.length + es.length ≤ 100000) : EvP K (tOp (rCatA K) ta tb) σ H (.tuple (ds ++ es)) := fun H1 x Q q =>
  ha H1 x _ fun v H2 e2 p => hb H2 (x.trans e2) _ fun u H3 e3 p2 => by
    obtain ⟨a, xs, rfl, hx, px⟩ := pv_tup (p.ex e3)
    obtain ⟨b, ys, rfl, hy, py⟩ := pv_tup p2
    refine ⟨a, b, xs, ys, rfl, rfl, hx.sq, hy.sq, by rw [px.length, py.length]; exact sz_of hl, fun z => ?_, fun _ z => ?_, fun _ _ c hc => ?_⟩
    · subst z
      cases px
      exact q _ H3 (e2.trans e3) p2
    · subst z
      cases py
      refine q _ H3 (e2.trans e3) ?_
      rw [List.append_nil]
      exact .tup hx px
    · exact q _ _ ((e2.trans e3).trans (Ex.new hc)) (.tup (.inl upd_same) ((px.append py).ex (Ex.new hc)))
/-- t[i] -/
theorem ep_ixT {i : Nat} (ha : EvP K ta σ H (.tuple ds)) (hb : Ev tb σ H (.int (i : Int))) (hi : ds[i]? = some d) : EvP K (tOp (rIxT K) ta tb) σ H d := fun H1 x Q q =>
  ha H1 x _ fun v H2 e2 p => hb H2 (x.trans e2) _ fun H3 e3 => by
    obtain ⟨a, xs, rfl, hx, px⟩ := pv_tup (p.ex e3)
    obtain ⟨w, hw, pw⟩ := px.at hi
    exact ⟨a, xs, (i : Int), w, rfl, rfl, hx.sq, atI_nat hw, q w H3 (e2.trans e3) pw⟩
/-- xs[i], a list that stands -/
theorem ep_ixL {a : Addr} {xs : List V} {i : Nat} (ha : Ev ta σ H (.ref a)) (hx : SqL K H a xs) (px : PVs K H xs ds) (hb : Ev tb σ H (.int (i : Int))) (hi : ds[i]? = some d) : EvP K (tOp (rIxL K) ta tb) σ H d := fun H1 x Q q =>
  ha H1 x _ fun H2 e2 => hb H2 (x.trans e2) _ fun H3 e3 => by
    obtain ⟨w, hw, pw⟩ := px.at hi
    exact ⟨a, xs, (i : Int), w, rfl, rfl, ex_l ((x.trans e2).trans e3) hx, atI_nat hw, q w H3 (e2.trans e3) (pw.ex ((x.trans e2).trans e3))⟩
/-- what a pure def promises -/
def spP (K : PySem.W.Frag) (R : List PyData → PyData → Prop) : Sp := fun vs H Q _ => ∃ ds d, PVs K H vs ds ∧ R ds d ∧ ∀ v H', Ex H H' → PV K H' v d → Q v H'
theorem ep_call {R : List PyData → PyData → Prop} {E : XK} {ta : TA} (h : EvPs K ta σ H ds) (hR : R ds d) : EvP K (tCall (spP K R) [] E ta) σ H d := fun H1 e Q q =>
  h H1 e _ fun vs H2 e2 ps => ⟨ds, d, by rw [List.append_nil]; exact ps, hR, fun v H' e3 p => q v H' (e2.trans e3) p⟩
/-- tuple([..]) -/
theorem ep_tupleOf (h : EvPL K te σ H ds) : EvP K (tThen te (kTup K)) σ H (.tuple ds) := fun H1 e Q q =>
  h H1 e _ fun p vs H2 hp e2 hl ps => .inl ⟨p, vs, rfl, SqL.of hl, fun c hc => q _ _ (e2.trans (Ex.new hc)) (.tup (.inl upd_same) (ps.ex (Ex.new hc)))⟩
def upTo (n : Nat) : List Int := (List.range n).map fun (i : Nat) => (i : Int)
theorem upTo_length (n : Nat) : (upTo n).length = n := by simp [upTo]
theorem rgV_nat (n : Nat) : rgV 0 (n : Int) = (upTo n).map V.int := by
  unfold rgV upTo
  rw [List.map_map]
  simp
theorem ep_tupRg {n : Nat} (h : Ev te σ H (.int (n : Int))) (hn : n ≤ 100000) : EvP K (tTupRg (tRg1 te)) σ H (.tuple ((upTo n).map PyData.int)) := fun H1 e Q q =>
  h H1 e _ fun H2 e2 => ⟨(n : Int), rfl, ⟨by omega, by omega, by omega, by omega, by omega⟩, fun c hc => q _ _ (e2.trans (Ex.new hc)) (.tup (.inl upd_same) (by rw [rgV_nat]; exact PVs.ints _))⟩
theorem el_lstRg {n : Nat} (h : Ev te σ H (.int (n : Int))) (hn : n ≤ 100000) : EvPL K (tLstRg (tRg1 te)) σ H ((upTo n).map PyData.int) := fun H1 e Q q =>
  h H1 e _ fun H2 e2 => ⟨(n : Int), rfl, ⟨by omega, by omega, by omega, by omega, by omega⟩, fun c hc => q c _ _ (fresh_back e2 hc) (e2.trans (Ex.new hc)) upd_same (by rw [rgV_nat]; exact PVs.ints _)⟩

/-! ### comprehensions without a test -/
def Cv (K : PySem.W.Frag) (H : Hp) (F : List PyData) (Dl : Addr) (i : Nat) (H' : Hp) : Prop := H Dl = none ∧ Ex H H' ∧ ∃ vs, H' Dl = some (.lst vs) ∧ PVs K H' vs (F.take i)
theorem cv0 {F : List PyData} {Dl : Addr} (h : H Dl = none) : Cv K H F Dl 0 (upd H Dl (.lst [])) := ⟨h, Ex.new h, [], upd_same, .nil⟩
theorem cv_turn {F : List PyData} {Dl : Addr} {i : Nat} {σ2 : L2.St} (p : Cv K H F Dl i H') (hl : F.length ≤ 50000) (hi : F[i]? = some d) (he : EvP K te σ2 H' d) :
    tYes σ2 H' fun b H3 => if b = true then te σ2 H3 fun y H4 => ∃ acc, H4 Dl = some (.lst acc) ∧ acc.length < sizeLine ∧ Cv K H F Dl (i + 1) (upd H4 Dl (.lst (acc ++ [y]))) else Cv K H F Dl (i + 1) H3 := by
  obtain ⟨p1, p2, vs, p3, p4⟩ := p
  show te σ2 H' fun y H4 => ∃ acc, H4 Dl = some (.lst acc) ∧ acc.length < sizeLine ∧ Cv K H F Dl (i + 1) (upd H4 Dl (.lst (acc ++ [y])))
  refine he H' (Ex.refl H') _ fun v H4 e4 pv => ⟨vs, e4 Dl _ p3, ?_, p1, Ex.mut (p2.trans e4) p1, vs ++ [v], upd_same, ?_⟩
  · have h1 := p4.length
    rw [List.length_take] at h1
    exact sz_lt (by omega)
  · rw [List.take_add_one, hi]
    exact (((p4.ex e4).append (PVs.one pv))).tx (Tx.updL (e4 Dl _ p3))
/-- over range(n) -/
theorem el_lcR {ta : TA} {j : Nat} {vs : List Nat} {n : Nat} (F : Nat → PyData) (h : EvPs K ta σ H [.int (n : Int)]) (hn : n ≤ 40000) (hw : ∀ x, wipe ((wipe σ vs).set j (some x)) vs = wipe σ vs)
    (he : ∀ (i : Nat) H1, Ex H H1 → i < n → EvP K te ((wipe σ vs).set j (some (.int (i : Int)))) H1 (F i)) : EvPL K (tLc (iRng1 ta) (gName j) tYes te vs) σ H ((List.range n).map F) := fun H0 e Q q => h H0 e _ fun us H1 e1 pu => by
  cases pu with
  | cons a b =>
    cases a
    cases b
    refine ⟨(n : Int), rfl, by omega, by omega, fun Dl hD => ?_⟩
    refine lc_range (lo := 0) (n := n) (Cv K H1 ((List.range n).map F) Dl) (cv0 hD) (fun i H' hi p => ?_) (fun H' p => ?_)
    · have e0 : (0 : Int) + (i : Int) = (i : Int) := Int.zero_add _
      rw [e0]
      refine ⟨hw _, cv_turn p (by simp; omega) (d := F i) ?_ (he i H' ((e.trans e1).trans p.2.1) hi)⟩
      simp [hi]
    · obtain ⟨p1, p2, vs', p3, p4⟩ := p
      refine q Dl vs' H' (fresh_back e1 p1) (e1.trans p2) p3 ?_
      rw [List.take_of_length_le (by simp)] at p4
      exact p4
/-- over a list that stands; g any target -/
theorem el_lcL {a : Addr} {xs : List V} {tl : TE} {g : TG} {vs : List Nat} (S : V → L2.St) (F : List PyData) (h : Ev tl σ H (.ref a)) (hx : SqL K H a xs) (hF : F.length = xs.length) (hz : xs.length ≤ 40000)
    (he : ∀ (i : Nat) (x : V) (d : PyData) H1, Ex H H1 → xs[i]? = some x → F[i]? = some d → ∀ Q : L2.St → Hp → Prop, (∀ σ2 H2, Ex H1 H2 → wipe σ2 vs = wipe σ vs → EvP K te σ2 H2 d → Q σ2 H2) → g x (wipe σ vs) H1 Q) : EvPL K (tLc (iList K tl) g tYes te vs) σ H F := fun H0 e Q q => h H0 e _ fun H1 e1 =>
  ⟨a, rfl, ⟨xs, ex_l (e.trans e1) hx⟩, fun Dl hD => lc_list (xs := xs) (Cv K H1 F Dl) (cv0 hD) (fun i H' _ p => ex_l ((e.trans e1).trans p.2.1) hx) (fun i x H' hi p => by
    obtain ⟨d, hd⟩ : ∃ d, F[i]? = some d := ⟨_, List.getElem?_eq_getElem (by rw [hF]; exact (List.getElem?_eq_some_iff.mp hi).1)⟩
    refine he i x d H' ((e.trans e1).trans p.2.1) hi hd _ fun σ2 H2 e2 hw ev => ⟨hw, ?_⟩
    obtain ⟨p1, p2, ws, p3, p4⟩ := p
    exact cv_turn ⟨p1, p2.trans e2, ws, e2 Dl _ p3, p4.ex e2⟩ (by omega) hd ev) (fun H' p => by
    obtain ⟨p1, p2, ws, p3, p4⟩ := p
    refine q Dl ws H' (fresh_back e1 p1) (e1.trans p2) p3 ?_
    rw [List.take_of_length_le (by omega)] at p4
    exact p4)⟩
theorem el_lcT {tl : TE} {g : TG} {vs : List Nat} (F : List PyData) (h : EvP K tl σ H (.tuple ds)) (hF : F.length = ds.length) (hz : ds.length ≤ 40000)
    (he : ∀ (i : Nat) (x : V) (c d : PyData) H1, Ex H H1 → ds[i]? = some c → PV K H1 x c → F[i]? = some d → ∀ Q : L2.St → Hp → Prop, (∀ σ2 H2, Ex H1 H2 → wipe σ2 vs = wipe σ vs → EvP K te σ2 H2 d → Q σ2 H2) → g x (wipe σ vs) H1 Q) : EvPL K (tLc (iTup K tl) g tYes te vs) σ H F := fun H0 e Q q => h H0 e _ fun v H1 e1 pv => by
  obtain ⟨a, xs, rfl, hx, px⟩ := pv_tup pv
  have hl := px.length
  refine ⟨a, rfl, ⟨xs, hx.sq⟩, fun Dl hD => lc_tup (xs := xs) (Cv K H1 F Dl) (cv0 hD) (fun i H' _ p => (hx.tx (tx_of p.2.1)).sq) (fun i x H' hi p => ?_) (fun H' p => ?_)⟩
  · obtain ⟨d, hd⟩ : ∃ d, F[i]? = some d := ⟨_, List.getElem?_eq_getElem (by rw [hF, ← hl]; exact (List.getElem?_eq_some_iff.mp hi).1)⟩
    obtain ⟨c, hc, pc⟩ := px.get hi
    refine he i x c d H' ((e.trans e1).trans p.2.1) hc (pc.ex p.2.1) hd _ fun σ2 H2 e2 hw ev => ⟨hw, ?_⟩
    obtain ⟨p1, p2, ws, p3, p4⟩ := p
    exact cv_turn ⟨p1, p2.trans e2, ws, e2 Dl _ p3, p4.ex e2⟩ (by omega) hd ev
  · obtain ⟨p1, p2, ws, p3, p4⟩ := p
    refine q Dl ws H' (fresh_back e1 p1) (e1.trans p2) p3 ?_
    rw [List.take_of_length_le (by omega)] at p4
    exact p4

/-! ### statements -/
variable {D : Ends} {tu tw tz : TS}
theorem s_asgP {i : Nat} (h : EvP K te σ H d) (k : ∀ v H1, Ex H H1 → PV K H1 v d → D.nx (σ.set i (some v)) H1) : tAsg te (gName i) D σ H := h H (Ex.refl H) _ fun v H1 e p => k v H1 e p
theorem q_asgP {i : Nat} (h : EvP K te σ H d) (k : ∀ v H1, Ex H H1 → PV K H1 v d → tz D (σ.set i (some v)) H1) : tSeq (tAsg te (gName i)) tz D σ H := s_asgP (D := { D with nx := tz D }) h k
theorem s_retP (h : EvP K te σ H d) (k : ∀ v H1, Ex H H1 → PV K H1 v d → D.rt v H1) : tRet te D σ H := h H (Ex.refl H) _ k
theorem s_asgPL {i : Nat} (h : EvPL K te σ H ds) (k : ∀ p vs H1, H p = none → Ex H H1 → H1 p = some (.lst vs) → PVs K H1 vs ds → D.nx (σ.set i (some (.ref p))) H1) : tAsg te (gName i) D σ H := h H (Ex.refl H) _ fun p vs H1 hp e h1 ps => k p vs H1 hp e h1 ps
theorem q_asgPL {i : Nat} (h : EvPL K te σ H ds) (k : ∀ p vs H1, H p = none → Ex H H1 → H1 p = some (.lst vs) → PVs K H1 vs ds → tz D (σ.set i (some (.ref p))) H1) : tSeq (tAsg te (gName i)) tz D σ H := s_asgPL (D := { D with nx := tz D }) h k
theorem s_retPL (h : EvPL K te σ H ds) (k : ∀ p vs H1, H p = none → Ex H H1 → H1 p = some (.lst vs) → PVs K H1 vs ds → D.rt (.ref p) H1) : tRet te D σ H := h H (Ex.refl H) _ k
/-- for x in t -/
theorem s_forTP {tl : TE} {g : TG} (h : EvP K tl σ H (.tuple ds)) (Pv : Hp → Nat → L2.St → Hp → Prop) (h0 : ∀ H1, Ex H H1 → Pv H1 0 σ H1) (hT : ∀ H1 i σ' H', Pv H1 i σ' H' → Tx H1 H')
    (hs : ∀ H1 i x d σ' H', Ex H H1 → ds[i]? = some d → PV K H' x d → Pv H1 i σ' H' → g x σ' H' fun σ2 H2 => tu { D with nx := Pv H1 (i + 1), ct := Pv H1 (i + 1), bk := D.nx } σ2 H2) (hd : ∀ H1 σ' H', Ex H H1 → Pv H1 ds.length σ' H' → D.nx σ' H') : tFor (iTup K tl) g tu D σ H :=
  h H (Ex.refl H) _ fun v H1 e pv => by
    obtain ⟨a, xs, rfl, hx, px⟩ := pv_tup pv
    refine ⟨a, rfl, ⟨xs, hx.sq⟩, for_tup (Pv H1) (h0 H1 e) (fun i σ' H' _ p => (hx.tx (hT H1 i σ' H' p)).sq) (fun i x σ' H' hi p => ?_) (fun σ' H' p => hd H1 σ' H' e (by rw [← px.length]; exact p))⟩
    obtain ⟨d, hd, pd⟩ := px.get hi
    exact hs H1 i x d σ' H' e hd (pd.tx (hT H1 i σ' H' p)) p
theorem q_forTP {tl : TE} {g : TG} (h : EvP K tl σ H (.tuple ds)) (Pv : Hp → Nat → L2.St → Hp → Prop) (h0 : ∀ H1, Ex H H1 → Pv H1 0 σ H1) (hT : ∀ H1 i σ' H', Pv H1 i σ' H' → Tx H1 H')
    (hs : ∀ H1 i x d σ' H', Ex H H1 → ds[i]? = some d → PV K H' x d → Pv H1 i σ' H' → g x σ' H' fun σ2 H2 => tu { D with nx := Pv H1 (i + 1), ct := Pv H1 (i + 1), bk := tz D } σ2 H2) (hd : ∀ H1 σ' H', Ex H H1 → Pv H1 ds.length σ' H' → tz D σ' H') : tSeq (tFor (iTup K tl) g tu) tz D σ H :=
  s_forTP (D := { D with nx := tz D }) h Pv h0 hT hs hd
/-- a, b, c = t: the target of a tuple of data -/
theorem g_tup3 {i j k : Nat} {Q : L2.St → Hp → Prop} {d1 d2 d3 : PyData} (h : PV K H v (.tuple [d1, d2, d3])) (q : ∀ v1 v2 v3, PV K H v1 d1 → PV K H v2 d2 → PV K H v3 d3 → Q (((σ.set i (some v1)).set j (some v2)).set k (some v3)) H) :
    gTup K 3 (gCons (gName i) (gCons (gName j) (gCons (gName k) gNil))) v σ H Q := by
  obtain ⟨a, xs, rfl, hx, px⟩ := pv_tup h
  cases px with
  | cons p1 px => cases px with
    | cons p2 px => cases px with
      | cons p3 px =>
        cases px
        exact ⟨a, _, rfl, hx.sq, rfl, _, _, rfl, _, _, rfl, _, _, rfl, rfl, q _ _ _ p1 p2 p3⟩
theorem g_tup2 {i j : Nat} {Q : L2.St → Hp → Prop} {d1 d2 : PyData} (h : PV K H v (.tuple [d1, d2])) (q : ∀ v1 v2, PV K H v1 d1 → PV K H v2 d2 → Q ((σ.set i (some v1)).set j (some v2)) H) :
    gTup K 2 (gCons (gName i) (gCons (gName j) gNil)) v σ H Q := by
  obtain ⟨a, xs, rfl, hx, px⟩ := pv_tup h
  cases px with
  | cons p1 px => cases px with
    | cons p2 px =>
      cases px
      exact ⟨a, _, rfl, hx.sq, rfl, _, _, rfl, _, _, rfl, rfl, q _ _ p1 p2⟩
/-- [.. for a, b in zip(t, u)], two tuples of one length -/
theorem el_lcZ {tz : TA} {i j : Nat} {vs : List Nat} (F : List PyData) (h : EvPs K tz σ H [.tuple ds, .tuple es]) (hl : ds.length = es.length) (hF : F.length = ds.length) (hz : ds.length ≤ 40000) (hw : ∀ x y, wipe (((wipe σ vs).set i (some x)).set j (some y)) vs = wipe σ vs)
    (he : ∀ (k : Nat) (x y : V) (c c' d : PyData) H1, Ex H H1 → ds[k]? = some c → es[k]? = some c' → F[k]? = some d → PV K H1 x c → PV K H1 y c' → EvP K te (((wipe σ vs).set i (some x)).set j (some y)) H1 d) :
    EvPL K (tLc (RZ.iZipA K tz) (gTup K 2 (gCons (gName i) (gCons (gName j) gNil))) tYes te vs) σ H F := fun H0 e Q q => h H0 e _ fun us H1 e1 pu => by
  cases pu with
  | cons pa pu => cases pu with
    | cons pb pu =>
      cases pu
      obtain ⟨a, xs, rfl, hx, px⟩ := pv_tup pa
      obtain ⟨b, ys, rfl, hy, py⟩ := pv_tup pb
      have lx := px.length
      have ly := py.length
      refine ⟨a, b, xs, ys, rfl, .inr ⟨hx.sq, hy.sq, fun Dl hD => ?_⟩⟩
      refine ⟨fun i m H => m = xs.length - i ∧ i ≤ xs.length ∧ Cv K H1 F Dl i H, ⟨xs.length, by simp, Nat.zero_le _, cv0 hD⟩, ?_⟩
      rintro k m H' ⟨rfl, hk, p⟩
      have ex := p.2.1
      by_cases hlt : k < xs.length
      · have gx : xs[k]? = some xs[k] := List.getElem?_eq_getElem hlt
        have hlt2 : k < ys.length := by omega
        have gy : ys[k]? = some ys[k] := List.getElem?_eq_getElem hlt2
        refine .inr ⟨⟨xs, ys, _, _, (hx.tx (tx_of ex)).sq, (hy.tx (tx_of ex)).sq, gx, gy⟩, Cv K H1 F Dl (k + 1), fun H' p' => ⟨xs.length - (k + 1), by omega, rfl, hlt, p'⟩, fun v H'' yl => ?_⟩
        obtain ⟨T, x', y', rfl, hT, rfl, f1, f2⟩ := yl
        have hx' := f1 xs (hx.tx (tx_of ex)).sq
        have hy' := f2 ys (hy.tx (tx_of ex)).sq
        obtain ⟨c, hc, pc⟩ := px.get hx'
        obtain ⟨c', hc', pc'⟩ := py.get hy'
        obtain ⟨d, hd⟩ : ∃ d, F[k]? = some d := ⟨_, List.getElem?_eq_getElem (by omega)⟩
        have eT : Ex H' (upd H' T (.tup [x', y'])) := Ex.new hT
        refine ⟨T, [x', y'], rfl, .inl (.inl upd_same), rfl, x', [y'], rfl, y', [], rfl, rfl, hw _ _, ?_⟩
        obtain ⟨p1, p2, ws, p3, p4⟩ := p
        exact cv_turn ⟨p1, p2.trans eT, ws, eT Dl _ p3, p4.ex eT⟩ (by omega) hd (he k x' y' c c' d _ ((e.trans e1).trans (p2.trans eT)) hc hc' hd (pc.ex (p2.trans eT)) (pc'.ex (p2.trans eT)))
      · have e2 : k = xs.length := by omega
        subst e2
        obtain ⟨p1, p2, ws, p3, p4⟩ := p
        refine .inl ⟨⟨xs, ys, (hx.tx (tx_of p2)).sq, (hy.tx (tx_of p2)).sq, Or.inl (Nat.le_refl _)⟩, q Dl ws H' (fresh_back e1 p1) (e1.trans p2) p3 ?_⟩
        rw [List.take_of_length_le (by omega)] at p4
        exact p4
end
/-! ### equality of data without bools -/
mutual
def nob : PyData → Bool
  | .bool _ => false
  | .dict _ => false
  | .list xs => nobs xs
  | .tuple xs => nobs xs
  | .none => true
  | .int _ => true
  | .str _ => true
def nobs : List PyData → Bool
  | [] => true
  | d :: r => nob d && nobs r
end
mutual
theorem eqv_iff : ∀ d e : PyData, nob d = true → nob e = true → (PyData.eqv d e = true ↔ d = e)
  | .none, e, _, he => by cases e <;> simp [PyData.eqv]
  | .bool b, e, hd, he => by simp [nob] at hd
  | .dict b, e, hd, he => by simp [nob] at hd
  | .int i, e, hd, he => by cases e <;> simp [PyData.eqv] <;> simp [nob] at he
  | .str i, e, hd, he => by cases e <;> simp [PyData.eqv]
  | .list xs, e, hd, he => by
    cases e with
    | list ys =>
      rw [PyData.eqv, eqvs_iff xs ys (by simpa [nob] using hd) (by simpa [nob] using he)]
      simp
    | _ => simp [PyData.eqv]
  | .tuple xs, e, hd, he => by
    cases e with
    | tuple ys =>
      rw [PyData.eqv, eqvs_iff xs ys (by simpa [nob] using hd) (by simpa [nob] using he)]
      simp
    | _ => simp [PyData.eqv]
theorem eqvs_iff : ∀ xs ys : List PyData, nobs xs = true → nobs ys = true → (PyData.eqvAll xs ys = true ↔ xs = ys)
  | [], [], _, _ => by simp [PyData.eqvAll]
  | [], y :: ys, _, _ => by simp [PyData.eqvAll]
  | x :: xs, [], _, _ => by simp [PyData.eqvAll]
  | x :: xs, y :: ys, hx, hy => by
    simp only [nobs, Bool.and_eq_true] at hx hy
    rw [PyData.eqvAll, Bool.and_eq_true, eqv_iff x y hx.1 hy.1, eqvs_iff xs ys hx.2 hy.2]
    simp
end
theorem nobs_map {α : Type} (f : α → PyData) (h : ∀ a, nob (f a) = true) : ∀ l : List α, nobs (l.map f) = true
  | [] => rfl
  | a :: l => by
    rw [List.map_cons, nobs, h a, nobs_map f h l]
    rfl
theorem canAll_map {α : Type} (f : α → PyData) (h : ∀ a, PyData.canLay0 (f a) = true) : ∀ l : List α, PyData.canLayAll0 (l.map f) = true
  | [] => by simp [PyData.canLayAll0]
  | a :: l => by
    rw [List.map_cons, PyData.canLayAll0, h a, canAll_map f h l]
    rfl
theorem depthAll_map {α : Type} (f : α → PyData) (n : Nat) (h : ∀ a, (f a).depth ≤ n) : ∀ l : List α, PyData.depthAll (l.map f) ≤ n
  | [] => by simp [PyData.depthAll]
  | a :: l => by
    rw [List.map_cons, PyData.depthAll]
    exact Nat.max_le.mpr ⟨h a, depthAll_map f n h l⟩
theorem shaped_of {d : PyData} (h : d.canLay0 = true) (k : d.depth ≤ 64) : SeqAt.shaped d = true := by
  unfold SeqAt.shaped
  rw [h, decide_eq_true k]
  rfl
theorem eqv_dec {d e : PyData} {p : Prop} [Decidable p] (hd : nob d = true) (he : nob e = true) (h : d = e ↔ p) : PyData.eqv d e = decide p := by
  rw [Bool.eq_iff_iff, eqv_iff d e hd he, h]
  simp
end Pd

/-! Defs whose promise holds where no repr is under way (A.guards = some []): for str of tuples. -/
namespace Gd
open PySem PySem.Spec PyProof.Rows L2 Evl Pd
/-- a promise of a def, where no repr is under way -/
structure FnG (P : Program) (w : World) (K : PySem.W.Frag) (mg : Str → Option Value) (base : Heap) (k : Nat) (f : Addr) (fd : FuncData) (ps : List Str) (sp : Sp) : Prop where
  many : ∀ vs H Q E, sp vs H Q E → vs.length = ps.length
  go : ∀ (A : Around), A.guards = some [] → Room k A → ∀ (outer : List Env) (s : Shared) (H : Hp), Env0 P w K mg base A outer s H → ∀ (args : Args) (us : List Value), BindsTo s fd args (ps.zip us) → ∀ (vs : List V) (Q : VK) (E : XK), Vals vs us → sp vs H Q E →
    codeAny (model P w) A (.call (.ref f) args) (CR CX0 outer P w H s Q E) s
section
variable {P : Program} {w : World} {K : PySem.W.Frag} {mg : Str → Option Value} {base : Heap} {k : Nat} {f : Addr} {fd : FuncData} {ps : List Str} {sp : Sp}
theorem toG (F : FnOk P w K mg base CX0 k f fd ps sp) : FnG P w K mg base k f fd ps sp := ⟨F.len, fun A _ hr outer s H e0 args us hb vs Q E r h => F.run A outer s H args us vs Q E hr e0 hb r h⟩
/-- a def of the text, by its body -/
theorem ofBody {x qual : Str} {st : Stmt} {N : List Str} (F : Fun K x qual st f fd) (S : FnScope N ps (defScope st)) (many : ∀ vs H Q E, sp vs H Q E → vs.length = ps.length)
    (body : ∀ (cdv : Value) (A : Around) (outer : List Env) (s : Shared) (H : Hp) (vs : List V) (Q : VK) (E : XK), Room k (A.deeper (envOfC qual (defScope st) s.heap.objs.size f cdv)) → A.guards = some [] → sp vs H Q E →
      ∃ t, PSs (cxOf CX0 P w K mg base N qual (defScope st) f cdv A outer s H E).nox (defBody st) t ∧ t { nx := fun _ H' => Q .non H', rt := Q } (L2.start N vs) H) : FnG P w K mg base (k + 1) f fd ps sp where
  many := many
  go := by
    intro A hG hr outer s H e0 args us hb vs Q E r h
    obtain ⟨oc, od, kV, doc, pm, an, cdv, ct, osl, rfl, lk, hcd⟩ := F.ex
    have inK : K.In s.heap := PySem.W.Frag.In.keeps e0.mod.kin fun b o e => (e0.bs b o e).1
    have noLim : s.heap.NoLimit := Heap.NoLimit.keeps e0.mod.nolimit fun b o e => (e0.bs b o e).1
    obtain ⟨t, ht, run⟩ := body cdv A outer s H vs Q E (hr.deeper _) hG h
    refine codeAny_call_function (Room.depth hr) (inK _ _ lk) rfl S.co S.gen rfl (PySem.W.codeRec_of inK hcd) (hb _ _ _ _ (wpAny_newFunctionEnv_cells S.kind ?_ ?_))
    · rintro ⟨n, v⟩ hy
      exact (S.par n (List.of_mem_zip hy).1).imp id fun q => ⟨q, PySem.W.cellsFrom_some _ _ _ (.inl q)⟩
    · rintro env rfl s1 x
      have st0 := inv_start (CX := CX0) (E := E) S hr.hd e0 (many _ _ _ _ h) r x
      refine ⟨noLim.keeps x.toInCall.keep, codeAny_func (wpAny_mono ((PSs.nox ht).run [] s1 _ H _ st0 run) ?_ fun e s' hs => hs)⟩
      rintro (_ | _ | _ | u) s' hs
      · obtain ⟨_, H', J, q⟩ := hs
        exact ⟨.non, H', J.os, J.bare, J.base, J.hok, rfl, q⟩
      · exact hs.elim fun _ z => z.elim fun _ z => False.elim z.2
      · exact hs.elim fun _ z => z.elim fun _ z => False.elim z.2
      · obtain ⟨v, _, H', J, rv, q⟩ := hs
        exact ⟨v, H', J.os, J.bare, J.base, J.hok, rv, q⟩
end
section
variable {X : Cx} {k : Nat} {f : Addr} {fd : FuncData} {ps : List Str} {sp : Sp} {x m : Str} {p pos apos : Pos} {e o : Expr} {es : List Expr} {t : TA} {ta : TE}
theorem enter {pins : List (Addr × Obj)} {σ : L2.St} {H : Hp} {s : Shared} {Q : VK} {us : List Value} {vs : List V} (F : FnG X.prog X.w X.K X.mg X.base k f fd ps sp) (hr : Room k X.A) (hG : X.A.guards = some []) (hb : Binds X.K fd ps [])
    (I : Inv X pins σ H s) (r : Vals vs us) (h : sp vs H Q E0) : wpAny (model X.prog X.w) X.A (call (.ref f) us) (EP X pins σ Q) X.xe s := by
  have len : (us ++ []).length = ps.length := by rw [List.append_nil, ← r.length]; exact F.many _ _ _ _ h
  have bt := hb s us I.kIn len
  rw [List.append_nil] at bt
  refine wpAny_call (codeAny_mono (F.go X.A hG hr X.stack s H I.env0 ⟨us, []⟩ us bt vs Q E0 r h) ?_)
  rintro (err | (_ | _ | _ | u)) s' hq
  · exact False.elim hq
  · exact False.elim hq
  · exact False.elim hq
  · exact False.elim hq
  · exact I.after hq
/-- f(e, ..) -/
theorem pe_callG (F : FnG X.prog X.w X.K X.mg X.base k f fd ps sp) (hr : Room k X.A) (hG : X.A.guards = some []) (hg : Gl X x) (hm : X.mg x = some (.ref f)) (hk : PySem.W.keepIn X.K (.ref f) = true) (hb : Binds X.K fd ps [])
    (ha : PA X (e :: es) t) (hdb : (x == ("__debug__" : Str)) = false := by decide) (he : starEach (e :: es) X.env = (false, eval e X.env) :: starEach es X.env := by rfl) (hpl : (backTo pos (starEach es X.env)).any (·.1) = false := by rfl) :
    PE X (.Call (.Name x p) (e :: es) [] pos) (tCall sp [] E0 t) where
  run := by
    intro pins s σ H Q I h
    refine wpAny_Call_Name_kw (ld_glob I hg hm (PySem.W.callWith_K (h₀ := X.base) I.ok.mod.kin hk (thn (ha.run pos pins s σ H _ I h) ?_) he hpl) hdb)
    rintro us s1 ⟨vs, H1, I1, r, q⟩
    rw [List.append_nil] at q
    exact ⟨I1.kIn, enter F hr hG hb I1 r q⟩
/-- o.m(e, ..) -/
theorem pe_methG {C : Addr} {pl : Sem Bool} (he : PE X o ta) (c : Cls X.K C) (hm : Meth X.K C m f) (F : FnG X.prog X.w X.K X.mg X.base k f fd ps sp) (hr : Room k X.A) (hG : X.A.guards = some []) (hb : Binds X.K fd ps []) (ha : PA X (e :: es) t)
    (hst : starEach (e :: es) X.env = (false, eval e X.env) :: starEach es X.env := by rfl) (hpl : (backTo pos (starEach es X.env)).any (·.1) = false := by rfl)
    (ht : eval (.Call (.Attribute o m apos) (e :: es) [] pos) X.env = (do
      let own ← eval o X.env
      standAt apos.atName
      let (g, first) ← holding [own] (getMethod own m pl)
      callWith pos g first (backTo pos (starEach (e :: es) X.env)) (backToKw pos (keywordEach [] X.env))) := by rfl) :
    PE X (.Call (.Attribute o m apos) (e :: es) [] pos) (tMeth C m sp [] E0 ta t) where
  run := by
    intro pins s σ H Q I h
    refine PySem.W.methodCall_KW (pl := pl) (thn (he.run pins s σ H _ I h) ?_) ht
    rintro u s1 ⟨x, H1, I1, rx, a, dx, fs, rfl, ea, l, q⟩
    cases (show u = Value.ref a from rx)
    refine getmeth_ok I1 ea c hm l (PySem.W.callWith_K (first := [.ref a]) (h₀ := X.base) I.ok.mod.kin hm.kp (thn (ha.run pos pins s1 σ H1 _ I1 q) ?_) hst hpl)
    rintro us s2 ⟨vs, H2, I2, r, q2⟩
    rw [List.append_nil] at q2
    exact ⟨I2.kIn, enter (us := .ref a :: us) (vs := .ref a :: vs) F hr hG hb I2 (.cons rfl r) q2⟩
/-- str(x) of a number or of plain tuples -/
def rStrG (K : PySem.W.Frag) : List V → Hp → VK → Prop := fun vs H Q => ∃ x d, vs = [x] ∧ PV K H x d ∧ ((∃ i : Int, d = .int i) ∨ ∃ ds, d = .tuple ds) ∧ d.showable = true ∧ d.hasDict = false ∧ d.depth ≤ 64 ∧ d.shown.length ≤ sizeLine ∧ Q (.str d.shown) H
theorem call_strG (hG : X.A.guards = some []) (hu : X.A.units + 100 < cLine) : CallR X (.type "str") (rStrG X.K) := by
  rintro pins s σ H xs us Q I r ⟨x, d, rfl, pd, hk, hs, hd, hdep, hsz, q⟩
  rcases hk with ⟨i, rfl⟩ | ⟨ds, rfl⟩
  · cases pv_int pd
    refine call_str_int pins s σ H _ us Q I r ⟨i, rfl, ?_, q⟩
    simpa [PyData.showable] using hs
  · obtain ⟨a, zs, rfl, ht, pz⟩ := pv_tup pd
    obtain ⟨u, rfl, ru⟩ := vals1 r
    cases (show u = Value.ref a from ru)
    obtain ⟨as, rd⟩ := Dp.reads I _ _ _ pd.dp (show RelV (.ref a) (Value.ref a) from rfl)
    exact str_of_reads (h₀ := s.heap) rd hs (fun z => by rw [hd] at z; cases z) hG (by omega) (fun _ _ z => z) (fun h' u tk hk => ⟨.str _, H, I.kept hk, ⟨u, rfl⟩, q⟩) hsz
end
end Gd

namespace Gd
open PySem PySem.Spec PyProof.Rows L2 Evl Pd Att
/-- the script's own object, frozen; nothing else is tracked -/
abbrev scriptO (us : List Value) : Obj := { cls := .type "list", data := .seq us.toArray }
section
variable {P : Program} {w : World} {K : PySem.W.Frag} {mg mb : Str → Option Value} {k : Nat} {fa a : Addr} {fd : FuncData} {x : Str} {sp : Sp} {s₁ : Shared} {us : List Value} {ns : List Int}
/-- what the end of a law's call must show -/
abbrev Done (s₁ : Shared) (r : Result) (s' : Shared) : Prop := r = .ok (.ret (.bool true)) ∧ OldK s₁.heap s'.heap ∧ s'.os = s₁.os ∧ AllBare s'.gens
theorem byHeap (inK : K.In s₁.heap) (nsM : s₁.heap.Ns mainGlobals mg) (nsB : s₁.heap.Ns builtinsNs mb) (boot : ∀ y : Str, y ≠ "__name__" → mb y = bootBuiltins y) (lim : s₁.heap.NoLimit) (noGens : s₁.gens = #[]) (own : s₁.heap.get? a = some (scriptO us)) (room : Room k callerA)
    (F : ∀ base : Heap, K.In base → base.Ns mainGlobals mg → FnG P w K mg base k fa fd [x] sp) (bind : ∀ (s : Shared) (u : Value), BindsTo s fd ⟨[u], []⟩ [(x, u)]) (H : Hp) (only : Only H) (promise : sp [.ref a] H (fun v _ => v = .bl true) E0)
    (ok : HOk P w H s₁.heap) (just : ∀ b, H b ≠ none → b = a) (apart : H a ≠ none → K.lookup a = none) : codeAny (model P w) callerA (.call (.ref fa) ⟨[.ref a], []⟩) (Done s₁) s₁ := by
  have free : ∀ {b : Addr} {o : Obj}, s₁.heap.get? b = some o → (∀ vs, o.data ≠ .seq vs 0 ∨ b ≠ a) → H b = none := by
    intro b o ho hd
    by_cases hb : H b = none
    · exact hb
    · have e := just b hb
      subst e
      rw [own] at ho
      cases ho
      rcases hd us.toArray with z | z
      · exact absurd rfl z
      · exact absurd rfl z
  have ns' : ∀ {b : Addr} {m : Str → Option Value}, s₁.heap.Ns b m → (hidT s₁.heap H).Ns b m := by
    rintro b m ⟨o, es, ep, ho, hd, rest⟩
    refine ⟨o, es, ep, hidT_get ho (free ho fun vs => .inl fun z => ?_), hd, rest⟩
    rw [hd] at z
    cases z
  have inB : K.In (hidT s₁.heap H) := by
    intro b o ho
    refine hidT_get (inK b o ho) ?_
    by_cases hb : H b = none
    · exact hb
    · have e := just b hb
      subst e
      rw [apart hb] at ho
      cases ho
  have none_in : ∀ {b : Addr}, ¬ b ∈ ([] : List Addr) := fun h => by cases h
  obtain ⟨mc, lim1, lim2⟩ := lim
  have env : Env0 P w K mg (hidT s₁.heap H) callerA [] s₁ H := { frames := rfl, mod := ⟨inB, ns' nsM, ⟨mb, ns' nsB, boot⟩, ⟨mc, ns' lim1, lim2⟩⟩, bs := fun b o e => of_hidT e, bsz := Nat.le_of_eq (hidT_size _ _), funs := trivial, frf := fun b hb => absurd hb none_in, hok := ok, bare := .of_eq noGens }
  refine codeAny_mono ((F _ inB (ns' nsM)).go callerA rfl room [] s₁ H env ⟨[.ref a], []⟩ [.ref a] (bind s₁ (.ref a)) [.ref a] _ E0 (.cons rfl .nil) promise) ?_
  rintro (err | (_ | _ | _ | u)) s' hq
  · exact False.elim hq
  · exact False.elim hq
  · exact False.elim hq
  · exact False.elim hq
  · obtain ⟨v, H', os, bare, un, ok', rv, rfl⟩ := hq
    cases (show u = Value.bool true from rv)
    refine ⟨rfl, OldK.of_keep fun b o ho => ?_, os, bare⟩
    rcases hH : H b with _ | u
    · exact un.keep b o ho hH (fun z => absurd z none_in) none_in
    · rcases only b with z | ⟨ob, xs, z⟩
      · rw [hH] at z
        cases z
      · obtain ⟨o1, _⟩ := ok b _ z
        obtain ⟨o2, _⟩ := ok' b _ (un.frzs b ob _ z)
        rw [ho] at o1
        cases o1
        exact o2
theorem lawG (inK : K.In s₁.heap) (nsM : s₁.heap.Ns mainGlobals mg) (nsB : s₁.heap.Ns builtinsNs mb) (boot : ∀ y : Str, y ≠ "__name__" → mb y = bootBuiltins y) (lim : s₁.heap.NoLimit) (noGens : s₁.gens = #[]) (own : s₁.heap.get? a = some (scriptO us)) (areI : IntsAre us ns) (len : ns.length ≤ sizeLine) (room : Room k callerA)
    (F : ∀ base : Heap, K.In base → base.Ns mainGlobals mg → FnG P w K mg base k fa fd [x] sp) (bind : ∀ (s : Shared) (u : Value), BindsTo s fd ⟨[u], []⟩ [(x, u)]) (promise : ∀ H : Hp, Only H → SqL K H a (ns.map V.int) → sp [.ref a] H (fun v _ => v = .bl true) E0) :
    codeAny (model P w) callerA (.call (.ref fa) ⟨[.ref a], []⟩) (Done s₁) s₁ := by
  have rv : Vals (ns.map V.int) us := vals_ints areI
  by_cases hk : K.lookup a = none
  · let H : Hp := fun b => if b = a then some (.frz (scriptO us) (.lst (ns.map V.int))) else none
    have hHa : H a = some (.frz (scriptO us) (.lst (ns.map V.int))) := if_pos rfl
    have hHb : ∀ b, b ≠ a → H b = none := fun b hb => if_neg hb
    refine byHeap inK nsM nsB boot lim noGens own room F bind H (fun b => ?_) (promise H ?_ ?_) (fun b u hu => ?_) (fun b hb => ?_) fun _ => hk
    · by_cases hb : b = a
      · exact .inr ⟨_, _, by rw [hb]; exact hHa⟩
      · exact .inl (hHb b hb)
    · intro b
      by_cases hb : b = a
      · exact .inr ⟨_, _, by rw [hb]; exact hHa⟩
      · exact .inl (hHb b hb)
    · exact .inl (.inr ⟨_, hHa⟩)
    · by_cases hb : b = a
      · subst hb
        rw [hHa] at hu
        cases hu
        exact ⟨own, by rw [List.length_map]; exact len, us, _, rv, own⟩
      · rw [hHb b hb] at hu
        cases hu
    · by_cases e : b = a
      · exact e
      · exact absurd (hHb b e) hb
  · obtain ⟨o, ho⟩ := Option.ne_none_iff_exists'.mp hk
    have e := inK a o ho
    rw [own] at e
    cases e
    have el : us.length ≤ sizeLine := by rw [areI.length]; exact len
    refine byHeap inK nsM nsB boot lim noGens own room F bind (fun _ => none) (fun b => .inl rfl) (promise _ (fun b => .inl rfl) (.inr ⟨_, us.toArray, _, ho, rfl, rfl, rfl, by rw [List.size_toArray]; exact el, rv⟩)) (fun b u hu => by cases hu) (fun b hb => absurd rfl hb) fun z => absurd rfl z
end
theorem walkG {l : PySem.W.OpenLaw} {n k : Nat} {q : Program} {loose : List Str} {XP : (Str → Option Value) → Heap → Prop} {YP : World → Heap → Prop} {d : DefRec} {K : Params → PySem.W.Frag} {sp : World → Sp} {x : Str}
    (most : l.most = some n) (small : n ≤ sizeLine) (noDf : d.params.defaults = []) (room : Room k callerA) (inK : ∀ (w : World) (h : Heap), YP w h → (K w.params).In h)
    (F : ∀ (w : World) (mg : Str → Option Value) (fa : Addr) (h : Heap), (K w.params).In h → h.Ns mainGlobals mg → mg d.name = some (.ref fa) →
      ∃ fd : FuncData, (∀ (s : Shared) (u : Value), BindsTo s fd ⟨[u], []⟩ [(x, u)]) ∧ ∀ base : Heap, (K w.params).In base → base.Ns mainGlobals mg → FnG l.prog w (K w.params) mg base k fa fd [x] (sp w))
    (promise : ∀ (w : World) (H : Hp) (a : Addr) (ns : List Int), ns.length ≤ n → Only H → SqL (K w.params) H a (ns.map V.int) → sp w [.ref a] H (fun v _ => v = .bl true) E0) :
    PySem.W.WalkO q loose XP YP l.row.toRowW d [] (fun f vs => PySem.call f vs) := by
  refine attach_call most noDf ?_
  intro w s₀ s₁ mg mb fa o pm cd doc a us ns G Y _ _ _ hm own areI len noGens
  have inH := inK w _ Y
  obtain ⟨fd, bind, FF⟩ := F w mg fa _ inH G.T.g hm
  exact lawG inH G.T.g G.T.b G.T.builtins G.T.nolimit noGens own areI (Nat.le_trans len small) room FF bind fun H o1 o2 => promise w H a ns len o1 o2
end Gd

/-! Dicts whose keys are texts and numbers, whose values are plain data. -/
namespace Gd
open PySem PySem.Spec PyProof.Rows L2 Evl Pd
abbrev KD := List (Key × PyData)
def valD (kd : KD) (k : Key) : Option PyData := (kd.find? fun p => decide (p.1 = k)).map (·.2)
def putD (kd : KD) (k : Key) (d : PyData) : KD := if (kd.any fun p => decide (p.1 = k)) = true then kd.map (fun p => if p.1 = k then (p.1, d) else p) else kd ++ [(k, d)]
def mergeD (kd more : KD) : KD := more.foldl (fun acc p => putD acc p.1 p.2) kd
/-- what a dict of values holds, as data -/
def KDat (K : PySem.W.Frag) (H : Hp) : List (Key × V) → KD → Prop
  | [], [] => True
  | (k, v) :: r, (j, d) :: q => k = j ∧ PV K H v d ∧ KDat K H r q
  | _, _ => False
section
variable {K : PySem.W.Frag} {H H' : Hp}
theorem KDat.tx (e : Tx H H') : ∀ {ks : List (Key × V)} {kd : KD}, KDat K H ks kd → KDat K H' ks kd
  | [], [], _ => trivial
  | (_, _) :: _, (_, _) :: _, ⟨a, b, c⟩ => ⟨a, b.tx e, KDat.tx e c⟩
  | [], _ :: _, h => h.elim
  | _ :: _, [], h => h.elim
theorem KDat.ex {ks : List (Key × V)} {kd : KD} (h : KDat K H ks kd) (e : Ex H H') : KDat K H' ks kd := h.tx (tx_of e)
theorem KDat.length : ∀ {ks : List (Key × V)} {kd : KD}, KDat K H ks kd → ks.length = kd.length
  | [], [], _ => rfl
  | (_, _) :: _, (_, _) :: _, ⟨_, _, c⟩ => congrArg (· + 1) (KDat.length c)
  | [], _ :: _, h => h.elim
  | _ :: _, [], h => h.elim
theorem KDat.keys : ∀ {ks : List (Key × V)} {kd : KD}, KDat K H ks kd → ks.map (·.1) = kd.map (·.1)
  | [], [], _ => rfl
  | (_, _) :: _, (_, _) :: _, ⟨a, _, c⟩ => by rw [List.map_cons, List.map_cons, KDat.keys c, a]
  | [], _ :: _, h => h.elim
  | _ :: _, [], h => h.elim
theorem valD_cons (p : Key × PyData) (r : KD) (k : Key) : valD (p :: r) k = if p.1 = k then some p.2 else valD r k := by
  unfold valD
  rw [List.find?_cons]
  by_cases h : p.1 = k
  · rw [if_pos h, decide_eq_true h]
    rfl
  · rw [if_neg h, decide_eq_false h]
theorem KDat.val : ∀ {ks : List (Key × V)} {kd : KD}, KDat K H ks kd → ∀ k, (valV ks k = none ∧ valD kd k = none) ∨ ∃ v d, valV ks k = some v ∧ valD kd k = some d ∧ PV K H v d
  | [], [], _, k => .inl ⟨rfl, rfl⟩
  | (j, v) :: r, (j', d) :: q, ⟨a, b, c⟩, k => by
    subst a
    rw [valD_cons]
    by_cases h : j = k
    · rw [valV_pos (p := (j, v)) h, if_pos h]
      exact .inr ⟨v, d, rfl, rfl, b⟩
    · rw [valV_neg (p := (j, v)) h, if_neg h]
      exact KDat.val c k
  | [], _ :: _, h, _ => h.elim
  | _ :: _, [], h, _ => h.elim
theorem KDat.append : ∀ {ks ls : List (Key × V)} {kd ld : KD}, KDat K H ks kd → KDat K H ls ld → KDat K H (ks ++ ls) (kd ++ ld)
  | [], _, [], _, _, h => h
  | (_, _) :: _, _, (_, _) :: _, _, ⟨a, b, c⟩, h => ⟨a, b, KDat.append c h⟩
  | [], _, _ :: _, _, h, _ => h.elim
  | _ :: _, _, [], _, h, _ => h.elim
theorem KDat.repl {k : Key} {v : V} {d : PyData} (p : PV K H v d) : ∀ {ks : List (Key × V)} {kd : KD}, KDat K H ks kd → KDat K H (ks.map fun q => if q.1 = k then (q.1, v) else q) (kd.map fun q => if q.1 = k then (q.1, d) else q)
  | [], [], _ => trivial
  | (j, u) :: r, (j', e) :: q, ⟨a, b, c⟩ => by
    subst a
    rw [List.map_cons, List.map_cons]
    by_cases h : j = k
    · rw [if_pos h, if_pos h]
      exact ⟨rfl, p, KDat.repl p c⟩
    · rw [if_neg h, if_neg h]
      exact ⟨rfl, b, KDat.repl p c⟩
  | [], _ :: _, h => h.elim
  | _ :: _, [], h => h.elim
theorem KDat.any : ∀ {ks : List (Key × V)} {kd : KD}, KDat K H ks kd → ∀ k, (ks.any fun q => decide (q.1 = k)) = kd.any fun q => decide (q.1 = k)
  | [], [], _, _ => rfl
  | (_, _) :: _, (_, _) :: _, ⟨a, _, c⟩, k => by
    rw [List.any_cons, List.any_cons, KDat.any c k, a]
  | [], _ :: _, h, _ => h.elim
  | _ :: _, [], h, _ => h.elim
theorem KDat.put {ks : List (Key × V)} {kd : KD} (h : KDat K H ks kd) (k : Key) {v : V} {d : PyData} (p : PV K H v d) : KDat K H (putK ks k v) (putD kd k d) := by
  unfold putK putD
  rw [h.any k]
  by_cases e : (kd.any fun q => decide (q.1 = k)) = true
  · rw [if_pos e, if_pos e]
    exact h.repl p
  · rw [if_neg e, if_neg e]
    exact h.append ⟨rfl, p, trivial⟩
theorem KDat.merge : ∀ {more : List (Key × V)} {md : KD}, KDat K H more md → ∀ {ks : List (Key × V)} {kd : KD}, KDat K H ks kd → KDat K H (mergeK ks more) (mergeD kd md)
  | [], [], _, _, _, h => h
  | (k, v) :: r, (j, d) :: q, ⟨a, b, c⟩, ks, kd, h => by
    subst a
    show KDat K H (mergeK (putK ks k v) r) (mergeD (putD kd k d) q)
    exact KDat.merge c (h.put k b)
  | [], _ :: _, h, _, _, _ => h.elim
  | _ :: _, [], h, _, _, _ => h.elim
end
/-- the dict at a -/
def DAt (K : PySem.W.Frag) (H : Hp) (a : Addr) (kd : KD) : Prop := ∃ ks, H a = some (.dK ks) ∧ KDat K H ks kd
theorem DAt.ex {K : PySem.W.Frag} {H H' : Hp} {a : Addr} {kd : KD} (h : DAt K H a kd) (e : Ex H H') : DAt K H' a kd := let ⟨ks, h1, h2⟩ := h; ⟨ks, e _ _ h1, h2.ex e⟩
/-- == of two dicts of data -/
def eqKD (kd ld : KD) : Bool := kd.length == ld.length && kd.all fun p => match valD ld p.1 with
  | some e => PyData.eqv p.2 e
  | none => false
section
variable {X : Cx}
theorem hitsD {pins : List (Addr × Obj)} {σ : L2.St} {H : Hp} {s : Shared} (I : Inv X pins σ H s) {A : Around} (hu : A.units + 64 < cLine) {ls : List (Key × V)} {lv : List (Key × Value)} {ld : KD} (rl : KV ls lv) (dl : KDat X.K H ls ld) (sl : ∀ p ∈ ld, SeqAt.shaped p.2 = true) :
    ∀ {ks : List (Key × V)} {kv : List (Key × Value)} {kd : KD}, KV ks kv → KDat X.K H ks kd → (∀ p ∈ kd, SeqAt.shaped p.2 = true) →
      PySem.W.KeqHits A s lv kv (kd.all fun p => match valD ld p.1 with
        | some e => PyData.eqv p.2 e
        | none => false)
  | [], _, [], r, _, _ => by
    cases r
    exact .nil
  | (k, v) :: ks, _, (j, d) :: kd, r, ⟨a, b, c⟩, sk => by
    cases r with
    | @cons p q ps qs h t =>
      obtain ⟨k', u⟩ := q
      obtain ⟨h1, h2⟩ := h
      cases (show k = k' from h1)
      subst a
      rw [List.all_cons]
      have ih := hitsD I hu rl dl sl (show KV ks qs from t) c fun p hp => sk p (List.mem_cons_of_mem _ hp)
      rcases dl.val k with ⟨n1, n2⟩ | ⟨y, e, n1, n2, pe⟩
      · rw [n2]
        refine .miss ?_
        have := rl.val k
        rw [n1] at this
        cases hv : valueAt lv k with
        | none => rfl
        | some z => rw [hv] at this; cases this
      · rw [n2]
        have rr : RelO (some y) (valueAt lv k) := by rw [← n1]; exact rl.val k
        obtain ⟨z, hz, rz⟩ := rr.some_of
        obtain ⟨as, r1⟩ := Dp.reads I d v u b.dp h2
        obtain ⟨bs, r2⟩ := Dp.reads I e y z pe.dp rz
        have se : SeqAt.shaped e = true := by
          unfold valD at n2
          cases hf : ld.find? fun p => decide (p.1 = k) with
          | none => rw [hf] at n2; cases n2
          | some p =>
            rw [hf] at n2
            cases n2
            exact sl p (List.mem_of_find?_eq_some hf)
        exact .hit hz (SeqAt.eqAt_reads d e A s u z as bs r1 r2 (SeqAt.canLay_of_shaped (sk _ List.mem_cons_self)) (SeqAt.canLay_of_shaped se) (SeqAt.room_of_shaped (sk _ List.mem_cons_self) hu)) ih
  | [], _, _ :: _, _, h, _ => h.elim
  | _ :: _, _, [], _, h, _ => h.elim
def rNeKD (K : PySem.W.Frag) : R2 := fun x y H Q => ∃ a b kd ld, x = .ref a ∧ y = .ref b ∧ DAt K H a kd ∧ DAt K H b ld ∧ (∀ p ∈ kd, SeqAt.shaped p.2 = true) ∧ (∀ p ∈ ld, SeqAt.shaped p.2 = true) ∧ Q (.bl (!eqKD kd ld)) H
theorem op_neKD (hu : X.A.units + 100 < cLine) : OpR X (compareOp .NotEq) (rNeKD X.K) := by
  rintro pins s σ H x y v u Q I rx ry ⟨a, b, kd, ld, rfl, rfl, ⟨ks, ea, da⟩, ⟨ls, eb, db⟩, sk, sl, q⟩
  cases (show v = Value.ref a from rx)
  cases (show u = Value.ref b from ry)
  obtain ⟨_, ya, va, ra, dda⟩ := dk_of I.hok ea
  obtain ⟨_, yb, vb, rb, ddb⟩ := dk_of I.hok eb
  refine PySem.W.keq_ne (knd := mixKind X.prog X.w) ya yb dda ddb (by omega) (fun _ => hitsD I (by show X.A.units + 1 + 64 < cLine; omega) rb db sl ra da sk) (fin_bl I q ?_)
  unfold eqKD
  rw [← ra.length, ← rb.length, da.length, db.length]
/-- d.update(e) -/
def rUpd : V → List V → Hp → VK → Prop := fun x vs H Q => ∃ a b ks more, x = .ref a ∧ vs = [.ref b] ∧ a ≠ b ∧ H a = some (.dK ks) ∧ H b = some (.dK more) ∧ ks.length + more.length ≤ sizeLine ∧ Q .non (upd H a (.dK (mergeK ks more)))
theorem mt_update : MtM X "dict.update" rUpd := by
  rintro pins s σ H x vs v us Q I rx rv ⟨a, b, ks, more, rfl, rfl, hab, ea, eb, hsz, q⟩
  cases rx
  obtain ⟨u, rfl, ru⟩ := rv.one
  cases ru
  obtain ⟨_, ya, va, ra, dda⟩ := dk_of I.hok ea
  obtain ⟨_, yb, vb, rb, ddb⟩ := dk_of I.hok eb
  have l1 := ra.length
  have l2 := rb.length
  refine call_meetsIn F.slot_dict_update dda.typeIs F.entry_dict_update (F.args_dict_update_2 _ _) (meets_dict_update (mixKind X.prog X.w) a b hab yb) ⟨va, vb, dda, ddb, by omega, fun h' d1 d2 hs => ?_⟩
  obtain ⟨o, _, _, ho, _⟩ := id d1
  have hl := length_mergeK more ks
  exact ⟨.non, _, d_write I (by rw [ea]; exact True.intro) hs ⟨o, ho⟩ (dk_new (by omega) ya (rb.merge ra) d1), rfl, q⟩
end
end Gd

/-! enumerate(t), t a tuple. -/
namespace Gd
open PySem PySem.Spec PyProof.Rows L2 Evl Pd
section
variable {prog : Program} {w : World} {A : Around} {E : Value → Shared → Prop} {s : Shared}
theorem nextTup {j t : Addr} {i : Nat} {xs : Array Value} {u : Value} {Q : Value → Shared → Prop} (at_ : s.heap.IsTupleIter j t i) (tup : s.heap.IsTuple t xs) (here : xs[i]? = some u)
    (k : ∀ h', h'.IsTupleIter j t (i + 1) → Heap.SameBut j s.heap h' → Q u { s with heap := h' }) : wpAny (model prog w) A (Builtin.SmallTypes.nextOf (.ref j)) Q E s := by
  obtain ⟨oj, hj, cj, dj⟩ := id at_
  obtain ⟨ot, htt, _, nt, dt⟩ := tup
  unfold Builtin.SmallTypes.nextOf
  refine wpAny_bind (wpAny_callSpecial?_slot (name := Str.ofString "__next__") (Heap.IsTupleIter.typeIs at_) F.slot_tuple_iterator_next (wpAny_call_entry F.slot_tuple_iterator_next (Heap.IsTupleIter.typeIs at_) F.entry_tuple_iterator_next ?_ (F.args_tuple_iterator_next_1 _)))
  show wpAny _ _ (field (.ref j) 0 >>= _) _ _ s; refine wpAny_bind (wpAny_field hj dj (x := .ref t) rfl ?_)
  show wpAny _ _ (if (Value.ref t == Value.none) = true then _ else _) _ _ s; rw [if_neg (fun z : (Value.ref t == Value.none) = true => Bool.false_ne_true z)]
  show wpAny _ _ (field (.ref j) 1 >>= _) _ _ s; refine wpAny_bind (wpAny_field hj dj (x := .int i 0) rfl ?_)
  show wpAny _ _ (seqItems? (.ref t) >>= _) _ _ s; refine wpAny_bind (wpAny_seqItems htt dt ?_)
  simp only [Int.toNat_natCast, here]
  refine wpAny_bind (wpAny_setField hj dj (by simp) (wpAny_pure ⟨u, rfl, wpAny_pure (k _ ⟨_, Heap.get?_update_self _ hj (Obj.isFreed_of_fields (Obj.data_mapFields dj _)), (Obj.cls_mapFields ..).trans cj, ?_⟩ (Heap.SameBut.update ..))⟩))
  rw [Obj.data_mapFields dj]
  simp [rawInt]
theorem nextTupEnd {j t : Addr} {i : Nat} {xs : Array Value} {Q : Value → Shared → Prop} (calm : A.handled = none) (at_ : s.heap.IsTupleIter j t i) (tup : s.heap.IsTuple t xs) (out : xs[i]? = none)
    (k : ∀ h' e, Heap.ExtBut j s.heap h' → (∃ o, h'.get? e = some o ∧ o.cls = .type "StopIteration") → E (.ref e) { s with heap := h' }) : wpAny (model prog w) A (Builtin.SmallTypes.nextOf (.ref j)) Q E s := by
  obtain ⟨oj, hj, cj, dj⟩ := id at_
  obtain ⟨ot, htt, _, nt, dt⟩ := tup
  unfold Builtin.SmallTypes.nextOf
  refine wpAny_bind (wpAny_callSpecial?_slot (name := Str.ofString "__next__") (Heap.IsTupleIter.typeIs at_) F.slot_tuple_iterator_next (wpAny_call_entry F.slot_tuple_iterator_next (Heap.IsTupleIter.typeIs at_) F.entry_tuple_iterator_next ?_ (F.args_tuple_iterator_next_1 _)))
  show wpAny _ _ (field (.ref j) 0 >>= _) _ _ s; refine wpAny_bind (wpAny_field hj dj (x := .ref t) rfl ?_)
  show wpAny _ _ (if (Value.ref t == Value.none) = true then _ else _) _ _ s; rw [if_neg (fun z : (Value.ref t == Value.none) = true => Bool.false_ne_true z)]
  show wpAny _ _ (field (.ref j) 1 >>= _) _ _ s; refine wpAny_bind (wpAny_field hj dj (x := .int i 0) rfl ?_)
  show wpAny _ _ (seqItems? (.ref t) >>= _) _ _ s; refine wpAny_bind (wpAny_seqItems htt dt ?_)
  simp only [Int.toNat_natCast, out]
  refine wpAny_bind (wpAny_rule (wpAny_bind (wpAny_setField hj dj (by simp) ?_))); show wpAny _ _ (newExc (.type "StopIteration") [] >>= _) _ _ _
  refine wpAny_bind ?_; simp only [newExc, newTuple]
  refine wpAny_bind (wpAny_newObj_type ?_ (by size_fits)); refine wpAny_bind (m := firstArgMember _ _) (wpAny_of_eq (a := Value.none) (by first | rfl | (simp only [firstArgMember]; rfl)) ?_)
  refine wpAny_newObj_type ?_ (by size_fits); simp only [raiseNew]
  refine wpAny_bind (wpAny_handled ?_)
  first | rw [show A.in1.handled = none from calm] | rw [calm]
  refine wpAny_bind (wpAny_pure (wpAny_throw ?_)); exact k _ _ (((Heap.SameBut.update ..).extBut.push _).push _) ⟨_, Heap.get?_push_size _ rfl, rfl⟩
theorem drawsTup (calm : A.handled = none) (j t : Addr) (apart : t ≠ j) (xs : Array Value) : Draws prog w A j [j, t] xs.size (fun i v => xs[i]? = some v) (fun i h => h.IsTupleIter j t i ∧ h.IsTuple t xs) where
  live := fun _ _ ⟨⟨o, ho, _⟩, _⟩ => ⟨o, ho⟩
  frame := fun _ _ _ ⟨a, b⟩ kp => ⟨a.at fun o e => kp j (by simp) o e, b.at fun o e => kp t (by simp) o e⟩
  item := fun i s Q E hi ⟨a, b⟩ k => nextTup a b (u := xs[i]) (by simp [hi]) fun h' a' sb => k _ h' s.toks (by simp [hi]) ⟨a', b.at fun o e => (sb.2 t apart).trans e⟩ sb
  done := fun s Q E ⟨a, b⟩ k => nextTupEnd calm a b (by simp) k
theorem newEnumT (t : Addr) (o : Obj) (xs : Array Value) (n : Nat) (ho : o.cls = .type "tuple") (hd : o.data = .seq xs n) :
    Meets (Builtin.«enumerate.__new__» ⟨[.type "enumerate", .ref t], []⟩) (fun _ R s => s.heap.get? t = some o ∧
      R (.ok (.ret (.ref (s.heap.push { cls := .type "tuple_iterator", data := .fields #[.ref t, .int 0 0] }).objs.size)))
        { s with heap := (s.heap.push { cls := .type "tuple_iterator", data := .fields #[.ref t, .int 0 0] }).push { cls := .type "enumerate", data := .fields #[.none, .bool false, .ref s.heap.objs.size, rawInt 0, .none, .none] } }) := by
  refine .of_wp fun prog w A R s h => ?_
  obtain ⟨hp, g, d, tk, os⟩ := s
  obtain ⟨ht, h⟩ := h
  have sub := sub_enumerate
  have isT : Heap.IsTuple (Shared.heap ⟨hp, g, d, tk, os⟩) t xs := ⟨o, ht, ho, n, hd⟩
  obtain ⟨oc, od, oda, osl⟩ := o
  replace ho : oc = .type "tuple" := ho
  replace hd : oda = .seq xs n := hd
  subst ho hd
  wp_walk using AutoSeq1.wpAny_loadPart' ht
  refine wpAny_stack_any fun st => wpAny_pure ?_
  split
  · rename_i c _ _ _ _ _
    cases (c == Value.type "enumerate") <;> (wp_walk using AutoSeq1.wpAny_loadPart' ht, wpAny_pyIter_tuple isT; exact ⟨_, rfl, h⟩)
  · wp_walk using AutoSeq1.wpAny_loadPart' ht, wpAny_pyIter_tuple isT
    exact ⟨_, rfl, h⟩
theorem callEnumT {t : Addr} {xs : Array Value} {Q : Value → Shared → Prop} (tup : s.heap.IsTuple t xs)
    (k : ∀ h', IsEnum h' (s.heap.objs.size + 1) s.heap.objs.size 0 .none → h'.IsTupleIter s.heap.objs.size t 0 → (∀ b o, s.heap.get? b = some o → h'.get? b = some o) → Q (.ref (s.heap.objs.size + 1)) { s with heap := h' }) :
    wpAny (model prog w) A (call (.type "enumerate") [.ref t]) Q E s := by
  obtain ⟨o, ht, ho, n, hd⟩ := tup
  refine callType_new F.called_enumerate (by decide) (F.typeCall_enumerate_1 _) (F.newCall_enumerate_1 _) (fun obj => F.args_object_init_2 obj _) F.entry_enumerate_new (newEnumT t o xs n ho hd) ⟨ht, ?_⟩
  have sz : (s.heap.push { cls := .type "tuple_iterator", data := .fields #[.ref t, .int 0 0] }).objs.size = s.heap.objs.size + 1 := Heap.size_push ..
  have at1 := Heap.get?_push_size (s.heap.push { cls := .type "tuple_iterator", data := .fields #[.ref t, .int 0 0] }) (o := { cls := .type "enumerate", data := .fields #[.none, .bool false, .ref s.heap.objs.size, rawInt 0, .none, .none] }) rfl
  rw [sz] at at1
  show _ ∧ _
  rw [sz]
  exact ⟨⟨_, at1, rfl⟩, k _ at1 ⟨_, Heap.get?_push_of_some _ (Heap.get?_push_size _ rfl), rfl, rfl⟩ fun b o x => Heap.get?_push_of_some _ (Heap.get?_push_of_some _ x)⟩
end
/-- the tuple at a, each item in a new pair -/
def IteT (K : PySem.W.Frag) (a : Addr) (xs : List V) : It where
  go := fun i H => SqT K H a xs ∧ i < xs.length
  yld := fun i H v H' => ∃ T x, v = .ref T ∧ H T = none ∧ H' = upd H T (.tup [.int (i : Nat), x]) ∧ xs[i]? = some x
  stop := fun i H => SqT K H a xs ∧ xs.length ≤ i
theorem turnEnumT {P : Program} {w : World} {K : PySem.W.Frag} {elts : List Expr} {kk : Nat} {tpos : Pos} (a e j : Addr) (xs : List V) :
    Turn P w K (.Tuple elts kk tpos) (IteT K a xs) [e, j] e (fun i h => (∃ old, IsEnum h e j ((i : Nat) : Int) old) ∧ h.IsTupleIter j a i ∧ e ≠ j ∧ a ≠ j ∧ a ≠ e ∧ i ≤ xs.length) where
  mem := by simp
  obj := by
    rintro i h ⟨⟨old, he⟩, ⟨o, ho, hc, hd⟩, _⟩ b hb
    have eb : b = e ∨ b = j := by simpa using hb
    rcases eb with rfl | rfl
    · exact ⟨_, he, fun v q => nomatch q⟩
    · exact ⟨o, ho, fun v q => by rw [hd] at q; cases q⟩
  keep := fun i h h' ⟨⟨old, he⟩, hi, rest⟩ k => ⟨⟨old, k e (by simp) _ he⟩, hi.at fun o q => k j (by simp) o q, rest⟩
  item := by
    rintro X rfl rfl rfl hc i pins s σ H E I hf ⟨⟨old, he⟩, hj, nej, naj, nae, hle⟩ ⟨hq, hix⟩
    obtain ⟨x, hx⟩ : ∃ x, xs[i]? = some x := ⟨_, List.getElem?_eq_getElem hix⟩
    obtain ⟨its, rv, p, hz⟩ := I.tuple hq
    obtain ⟨u, hu, ru⟩ := rv.get hx
    have hel : e < s.heap.objs.size := Heap.lt_size he
    have hjl : j < s.heap.objs.size := let ⟨_, q, _⟩ := hj; Heap.lt_size q
    have isT : s.heap.IsTuple a its.toArray := p
    have hil : i < its.toArray.size := by
      have := (List.getElem?_eq_some_iff.mp hu).1
      simpa using this
    refine wpAny_pyNext_enum_itemD (drawsTup (A := X.A.in1) (I.ok.hd hc) j a naj its.toArray) he ⟨hj, isT⟩ hil nej (by simp [nej, Ne.symm nae]) fun y h' tk hy ho st' hT hsz hk => ?_
    have ey : y = u := by
      have : its.toArray[i]? = some u := by simpa using hu
      exact Option.some.inj (hy.symm.trans this)
    subst ey
    refine ⟨_, rfl, wpAny_letOwnedTupleGo_enum (s := { s with heap := h', toks := tk + 1 }) ho fun h'' he' sb => ?_⟩
    have hT2 : h''.get? s.heap.objs.size = some { cls := .type "tuple", data := .seq #[.int i tk, y] } := (sb.2 _ (Nat.ne_of_gt hel)).trans hT
    have made : ObjOk X.prog X.w (upd H s.heap.objs.size (.tup [.int (i : Nat), x])) h'' s.heap.objs.size (.tup [.int (i : Nat), x]) :=
      ⟨by show 2 ≤ sizeLine; decide, [.int i tk, y], .cons ⟨_, rfl⟩ (.cons ru .nil), ⟨_, hT2, rfl, _, rfl⟩⟩
    have J : Inv X pins σ (upd H s.heap.objs.size (.tup [.int (i : Nat), x])) { s with heap := h'', toks := tk + 1 } :=
      I.turnedNew (ch := [e, j]) (fun b ob hb q => (sb.2 b (fun z => hb (by simp [z]))).trans (hk b ob (fun z => hb (by simp [z])) (fun z => hb (by simp [z])) q)) hf (Nat.le_refl _) made
    refine ⟨.ref s.heap.objs.size, _, J, rfl, ⟨_, x, rfl, I.hok.fresh (Nat.le_refl _), rfl, hx⟩, ⟨⟨y, ?_⟩, st'.1.at fun o q => (sb.2 j (Ne.symm nej)).trans q, nej, naj, nae, hix⟩, fun b hb => ?_⟩
    · rw [show ((i + 1 : Nat) : Int) = (i : Int) + 1 by omega]
      exact he'
    · have eb : b = e ∨ b = j := by simpa using hb
      have lt : b < s.heap.objs.size := by
        rcases eb with z | z
        · rw [z]; exact hel
        · rw [z]; exact hjl
      rw [upd_ne (Nat.ne_of_lt lt)]
      exact (hf b hb).1
  done := by
    rintro X rfl rfl rfl hc i pins s σ H E I hf ⟨⟨old, he⟩, hj, nej, naj, nae, hle⟩ ⟨hq, hx⟩
    obtain ⟨its, rv, p, hz⟩ := I.tuple hq
    obtain ⟨f0, f1, f2, f3, f4, f5⟩ := hf j (by simp)
    have isT : s.heap.IsTuple a its.toArray := p
    have hl := rv.length
    have ei : i = its.toArray.size := by
      rw [List.size_toArray, ← hl]
      omega
    subst ei
    exact wpAny_pyNext_enum_endD (drawsTup (A := X.A.in1) (I.ok.hd hc) j a naj its.toArray) he ⟨hj, isT⟩ fun h' eb => ⟨rfl, I.turned (t' := s.toks) (fun b o hb q => eb b o hb q) f0 f1 f3 f4 f5⟩
  self := fun A i s Q E ⟨⟨_, he⟩, _⟩ h => wpAny_pyIter_enum he h
def iEnumT (K : PySem.W.Frag) (ta : TA) : TI := fun σ H R => ta σ H fun vs H1 => ∃ a xs, vs = [.ref a] ∧ SqT K H1 a xs ∧ R (IteT K a xs) H1
theorem pi_enumT {X : Cx} {e : Expr} {ta : TA} {p pos tpos : Pos} {elts : List Expr} {kk : Nat} (hg : Gl X "enumerate") (hm : X.mg "enumerate" = none) (ha : PA X [e] ta) (hs : starEach [e] X.env = [(false, eval e X.env)] := by rfl) :
    PI X (.Tuple elts kk tpos) (.Call (.Name "enumerate" p) [e] [] pos) (iEnumT X.K ta) := by
  refine ⟨fun pins s σ H R I h => Call_ (ld_blt I hg hm boot_enumerate (PyProof.Rows.callWith_type1 (thn (ha.run pos pins s σ H _ I h) ?_) hs rfl))⟩
  rintro us s1 ⟨vs, H1, I1, r1, a, xs, rfl, hq, q⟩
  obtain ⟨u, rfl, ru⟩ := vals1 r1
  cases (show u = Value.ref a from ru)
  obtain ⟨its, rv, p', hz⟩ := I1.tuple hq
  have isT : s1.heap.IsTuple a its.toArray := p'
  have hal : a < s1.heap.objs.size := let ⟨_, z, _⟩ := isT; Heap.lt_size z
  refine callEnumT isT fun h' he hit hk => wpAny_pyIter_enum he ?_
  have J : Inv X pins σ H1 { s1 with heap := h' } := I1.kept (t' := s1.toks) hk
  refine ⟨s1.heap.objs.size + 1, [s1.heap.objs.size + 1, s1.heap.objs.size], _, _, H1, rfl, J, turnEnumT a (s1.heap.objs.size + 1) s1.heap.objs.size xs, ⟨⟨.none, he⟩, hit, Nat.succ_ne_self _, Nat.ne_of_lt hal, Nat.ne_of_lt (Nat.lt_succ_of_lt hal), Nat.zero_le _⟩, fun b hb => ?_, q⟩
  have hle : s1.heap.objs.size ≤ b := by
    have : b = s1.heap.objs.size + 1 ∨ b = s1.heap.objs.size := by simpa using hb
    rcases this with z | z
    · rw [z]
      exact Nat.le_add_right _ _
    · rw [z]
      exact Nat.le_refl _
  exact I1.fpOk hle (I1.hok.fresh hle)
end Gd

namespace Pd
open PySem PySem.Spec PyProof.Rows L2 Evl
section
variable {K : PySem.W.Frag} {H : Hp} {σ : L2.St} {ta tb te : TE} {ds es : List PyData}
theorem PVs.drop : ∀ {ds : List PyData} {vs : List V} (k : Nat), PVs K H vs ds → PVs K H (vs.drop k) (ds.drop k)
  | ds, vs, 0, h => h
  | [], _, k + 1, h => by cases h; exact .nil
  | d :: ds, _, k + 1, h => by
    cases h with
    | cons a b => exact PVs.drop k b
theorem PVs.take : ∀ {ds : List PyData} {vs : List V} (k : Nat), PVs K H vs ds → PVs K H (vs.take k) (ds.take k)
  | ds, vs, 0, h => by rw [List.take_zero, List.take_zero]; exact .nil
  | [], _, k + 1, h => by cases h; exact .nil
  | d :: ds, _, k + 1, h => by
    cases h with
    | cons a b => exact .cons a (PVs.take k b)
/-- t[k:] -/
theorem ep_slT {k : Nat} (h : EvP K te σ H (.tuple ds)) : EvP K (tSl (rSlA K) te (tPart (tC (.int (k : Int)))) tNoPart) σ H (.tuple (ds.drop k)) := fun H1 e Q q =>
  h H1 e _ fun v H2 e2 p => by
    obtain ⟨a, xs, rfl, hx, px⟩ := pv_tup p
    refine ⟨(k : Int), rfl, a, xs, rfl, hx.sq, fun z => ?_, fun _ c hc => ?_⟩
    · rw [HT.sIx_nat] at z
      have hl := px.length
      have : k = 0 ∨ xs.length = 0 := by omega
      have e3 : ds.drop k = ds := by
        rcases this with rfl | h0
        · rfl
        · rw [List.length_eq_zero_iff.mp (show ds.length = 0 by omega)]
          simp
      exact q _ H2 e2 (by rw [e3]; exact p)
    · refine q _ _ (e2.trans (Ex.new hc)) (.tup (.inl upd_same) ?_)
      unfold cutV
      rw [HT.sIx_nat, HT.sIx_none]
      have e3 : (xs.drop (min k xs.length)).take (xs.length - min k xs.length) = xs.drop k := by
        rw [List.take_of_length_le (by rw [List.length_drop]; omega)]
        by_cases hk : k ≤ xs.length
        · rw [Nat.min_eq_left hk]
        · rw [Nat.min_eq_right (by omega), List.drop_eq_nil_of_le (Nat.le_refl _), List.drop_eq_nil_of_le (by omega)]
      rw [e3]
      exact (px.drop k).ex (Ex.new hc)
theorem PVs.of_strs : ∀ {l : List Str} {vs : List V}, PVs K H vs (l.map PyData.str) → vs = l.map V.str
  | [], _, h => by cases h; rfl
  | n :: ns, _, h => by
    cases h with
    | cons a b =>
      cases a
      rw [PVs.of_strs b]
      rfl
theorem inV_strs (x : Str) : ∀ l : List Str, inV (.str x) (l.map V.str) = decide (x ∈ l)
  | [] => by simp [inV]
  | p :: l => by
    have ih := inV_strs x l
    unfold inV at ih ⊢
    rw [List.map_cons, List.any_cons, ih]
    have : eqV (.str p) (.str x) = decide (x = p) := by
      show (p == x) = decide (x = p)
      by_cases h : p = x
      · simp [h]
      · simp [h, Ne.symm h]
    rw [this]
    by_cases h : x = p <;> simp [h]
/-- x in a tuple of texts -/
theorem ev_inT {x : Str} {l : List Str} (ha : Ev ta σ H (.str x)) (hb : EvP K tb σ H (.tuple (l.map PyData.str))) : Ev (tOp (rIn K false) ta tb) σ H (.bl (decide (x ∈ l))) := fun H1 e Q q =>
  ha H1 e _ fun H2 e2 => hb H2 (e.trans e2) _ fun v H3 e3 p => by
    obtain ⟨a, xs, rfl, hx, px⟩ := pv_tup p
    rw [PVs.of_strs px] at hx
    have h := rv_isT (K := K) (x := .str x) hx.sq rfl (by simp [flatV])
    rw [inV_strs] at h
    exact h H3 (Ex.refl H3) Q fun H4 e4 => q H4 ((e2.trans e3).trans e4)
/-- texts compared -/
theorem et_eqS {x y : Str} (h : Ev ta σ H (.str x)) (h2 : Ev tb σ H (.str y)) : Ev (tOp rEq ta tb) σ H (.bl (decide (x = y))) :=
  ev_is (ev_op h h2 (rv_eq rfl)) (congrArg V.bl (decide_eq_decide.mpr ⟨fun h => V.str.inj h, fun h => by rw [h]⟩))
theorem et_eqI {x y : Int} (h : Ev ta σ H (.int x)) (h2 : Ev tb σ H (.int y)) : Ev (tOp rEq ta tb) σ H (.bl (decide (x = y))) :=
  ev_is (ev_op h h2 (rv_eq rfl)) (congrArg V.bl (decide_eq_decide.mpr ⟨fun h => V.int.inj h, fun h => by rw [h]⟩))
end
end Pd

namespace Gd
open PySem PySem.Spec PyProof.Rows L2 Evl Pd
/-- for (i, x) in enumerate(t): the pair is new at each turn -/
theorem s_forEnum {K : PySem.W.Frag} {σ : L2.St} {H : Hp} {D : Ends} {tl : TE} {g : TG} {tu : L2.TS} {ds : List PyData} (h : EvP K tl σ H (.tuple ds)) (Pv : Hp → Nat → L2.St → Hp → Prop) (h0 : ∀ H1, Ex H H1 → Pv H1 0 σ H1) (hT : ∀ H1 i σ' H', Pv H1 i σ' H' → Tx H1 H')
    (hs : ∀ H1 (i : Nat) v d σ' H', Ex H H1 → ds[i]? = some d → PV K H' v (.tuple [.int (i : Int), d]) → (∃ H0, Pv H1 i σ' H0 ∧ Ex H0 H') → g v σ' H' fun σ2 H2 => tu { D with nx := Pv H1 (i + 1), ct := Pv H1 (i + 1), bk := D.nx } σ2 H2)
    (hd : ∀ H1 σ' H', Ex H H1 → Pv H1 ds.length σ' H' → D.nx σ' H') : tFor (iEnumT K (tCons tl tNil)) g tu D σ H :=
  h H (Ex.refl H) _ fun v H1 e1 pv => by
    obtain ⟨a, xs, rfl, hx, px⟩ := pv_tup pv
    have hl := px.length
    refine ⟨a, xs, rfl, hx.sq, fun i m σ' H' => m = xs.length - i ∧ i ≤ xs.length ∧ Pv H1 i σ' H', ⟨xs.length, by simp, Nat.zero_le _, h0 H1 e1⟩, ?_⟩
    rintro i m σ' H' ⟨rfl, hi, p⟩
    have tx := hT H1 i σ' H' p
    by_cases lt : i < xs.length
    · refine .inr ⟨⟨(hx.tx tx).sq, lt⟩, Pv H1 (i + 1), fun σ2 H2 p2 => ⟨xs.length - (i + 1), by omega, rfl, lt, p2⟩, ?_⟩
      rintro u H2 ⟨T, x, rfl, hT0, rfl, hxi⟩
      obtain ⟨d, hd', pd⟩ := px.get hxi
      have en : Ex H' (upd H' T (.tup [.int (i : Nat), x])) := Ex.new hT0
      exact hs H1 i (.ref T) d σ' _ e1 hd' (.tup (.inl upd_same) (.cons (.int _) (.cons ((pd.tx tx).ex en) .nil))) ⟨H', p, en⟩
    · have ei : i = xs.length := by omega
      subst ei
      exact .inl ⟨⟨(hx.tx tx).sq, Nat.le_refl _⟩, hd H1 σ' H' e1 (by rw [← hl]; exact p)⟩
theorem q_forEnum {K : PySem.W.Frag} {σ : L2.St} {H : Hp} {D : Ends} {tl : TE} {g : TG} {tu tz : L2.TS} {ds : List PyData} (h : EvP K tl σ H (.tuple ds)) (Pv : Hp → Nat → L2.St → Hp → Prop) (h0 : ∀ H1, Ex H H1 → Pv H1 0 σ H1) (hT : ∀ H1 i σ' H', Pv H1 i σ' H' → Tx H1 H')
    (hs : ∀ H1 (i : Nat) v d σ' H', Ex H H1 → ds[i]? = some d → PV K H' v (.tuple [.int (i : Int), d]) → (∃ H0, Pv H1 i σ' H0 ∧ Ex H0 H') → g v σ' H' fun σ2 H2 => tu { D with nx := Pv H1 (i + 1), ct := Pv H1 (i + 1), bk := tz D } σ2 H2)
    (hd : ∀ H1 σ' H', Ex H H1 → Pv H1 ds.length σ' H' → tz D σ' H') : tSeq (tFor (iEnumT K (tCons tl tNil)) g tu) tz D σ H := s_forEnum (D := { D with nx := tz D }) h Pv h0 hT hs hd
end Gd

/-! Law k36: steps, their terms, their runs. Plain Lean. -/
namespace K36
open PySem
inductive Op where
  | add | sub | mul | div | and | or | xor | shl | shr | lt | slt | eq
  deriving DecidableEq
def Op.s : Op → Str
  | .add => "add" | .sub => "sub" | .mul => "mul" | .div => "div" | .and => "and" | .or => "or" | .xor => "xor"
  | .shl => "shl" | .shr => "shr" | .lt => "lt" | .slt => "slt" | .eq => "eq"
def Op.all : List Op := [.add, .sub, .mul, .div, .and, .or, .xor, .shl, .shr, .lt, .slt, .eq]
theorem Op.mem (o : Op) : o ∈ Op.all := by cases o <;> decide
theorem Op.s_inj0 : (Op.all.all fun a => Op.all.all fun b => decide (a.s = b.s) == decide (a = b)) = true := by decide +kernel
theorem Op.s_dec (a b : Op) : decide (a.s = b.s) = decide (a = b) := by
  have h := List.all_eq_true.mp (List.all_eq_true.mp Op.s_inj0 a (Op.mem a)) b (Op.mem b)
  exact eq_of_beq h
theorem Op.s_inj {a b : Op} (h : a.s = b.s) : a = b := by
  have := Op.s_dec a b
  rw [decide_eq_true h] at this
  exact of_decide_eq_true this.symm
def Op.comm : Op → Bool
  | .add | .mul | .and | .or | .xor | .eq => true
  | _ => false
abbrev Wd (w : Nat) : Prop := 2 ≤ w ∧ w ≤ 5
theorem Wd.cases {w : Nat} (h : Wd w) : w = 2 ∨ w = 3 ∨ w = 4 ∨ w = 5 := by omega
theorem Wd.pow {w : Nat} (h : Wd w) : 4 ≤ 2 ^ w ∧ 2 ^ w ≤ 32 := by rcases h.cases with rfl | rfl | rfl | rfl <;> decide
def sg (w a : Nat) : Int := if 2 ^ w ≤ 2 * a then (a : Int) - 2 ^ w else a
/-- the word of two words -/
def opX (w : Nat) : Op → Nat → Nat → Nat
  | .add, a, b => (a + b) % 2 ^ w
  | .sub, a, b => (a + 2 ^ w - b) % 2 ^ w
  | .mul, a, b => a * b % 2 ^ w
  | .div, a, b => if b = 0 then 0 else a / b
  | .and, a, b => a &&& b
  | .or, a, b => a ||| b
  | .xor, a, b => a ^^^ b
  | .shl, a, b => if b ≥ w then 0 else a * 2 ^ b % 2 ^ w
  | .shr, a, b => if b ≥ w then 0 else a / 2 ^ b
  | .lt, a, b => if a < b then 1 else 0
  | .slt, a, b => if sg w a < sg w b then 1 else 0
  | .eq, a, b => if a = b then 1 else 0
theorem pow_pos2 (w : Nat) : 0 < 2 ^ w := Nat.pos_of_ne_zero (by simp)
theorem opX_lt {w : Nat} (hw : Wd w) (o : Op) {a b : Nat} (ha : a < 2 ^ w) (hb : b < 2 ^ w) : opX w o a b < 2 ^ w := by
  have hp := pow_pos2 w
  have one : 1 < 2 ^ w := by have := hw.pow; omega
  cases o <;> simp only [opX] <;> try (exact Nat.mod_lt _ hp)
  · split
    · exact hp
    · exact Nat.lt_of_le_of_lt (Nat.div_le_self _ _) ha
  · exact Nat.and_lt_two_pow _ hb
  · exact Nat.or_lt_two_pow ha hb
  · exact Nat.xor_lt_two_pow ha hb
  · split
    · exact hp
    · exact Nat.mod_lt _ hp
  · split
    · exact hp
    · exact Nat.lt_of_le_of_lt (Nat.div_le_self _ _) ha
  · split <;> omega
  · split <;> omega
  · split <;> omega
theorem opX_comm (w : Nat) {o : Op} (h : o.comm = true) (a b : Nat) : opX w o a b = opX w o b a := by
  cases o <;> first | (cases h; done) | (simp only [opX])
  · rw [Nat.add_comm]
  · rw [Nat.mul_comm]
  · exact Nat.and_comm a b
  · exact Nat.or_comm a b
  · exact Nat.xor_comm a b
  · by_cases e : a = b
    · rw [if_pos e, if_pos e.symm]
    · rw [if_neg e, if_neg (fun z => e z.symm)]
/-! ### names, operands, steps, terms -/
inductive Nm where
  | a | b | x | y | z
  deriving DecidableEq
def Nm.s : Nm → Str
  | .a => "a" | .b => "b" | .x => "x" | .y => "y" | .z => "z"
def Nm.all : List Nm := [.a, .b, .x, .y, .z]
theorem Nm.mem (n : Nm) : n ∈ Nm.all := by cases n <;> decide
theorem Nm.s_inj0 : (Nm.all.all fun a => Nm.all.all fun b => decide (a.s = b.s) == decide (a = b)) = true := by decide +kernel
theorem Nm.s_dec (a b : Nm) : decide (a.s = b.s) = decide (a = b) := by
  have h := List.all_eq_true.mp (List.all_eq_true.mp Nm.s_inj0 a (Nm.mem a)) b (Nm.mem b)
  exact eq_of_beq h
theorem Nm.s_inj {a b : Nm} (h : a.s = b.s) : a = b := by
  have := Nm.s_dec a b
  rw [decide_eq_true h] at this
  exact of_decide_eq_true this.symm
inductive Opd where
  | nm (n : Nm) | num (i : Fin 6)
  deriving DecidableEq
inductive Stp where
  | op (v : Nm) (o : Op) (a b : Opd) | copy (v : Nm) (a : Opd) | load (v : Nm) (a : Opd) | store (a b : Opd) | call (v : Nm) (a : Opd)
  deriving DecidableEq
inductive Tm where
  | num (i : Fin 6) | inp (n : Nm) | op (o : Op) (a b : Tm) | load (a : Tm) (n : Nat) | call (n : Nat)
  deriving DecidableEq
inductive Act where
  | store (a b : Tm) | call (a : Tm)
  deriving DecidableEq
def Stp.writes : Stp → Option Nm
  | .op v _ _ _ => some v | .copy v _ => some v | .load v _ => some v | .store _ _ => none | .call v _ => some v
def Stp.reads : Stp → List Opd
  | .op _ _ a b => [a, b] | .copy _ a => [a] | .load _ a => [a] | .store a b => [a, b] | .call _ a => [a]
abbrev TMap := List (Nm × Tm)
def tget (m : TMap) (n : Nm) : Option Tm := (m.find? fun p => decide (p.1 = n)).map (·.2)
def tput (m : TMap) (n : Nm) (t : Tm) : TMap := if (m.any fun p => decide (p.1 = n)) = true then m.map (fun p => if p.1 = n then (p.1, t) else p) else m ++ [(n, t)]
theorem tget_cons (p : Nm × Tm) (r : TMap) (k : Nm) : tget (p :: r) k = if p.1 = k then some p.2 else tget r k := by
  unfold tget
  rw [List.find?_cons]
  by_cases h : p.1 = k
  · rw [if_pos h, decide_eq_true h]
    rfl
  · rw [if_neg h, decide_eq_false h]
theorem tget_none {m : TMap} {n : Nm} (h : ¬ (m.any fun p => decide (p.1 = n)) = true) : tget m n = none := by
  unfold tget
  rw [List.find?_eq_none.mpr fun p hp hd => h (List.any_eq_true.mpr ⟨p, hp, hd⟩)]
  rfl
theorem tget_app (m r : TMap) (k : Nm) : tget (m ++ r) k = (tget m k).or (tget r k) := by
  induction m with
  | nil => rfl
  | cons p m ih =>
    rw [List.cons_append, tget_cons, tget_cons, ih]
    split <;> rfl
theorem tget_map (n k : Nm) (t : Tm) : ∀ m : TMap, tget (m.map fun p => if p.1 = n then (p.1, t) else p) k = (tget m k).map fun x => if k = n then t else x
  | [] => rfl
  | p :: m => by
    rw [List.map_cons, tget_cons, tget_cons, tget_map n k t m]
    by_cases h : p.1 = n
    · rw [if_pos h]
      by_cases e : p.1 = k
      · rw [if_pos e, if_pos e, Option.map_some, if_pos (e.symm.trans h)]
      · rw [if_neg e, if_neg e]
    · rw [if_neg h]
      by_cases e : p.1 = k
      · rw [if_pos e, if_pos e, Option.map_some, if_neg (fun z => h (e.trans z))]
      · rw [if_neg e, if_neg e]
theorem tget_put (m : TMap) (n k : Nm) (t : Tm) : tget (tput m n t) k = if k = n then some t else tget m k := by
  unfold tput
  by_cases h : (m.any fun p => decide (p.1 = n)) = true
  · rw [if_pos h, tget_map]
    by_cases e : k = n
    · subst e
      obtain ⟨p, hp, hd⟩ := List.any_eq_true.mp h
      have : (tget m k).isSome = true := by
        unfold tget
        rw [Option.isSome_map, List.find?_isSome]
        exact ⟨p, hp, hd⟩
      cases hg : tget m k with
      | none => rw [hg] at this; cases this
      | some u => simp
    · rw [if_neg e]
      cases tget m k <;> simp [e]
  · rw [if_neg h, tget_app, tget_cons]
    by_cases e : k = n
    · subst e
      rw [tget_none h]
      simp
    · rw [if_neg (fun z => e z.symm), if_neg e]
      cases tget m k <;> rfl
def tOf (m : TMap) : Opd → Tm
  | .nm n => (tget m n).getD (.inp n)
  | .num i => .num i
structure RS where
  terms : TMap
  acts : List Act
def RS.empty : RS := ⟨[], []⟩
/-- one step read; lt: the order of terms as texts -/
def rstep (lt : Tm → Tm → Bool) (r : RS) : Stp → RS
  | .op v o a b => if o.comm && lt (tOf r.terms b) (tOf r.terms a) then ⟨tput r.terms v (.op o (tOf r.terms b) (tOf r.terms a)), r.acts⟩ else ⟨tput r.terms v (.op o (tOf r.terms a) (tOf r.terms b)), r.acts⟩
  | .copy v a => ⟨tput r.terms v (tOf r.terms a), r.acts⟩
  | .load v a => ⟨tput r.terms v (.load (tOf r.terms a) r.acts.length), r.acts⟩
  | .store a b => ⟨r.terms, r.acts ++ [.store (tOf r.terms a) (tOf r.terms b)]⟩
  | .call v a => ⟨tput r.terms v (.call r.acts.length), r.acts ++ [.call (tOf r.terms a)]⟩
def readAll (lt : Tm → Tm → Bool) (r : RS) (steps : List Stp) : RS := steps.foldl (rstep lt) r
/-- whether two rows are told the same -/
def sameR (lt : Tm → Tm → Bool) (one other : List Stp) (alive : List Opd) : Bool :=
  decide ((readAll lt .empty one).acts = (readAll lt .empty other).acts) && alive.all fun n => decide (tOf (readAll lt .empty one).terms n = tOf (readAll lt .empty other).terms n)
/-! ### runs -/
abbrev Env := Nm → Nat
abbrev Mem := List Nat
def rdO (w : Nat) (e : Env) : Opd → Nat
  | .nm n => e n
  | .num i => i.val % 2 ^ w
def setE (e : Env) (n : Nm) (v : Nat) : Env := fun k => if k = n then v else e k
structure CS where
  e : Env
  m : Mem
def exec (w : Nat) (s : CS) : Stp → CS
  | .op v o a b => ⟨setE s.e v (opX w o (rdO w s.e a) (rdO w s.e b)), s.m⟩
  | .copy v a => ⟨setE s.e v (rdO w s.e a), s.m⟩
  | .load v a => ⟨setE s.e v (s.m.getD (rdO w s.e a % 8) 0), s.m⟩
  | .store a b => ⟨s.e, s.m.set (rdO w s.e a % 8) (rdO w s.e b)⟩
  | .call v a => ⟨setE s.e v (rdO w s.e a), s.m.set 1 (rdO w s.e a)⟩
def execAll (w : Nat) (s : CS) (steps : List Stp) : CS := steps.foldl (exec w) s
/-- what terms mean: the words at the begin, the memories and the words of acts so far -/
structure TS where
  e0 : Env
  ms : List Mem
  cs : List Nat
def evT (w : Nat) (T : TS) : Tm → Nat
  | .num i => i.val % 2 ^ w
  | .inp n => T.e0 n
  | .op o a b => opX w o (evT w T a) (evT w T b)
  | .load a n => (T.ms.getD n []).getD (evT w T a % 8) 0
  | .call n => T.cs.getD n 0
def actT (w : Nat) (T : TS) : Act → TS
  | .store a b => ⟨T.e0, T.ms ++ [(T.ms.getD (T.ms.length - 1) []).set (evT w T a % 8) (evT w T b)], T.cs ++ [0]⟩
  | .call a => ⟨T.e0, T.ms ++ [(T.ms.getD (T.ms.length - 1) []).set 1 (evT w T a)], T.cs ++ [evT w T a]⟩
def actsT (w : Nat) (T : TS) (acts : List Act) : TS := acts.foldl (actT w) T
/-- terms that speak of no more than n acts -/
def Tm.upTo (n : Nat) : Tm → Prop
  | .num _ => True
  | .inp _ => True
  | .op _ a b => a.upTo n ∧ b.upTo n
  | .load a k => a.upTo n ∧ k ≤ n
  | .call k => k < n
theorem Tm.upTo.mono {n m : Nat} (h : n ≤ m) : ∀ {t : Tm}, t.upTo n → t.upTo m
  | .num _, _ => trivial
  | .inp _, _ => trivial
  | .op _ _ _, ⟨a, b⟩ => ⟨a.mono h, b.mono h⟩
  | .load _ _, ⟨a, b⟩ => ⟨a.mono h, Nat.le_trans b h⟩
  | .call _, b => Nat.lt_of_lt_of_le b h
/-- T' is T with more acts behind -/
structure More (T T' : TS) : Prop where
  e : T'.e0 = T.e0
  m : ∀ k, k < T.ms.length → T'.ms.getD k [] = T.ms.getD k []
  c : ∀ k, k < T.cs.length → T'.cs.getD k 0 = T.cs.getD k 0
theorem evT_more {w : Nat} {T T' : TS} (M : More T T') {n : Nat} (h1 : T.ms.length = n + 1) (h2 : T.cs.length = n) : ∀ {t : Tm}, t.upTo n → evT w T' t = evT w T t
  | .num _, _ => rfl
  | .inp x, _ => by
    show T'.e0 x = T.e0 x
    rw [M.e]
  | .op _ _ _, ⟨a, b⟩ => by
    show opX w _ _ _ = opX w _ _ _
    rw [evT_more M h1 h2 a, evT_more M h1 h2 b]
  | .load _ k, ⟨a, b⟩ => by
    show (T'.ms.getD k []).getD _ 0 = (T.ms.getD k []).getD _ 0
    rw [evT_more M h1 h2 a, M.m k (by omega)]
  | .call k, b => by
    show T'.cs.getD k 0 = T.cs.getD k 0
    exact M.c k (by have : k < n := b; omega)
theorem getD_app {α : Type} (l : List α) (x d : α) (k : Nat) (h : k < l.length) : (l ++ [x]).getD k d = l.getD k d := by
  rw [List.getD_eq_getElem?_getD, List.getD_eq_getElem?_getD, List.getElem?_append_left h]
theorem more_act (w : Nat) (T : TS) (a : Act) : More T (actT w T a) := by
  cases a <;> exact ⟨rfl, fun k hk => getD_app _ _ _ k hk, fun k hk => getD_app _ _ _ k hk⟩
theorem act_len (w : Nat) (T : TS) (a : Act) : (actT w T a).ms.length = T.ms.length + 1 ∧ (actT w T a).cs.length = T.cs.length + 1 := by
  cases a <;> simp [actT]
/-- what is read and what is run say the same -/
structure Agree (w : Nat) (s0 : CS) (r : RS) (s : CS) (T : TS) : Prop where
  e0 : T.e0 = s0.e
  lm : T.ms.length = r.acts.length + 1
  lc : T.cs.length = r.acts.length
  up : ∀ n t, tget r.terms n = some t → t.upTo r.acts.length
  val : ∀ n, s.e n = evT w T (tOf r.terms (.nm n))
  mem : s.m = T.ms.getD r.acts.length []
  run : T = actsT w ⟨s0.e, [s0.m], []⟩ r.acts
theorem Agree.tm {w : Nat} {s0 s : CS} {r : RS} {T : TS} (A : Agree w s0 r s T) (o : Opd) : (tOf r.terms o).upTo r.acts.length ∧ rdO w s.e o = evT w T (tOf r.terms o) := by
  cases o with
  | num i => exact ⟨trivial, rfl⟩
  | nm n =>
    refine ⟨?_, A.val n⟩
    show ((tget r.terms n).getD (.inp n)).upTo _
    cases h : tget r.terms n with
    | none => trivial
    | some t => exact A.up n t h
theorem tOf_put (m : TMap) (v : Nm) (t : Tm) (n : Nm) : tOf (tput m v t) (.nm n) = if n = v then t else tOf m (.nm n) := by
  show (tget (tput m v t) n).getD (.inp n) = _
  rw [tget_put]
  by_cases h : n = v
  · rw [if_pos h, if_pos h]
    rfl
  · rw [if_neg h, if_neg h]
    rfl
theorem agree_set {w : Nat} {s0 s : CS} {r : RS} {T : TS} (A : Agree w s0 r s T) (v : Nm) (t : Tm) (ht : t.upTo r.acts.length) : Agree w s0 ⟨tput r.terms v t, r.acts⟩ ⟨setE s.e v (evT w T t), s.m⟩ T where
  e0 := A.e0
  lm := A.lm
  lc := A.lc
  up := fun n u h => by
    have h : tget (tput r.terms v t) n = some u := h
    rw [tget_put] at h
    by_cases e : n = v
    · rw [if_pos e] at h
      cases h
      exact ht
    · rw [if_neg e] at h
      exact A.up n u h
  val := fun n => by
    show setE s.e v (evT w T t) n = evT w T (tOf (tput r.terms v t) (.nm n))
    rw [tOf_put]
    unfold setE
    by_cases e : n = v
    · rw [if_pos e, if_pos e]
    · rw [if_neg e, if_neg e]
      exact A.val n
  mem := A.mem
  run := A.run
theorem agree_act {w : Nat} {s0 s : CS} {r : RS} {T : TS} (A : Agree w s0 r s T) (a : Act) : Agree w s0 ⟨r.terms, r.acts ++ [a]⟩ ⟨s.e, (actT w T a).ms.getD (r.acts.length + 1) []⟩ (actT w T a) where
  e0 := by rw [(more_act w T a).e]; exact A.e0
  lm := by rw [(act_len w T a).1, A.lm, List.length_append, List.length_singleton]
  lc := by rw [(act_len w T a).2, A.lc, List.length_append, List.length_singleton]
  up := fun n u h => (A.up n u h).mono (by rw [List.length_append]; omega)
  val := fun n => by
    rw [A.val n]
    exact (evT_more (more_act w T a) A.lm A.lc (A.tm (.nm n)).1).symm
  mem := by rw [List.length_append, List.length_singleton]
  run := by
    show actT w T a = actsT w _ (r.acts ++ [a])
    unfold actsT
    rw [List.foldl_append]
    show actT w T a = actT w (actsT w _ r.acts) a
    rw [← A.run]
theorem act_store (w : Nat) (T : TS) (n : Nat) (h : T.ms.length = n + 1) (a b : Tm) : (actT w T (.store a b)).ms.getD (n + 1) [] = (T.ms.getD n []).set (evT w T a % 8) (evT w T b) := by
  show (T.ms ++ [(T.ms.getD (T.ms.length - 1) []).set (evT w T a % 8) (evT w T b)]).getD (n + 1) [] = _
  rw [List.getD_eq_getElem?_getD, List.getElem?_append_right (by omega), h]
  simp
theorem act_call (w : Nat) (T : TS) (n : Nat) (h : T.ms.length = n + 1) (a : Tm) : (actT w T (.call a)).ms.getD (n + 1) [] = (T.ms.getD n []).set 1 (evT w T a) := by
  show (T.ms ++ [(T.ms.getD (T.ms.length - 1) []).set 1 (evT w T a)]).getD (n + 1) [] = _
  rw [List.getD_eq_getElem?_getD, List.getElem?_append_right (by omega), h]
  simp
theorem act_callv (w : Nat) (T : TS) (n : Nat) (h : T.cs.length = n) (a : Tm) : evT w (actT w T (.call a)) (.call n) = evT w T a := by
  show (T.cs ++ [evT w T a]).getD n 0 = _
  rw [List.getD_eq_getElem?_getD, List.getElem?_append_right (by omega), h]
  simp
theorem agree_step {lt : Tm → Tm → Bool} {w : Nat} {s0 s : CS} {r : RS} {T : TS} (A : Agree w s0 r s T) (st : Stp) : ∃ T', Agree w s0 (rstep lt r st) (exec w s st) T' := by
  cases st with
  | op v o a b =>
    obtain ⟨ua, va⟩ := A.tm a
    obtain ⟨ub, vb⟩ := A.tm b
    dsimp only [rstep, exec]
    rw [va, vb]
    by_cases h : (o.comm && lt (tOf r.terms b) (tOf r.terms a)) = true
    · rw [if_pos h]
      rw [opX_comm w (Bool.and_eq_true_iff.mp h).1]
      exact ⟨T, agree_set A v (.op o (tOf r.terms b) (tOf r.terms a)) ⟨ub, ua⟩⟩
    · rw [if_neg h]
      exact ⟨T, agree_set A v (.op o (tOf r.terms a) (tOf r.terms b)) ⟨ua, ub⟩⟩
  | copy v a =>
    obtain ⟨ua, va⟩ := A.tm a
    dsimp only [rstep, exec]
    rw [va]
    exact ⟨T, agree_set A v _ ua⟩
  | load v a =>
    obtain ⟨ua, va⟩ := A.tm a
    dsimp only [rstep, exec]
    have h := agree_set A v (.load (tOf r.terms a) r.acts.length) ⟨ua, Nat.le_refl _⟩
    have e : evT w T (.load (tOf r.terms a) r.acts.length) = s.m.getD (rdO w s.e a % 8) 0 := by
      rw [A.mem, va]
      rfl
    rw [e] at h
    exact ⟨T, h⟩
  | store a b =>
    obtain ⟨ua, va⟩ := A.tm a
    obtain ⟨ub, vb⟩ := A.tm b
    dsimp only [rstep, exec]
    rw [va, vb, A.mem]
    have h := agree_act A (.store (tOf r.terms a) (tOf r.terms b))
    rw [act_store w T _ A.lm] at h
    exact ⟨_, h⟩
  | call v a =>
    obtain ⟨ua, va⟩ := A.tm a
    dsimp only [rstep, exec]
    rw [va, A.mem]
    have h := agree_act A (.call (tOf r.terms a))
    rw [act_call w T _ A.lm] at h
    have h2 := agree_set h v (.call r.acts.length) (by show r.acts.length < (r.acts ++ [Act.call (tOf r.terms a)]).length; rw [List.length_append, List.length_singleton]; omega)
    have e : evT w (actT w T (.call (tOf r.terms a))) (.call r.acts.length) = evT w T (tOf r.terms a) := act_callv w T _ A.lc _
    rw [e] at h2
    exact ⟨_, h2⟩
theorem agree_all {lt : Tm → Tm → Bool} {w : Nat} {s0 : CS} : ∀ (steps : List Stp) {s : CS} {r : RS} {T : TS}, Agree w s0 r s T → ∃ T', Agree w s0 (readAll lt r steps) (execAll w s steps) T'
  | [], _, _, T, A => ⟨T, A⟩
  | st :: rest, _, _, _, A => by
    obtain ⟨T', A'⟩ := agree_step (lt := lt) A st
    exact agree_all rest A'
theorem agree0 (w : Nat) (s0 : CS) : Agree w s0 .empty s0 ⟨s0.e, [s0.m], []⟩ where
  e0 := rfl
  lm := rfl
  lc := rfl
  up := fun n t h => by cases h
  val := fun n => rfl
  mem := rfl
  run := rfl
/-- rows that are told the same do the same -/
theorem same_run {lt : Tm → Tm → Bool} {w : Nat} {one other : List Stp} {alive : List Opd} (h : sameR lt one other alive = true) (s : CS) :
    (execAll w s one).m = (execAll w s other).m ∧ ∀ o ∈ alive, rdO w (execAll w s one).e o = rdO w (execAll w s other).e o := by
  obtain ⟨T1, A1⟩ := agree_all (lt := lt) one (agree0 w s)
  obtain ⟨T2, A2⟩ := agree_all (lt := lt) other (agree0 w s)
  unfold sameR at h
  rw [Bool.and_eq_true] at h
  have ha := of_decide_eq_true h.1
  have hT : T1 = T2 := by rw [A1.run, A2.run, ha]
  subst hT
  refine ⟨by rw [A1.mem, A2.mem, ha], fun o ho => ?_⟩
  have ht := of_decide_eq_true (List.all_eq_true.mp h.2 o ho)
  rw [(A1.tm o).2, (A2.tm o).2, ht]
end K36

namespace K36
open PySem
/-! ### steps that change places -/
def Stp.changing : Stp → Bool
  | .store _ _ => true | .call _ _ => true | _ => false
def Stp.asking : Stp → Bool
  | .store _ _ => true | .call _ _ => true | .load _ _ => true | _ => false
def meet (s t : Stp) : Bool := (s.changing && t.asking) || (s.asking && t.changing)
/-- nothing that makes t wait for s -/
structure Free (s t : Stp) : Prop where
  acts : meet s t = false
  one : ∀ v, s.writes = some v → Opd.nm v ∉ t.reads
  two : ∀ v, t.writes = some v → Opd.nm v ∉ s.reads
  wr : ∀ v, s.writes = some v → t.writes ≠ some v
def tmOf (lt : Tm → Tm → Bool) (r : RS) : Stp → Tm
  | .op _ o a b => if o.comm && lt (tOf r.terms b) (tOf r.terms a) then .op o (tOf r.terms b) (tOf r.terms a) else .op o (tOf r.terms a) (tOf r.terms b)
  | .copy _ a => tOf r.terms a
  | .load _ a => .load (tOf r.terms a) r.acts.length
  | .store a _ => tOf r.terms a
  | .call _ _ => .call r.acts.length
def actOf (r : RS) : Stp → List Act
  | .store a b => [.store (tOf r.terms a) (tOf r.terms b)]
  | .call _ a => [.call (tOf r.terms a)]
  | _ => []
def putO (m : TMap) (v : Option Nm) (t : Tm) : TMap := match v with
  | some n => tput m n t
  | none => m
theorem rstep_eq (lt : Tm → Tm → Bool) (r : RS) (s : Stp) : rstep lt r s = ⟨putO r.terms s.writes (tmOf lt r s), r.acts ++ actOf r s⟩ := by
  cases s with
  | op v o a b =>
    dsimp only [rstep, Stp.writes, tmOf, actOf, putO]
    rw [List.append_nil]
    split <;> rfl
  | copy v a =>
    dsimp only [rstep, Stp.writes, tmOf, actOf, putO]
    rw [List.append_nil]
  | load v a =>
    dsimp only [rstep, Stp.writes, tmOf, actOf, putO]
    rw [List.append_nil]
  | store a b => rfl
  | call v a => rfl
/-- the same up to the order of names -/
structure Req (r r' : RS) : Prop where
  t : ∀ n, tget r.terms n = tget r'.terms n
  a : r.acts = r'.acts
theorem Req.tOf {r r' : RS} (h : Req r r') (o : Opd) : tOf r.terms o = K36.tOf r'.terms o := by
  cases o with
  | num i => rfl
  | nm n =>
    show (tget r.terms n).getD _ = (tget r'.terms n).getD _
    rw [h.t n]
theorem tm_dep {lt : Tm → Tm → Bool} {r r' : RS} {s : Stp} (h : ∀ o ∈ s.reads, tOf r.terms o = tOf r'.terms o) (hl : s.asking = true → r.acts.length = r'.acts.length) : tmOf lt r s = tmOf lt r' s ∧ actOf r s = actOf r' s := by
  cases s with
  | op v o a b =>
    have h1 := h a (by simp [Stp.reads])
    have h2 := h b (by simp [Stp.reads])
    dsimp only [tmOf, actOf]
    rw [h1, h2]
    exact ⟨rfl, rfl⟩
  | copy v a =>
    have h1 := h a (by simp [Stp.reads])
    dsimp only [tmOf, actOf]
    rw [h1]
    exact ⟨rfl, rfl⟩
  | load v a =>
    have h1 := h a (by simp [Stp.reads])
    dsimp only [tmOf, actOf]
    rw [h1, hl rfl]
    exact ⟨rfl, rfl⟩
  | store a b =>
    have h1 := h a (by simp [Stp.reads])
    have h2 := h b (by simp [Stp.reads])
    dsimp only [tmOf, actOf]
    rw [h1, h2]
    exact ⟨rfl, rfl⟩
  | call v a =>
    have h1 := h a (by simp [Stp.reads])
    dsimp only [tmOf, actOf]
    rw [h1, hl rfl]
    exact ⟨rfl, rfl⟩
theorem putO_get (m : TMap) (v : Option Nm) (t : Tm) (k : Nm) : tget (putO m v t) k = if v = some k then some t else tget m k := by
  cases v with
  | none => rfl
  | some n =>
    show tget (tput m n t) k = _
    rw [tget_put]
    by_cases h : k = n
    · subst h
      rw [if_pos rfl, if_pos rfl]
    · rw [if_neg h, if_neg (fun z => h (Option.some.inj z).symm)]
theorem req_step {lt : Tm → Tm → Bool} {r r' : RS} (h : Req r r') (s : Stp) : Req (rstep lt r s) (rstep lt r' s) := by
  obtain ⟨e1, e2⟩ := tm_dep (lt := lt) (r := r) (r' := r') (s := s) (fun o _ => h.tOf o) (fun _ => by rw [h.a])
  rw [rstep_eq, rstep_eq, e1, e2]
  exact ⟨fun n => by show tget (putO r.terms _ _) n = tget (putO r'.terms _ _) n; rw [putO_get, putO_get, h.t n], by show r.acts ++ _ = r'.acts ++ _; rw [h.a]⟩
theorem req_all {lt : Tm → Tm → Bool} : ∀ (steps : List Stp) {r r' : RS}, Req r r' → Req (readAll lt r steps) (readAll lt r' steps)
  | [], _, _, h => h
  | s :: rest, _, _, h => req_all rest (req_step h s)
theorem actOf_nil {r : RS} {s : Stp} (h : s.changing = false) : actOf r s = [] := by
  cases s <;> first | rfl | cases h
/-- one of two steps sees nothing of the other -/
theorem step_dep {lt : Tm → Tm → Bool} {r : RS} {s t : Stp} (h1 : ∀ v, s.writes = some v → Opd.nm v ∉ t.reads) (h2 : t.asking = true → s.changing = false) : tmOf lt (rstep lt r s) t = tmOf lt r t ∧ actOf (rstep lt r s) t = actOf r t := by
  rw [rstep_eq]
  refine tm_dep (fun o ho => ?_) (fun ha => ?_)
  · cases o with
    | num i => rfl
    | nm n =>
      show (tget (putO r.terms _ _) n).getD _ = (tget r.terms n).getD _
      rw [putO_get, if_neg (fun z => h1 n z ho)]
  · show (r.acts ++ actOf r s).length = r.acts.length
    rw [actOf_nil (h2 ha), List.append_nil]
theorem swap_step {lt : Tm → Tm → Bool} {s t : Stp} (F : Free s t) (r : RS) : Req (rstep lt (rstep lt r s) t) (rstep lt (rstep lt r t) s) := by
  have hm := F.acts
  unfold meet at hm
  rw [Bool.or_eq_false_iff] at hm
  have m1 : t.asking = true → s.changing = false := fun h => by
    cases hs : s.changing with
    | false => rfl
    | true => rw [hs, h] at hm; exact absurd hm.1 (by decide)
  have m2 : s.asking = true → t.changing = false := fun h => by
    cases hs : t.changing with
    | false => rfl
    | true => rw [hs, h] at hm; exact absurd hm.2 (by decide)
  obtain ⟨a1, a2⟩ := step_dep (lt := lt) (r := r) F.one m1
  obtain ⟨b1, b2⟩ := step_dep (lt := lt) (r := r) F.two m2
  rw [rstep_eq lt (rstep lt r s) t, rstep_eq lt (rstep lt r t) s, a1, a2, b1, b2, rstep_eq lt r s, rstep_eq lt r t]
  constructor
  · intro n
    show tget (putO (putO r.terms _ _) _ _) n = tget (putO (putO r.terms _ _) _ _) n
    rw [putO_get, putO_get, putO_get, putO_get]
    by_cases h : t.writes = some n
    · rw [if_pos h, if_neg (fun z => F.wr n z h), if_pos h]
    · rw [if_neg h]
      by_cases h2 : s.writes = some n
      · rw [if_pos h2, if_pos h2]
      · rw [if_neg h2, if_neg h2, if_neg h]
  · show (r.acts ++ actOf r s) ++ actOf r t = (r.acts ++ actOf r t) ++ actOf r s
    cases hs : s.changing with
    | false => rw [actOf_nil hs, List.append_nil, List.append_nil]
    | true =>
      have ha : s.asking = true := by cases s <;> first | rfl | cases hs
      rw [actOf_nil (m2 ha), List.append_nil, List.append_nil]
theorem readAll_app (lt : Tm → Tm → Bool) (r : RS) (p q : List Stp) : readAll lt r (p ++ q) = readAll lt (readAll lt r p) q := by
  unfold readAll
  rw [List.foldl_append]
/-- rows that change places without hanging are told the same -/
theorem swap_same {lt : Tm → Tm → Bool} {s t : Stp} (F : Free s t) (p q : List Stp) (alive : List Opd) : sameR lt (p ++ s :: t :: q) (p ++ t :: s :: q) alive = true := by
  have h : Req (readAll lt .empty (p ++ s :: t :: q)) (readAll lt .empty (p ++ t :: s :: q)) := by
    rw [readAll_app, readAll_app]
    exact req_all q (swap_step F _)
  unfold sameR
  rw [Bool.and_eq_true]
  exact ⟨decide_eq_true h.a, List.all_eq_true.mpr fun o _ => decide_eq_true (h.tOf o)⟩
theorem same_refl (lt : Tm → Tm → Bool) (p : List Stp) (alive : List Opd) : sameR lt p p alive = true := by
  unfold sameR
  rw [Bool.and_eq_true]
  exact ⟨decide_eq_true rfl, List.all_eq_true.mpr fun o _ => decide_eq_true rfl⟩
/-! ### graphs -/
inductive End where
  | ret (a : Opd) | jump (g : Nat) | fork (a : Opd) (g h : Nat)
  deriving DecidableEq
def End.goals : End → List Nat
  | .ret _ => [] | .jump g => [g] | .fork _ g h => [g, h]
def End.reads : End → List Opd
  | .ret a => [a] | .jump _ => [] | .fork a _ _ => [a]
structure Blk where
  steps : List Stp
  fin : End
abbrev Gr := List Blk
def calls (steps : List Stp) : Nat := (steps.filter fun s => match s with
  | .call _ _ => true
  | _ => false).length
/-- a run: the word that is told and the memory behind -/
def go (w : Nat) (g : Gr) : Nat → Nat → CS → Nat → Option (Nat × Mem)
  | 0, _, _, _ => none
  | gas + 1, k, s, fuel => match g[k]? with
    | none => none
    | some b => if fuel < calls b.steps then none else match b.fin with
      | .ret o => some (rdO w (execAll w s b.steps).e o, (execAll w s b.steps).m)
      | .jump j => if fuel - calls b.steps = 0 then none else go w g gas j (execAll w s b.steps) (fuel - calls b.steps - 1)
      | .fork o i j => if fuel - calls b.steps = 0 then none else go w g gas (if rdO w (execAll w s b.steps).e o > 0 then i else j) (execAll w s b.steps) (fuel - calls b.steps - 1)
abbrev NSet := Nm → Prop
def before (s : Stp) (A : NSet) : NSet := fun n => (A n ∧ s.writes ≠ some n) ∨ Opd.nm n ∈ s.reads
def liveIn (steps : List Stp) (A : NSet) : NSet := steps.foldr before A
def AgreeOn (A : NSet) (e e' : Env) : Prop := ∀ n, A n → e n = e' n
theorem rd_agree {w : Nat} {A : NSet} {e e' : Env} (h : AgreeOn A e e') {o : Opd} (ho : ∀ n, o = .nm n → A n) : rdO w e o = rdO w e' o := by
  cases o with
  | num i => rfl
  | nm n => exact h n (ho n rfl)
theorem live_step {w : Nat} {s : Stp} {A : NSet} {c c' : CS} (h : AgreeOn (before s A) c.e c'.e) (hm : c.m = c'.m) : AgreeOn A (exec w c s).e (exec w c' s).e ∧ (exec w c s).m = (exec w c' s).m := by
  have r : ∀ o ∈ s.reads, rdO w c.e o = rdO w c'.e o := fun o ho => rd_agree h fun n e => .inr (e ▸ ho)
  have keep : ∀ (v : Nm) (x : Nat), s.writes = some v → AgreeOn A (setE c.e v x) (setE c'.e v x) := fun v x hv n hn => by
    show (if n = v then x else c.e n) = if n = v then x else c'.e n
    by_cases e : n = v
    · rw [if_pos e, if_pos e]
    · rw [if_neg e, if_neg e]
      exact h n (.inl ⟨hn, fun z => e (by rw [hv] at z; exact (Option.some.inj z).symm)⟩)
  cases s with
  | op v o a b =>
    have r1 := r a (by simp [Stp.reads])
    have r2 := r b (by simp [Stp.reads])
    dsimp only [exec]
    rw [r1, r2]
    exact ⟨keep v _ rfl, hm⟩
  | copy v a =>
    have r1 := r a (by simp [Stp.reads])
    dsimp only [exec]
    rw [r1]
    exact ⟨keep v _ rfl, hm⟩
  | load v a =>
    have r1 := r a (by simp [Stp.reads])
    dsimp only [exec]
    rw [r1, hm]
    exact ⟨keep v _ rfl, rfl⟩
  | store a b =>
    have r1 := r a (by simp [Stp.reads])
    have r2 := r b (by simp [Stp.reads])
    dsimp only [exec]
    rw [r1, r2, hm]
    exact ⟨fun n hn => h n (.inl ⟨hn, by simp [Stp.writes]⟩), rfl⟩
  | call v a =>
    have r1 := r a (by simp [Stp.reads])
    dsimp only [exec]
    rw [r1, hm]
    exact ⟨keep v _ rfl, rfl⟩
theorem live_all {w : Nat} {A : NSet} : ∀ (steps : List Stp) {c c' : CS}, AgreeOn (liveIn steps A) c.e c'.e → c.m = c'.m → AgreeOn A (execAll w c steps).e (execAll w c' steps).e ∧ (execAll w c steps).m = (execAll w c' steps).m
  | [], _, _, h, hm => ⟨h, hm⟩
  | s :: rest, _, _, h, hm => by
    obtain ⟨h1, h2⟩ := live_step (w := w) (s := s) (A := liveIn rest A) h hm
    exact live_all rest h1 h2
/-- what blocks must keep: what lives behind them and what their ends read -/
def needs (b : Blk) (out : List Nm) : NSet := fun n => n ∈ out ∨ Opd.nm n ∈ b.fin.reads
/-- graphs whose blocks are told the same do the same -/
theorem same_go {lt : Tm → Tm → Bool} {w : Nat} {g g' : Gr} {B : Nat → NSet} {out : Nat → List Nm} (len : g.length = g'.length)
    (same : ∀ k b b', g[k]? = some b → g'[k]? = some b' → b.fin = b'.fin ∧ sameR lt b.steps b'.steps ((out k).map .nm ++ b.fin.reads) = true ∧ calls b.steps = calls b'.steps)
    (live : ∀ k b, g[k]? = some b → ∀ n, liveIn b.steps (needs b (out k)) n → B k n) (next : ∀ k b, g[k]? = some b → ∀ j ∈ b.fin.goals, ∀ n, B j n → n ∈ out k) :
    ∀ (gas k : Nat) (c c' : CS) (fuel : Nat) (v : Nat × Mem), AgreeOn (B k) c.e c'.e → c.m = c'.m → go w g gas k c fuel = some v → ∀ gas' fuel', gas ≤ gas' → fuel ≤ fuel' → go w g' gas' k c' fuel' = some v
  | 0, _, _, _, _, _, _, _, h => by cases h
  | gas + 1, k, c, c', fuel, v, hB, hm, h => by
    intro gas' fuel' hg hf
    obtain ⟨gas', rfl⟩ : ∃ n, gas' = n + 1 := ⟨gas' - 1, by omega⟩
    unfold go at h ⊢
    cases hb : g[k]? with
    | none => rw [hb] at h; cases h
    | some b =>
      have hk := (List.getElem?_eq_some_iff.mp hb).1
      obtain ⟨b', hb'⟩ : ∃ b', g'[k]? = some b' := ⟨_, List.getElem?_eq_getElem (by omega)⟩
      obtain ⟨hfin, hsame, hc⟩ := same k b b' hb hb'
      rw [hb] at h
      rw [hb']
      dsimp only at h ⊢
      rw [← hc, ← hfin]
      have L := live_all (w := w) (A := needs b (out k)) b.steps (c := c) (c' := c') (fun n hn => hB n (live k b hb n hn)) hm
      have R := same_run hsame (w := w) c'
      have mem : (execAll w c b.steps).m = (execAll w c' b'.steps).m := L.2.trans R.1
      have env : AgreeOn (needs b (out k)) (execAll w c b.steps).e (execAll w c' b'.steps).e := fun n hn => by
        rw [L.1 n hn]
        exact R.2 (.nm n) (by
          rcases hn with z | z
          · exact List.mem_append_left _ (List.mem_map.mpr ⟨n, z, rfl⟩)
          · exact List.mem_append_right _ z)
      by_cases hcf : fuel < calls b.steps
      · rw [if_pos hcf] at h
        cases h
      · rw [if_neg hcf] at h
        rw [if_neg (by omega)]
        cases hf2 : b.fin with
        | ret o =>
          rw [hf2] at h
          dsimp only at h ⊢
          have ro : rdO w (execAll w c b.steps).e o = rdO w (execAll w c' b'.steps).e o := rd_agree env fun n e => .inr (by rw [hf2, e]; simp [End.reads])
          rw [← h, ro, mem]
        | jump j =>
          rw [hf2] at h
          dsimp only at h ⊢
          by_cases h0 : fuel - calls b.steps = 0
          · rw [if_pos h0] at h
            cases h
          · rw [if_neg h0] at h
            rw [if_neg (by omega)]
            exact same_go len same live next gas j _ _ _ v (fun n hn => env n (.inl (next k b hb j (by rw [hf2]; simp [End.goals]) n hn))) mem h _ _ (by omega) (by omega)
        | fork o i j =>
          rw [hf2] at h
          dsimp only at h ⊢
          have ro : rdO w (execAll w c b.steps).e o = rdO w (execAll w c' b'.steps).e o := rd_agree env fun n e => .inr (by rw [hf2, e]; simp [End.reads])
          by_cases h0 : fuel - calls b.steps = 0
          · rw [if_pos h0] at h
            cases h
          · rw [if_neg h0] at h
            rw [if_neg (by omega), ← ro]
            refine same_go len same live next gas _ _ _ _ v (fun n hn => env n (.inl (next k b hb _ ?_ n hn))) mem h _ _ (by omega) (by omega)
            rw [hf2]
            split <;> simp [End.goals]
end K36

namespace K36
open PySem L2 Pd Gd
def natD (n : Nat) : PyData := .int (n : Int)
def Nm.d (n : Nm) : PyData := .str n.s
def Opd.d : Opd → PyData
  | .nm n => n.d
  | .num i => natD i.val
def Stp.d : Stp → PyData
  | .op v o a b => .tuple [.str "op", v.d, .str o.s, a.d, b.d]
  | .copy v a => .tuple [.str "copy", v.d, a.d]
  | .load v a => .tuple [.str "load", v.d, a.d]
  | .store a b => .tuple [.str "store", a.d, b.d]
  | .call v a => .tuple [.str "call", v.d, .str "f", .tuple [a.d]]
def Tm.d : Tm → PyData
  | .num i => natD i.val
  | .inp n => .tuple [.str "in", n.d]
  | .op o a b => .tuple [.str o.s, a.d, b.d]
  | .load a n => .tuple [.str "load", a.d, natD n]
  | .call n => .tuple [.str "call", natD n]
def Act.d : Act → PyData
  | .store a b => .tuple [.str "store", a.d, b.d]
  | .call a => .tuple [.str "call", .str "f", .tuple [a.d]]
def End.d : End → PyData
  | .ret a => .tuple [.str "ret", a.d]
  | .jump g => .tuple [.str "jump", natD g]
  | .fork a g h => .tuple [.str "fork", a.d, natD g, natD h]
def rowD (steps : List Stp) : PyData := .tuple (steps.map Stp.d)
def Blk.d (b : Blk) : PyData := .tuple [rowD b.steps, b.fin.d]
def blksD (g : Gr) : PyData := .tuple (g.map Blk.d)
def ltT (s t : Tm) : Bool := decide (s.d.shown.cps.toList < t.d.shown.cps.toList)
theorem natD_inj {a b : Nat} (h : natD a = natD b) : a = b := by
  have := PyData.int.inj h
  omega
theorem nmD_inj {a b : Nm} (h : a.d = b.d) : a = b := Nm.s_inj (PyData.str.inj h)
theorem opdD_inj {a b : Opd} (h : a.d = b.d) : a = b := by
  cases a with
  | nm n => cases b with
    | nm m => rw [nmD_inj h]
    | num j => cases h
  | num i => cases b with
    | nm m => cases h
    | num j =>
      have := natD_inj h
      rw [Fin.ext this]
theorem op_load (o : Op) : ¬ o.s = "load" := by cases o <;> decide +kernel
theorem op_in (o : Op) : ¬ o.s = "in" := by cases o <;> decide +kernel
theorem op_call (o : Op) : ¬ o.s = "call" := by cases o <;> decide +kernel
theorem tmD_inj : ∀ {s t : Tm}, s.d = t.d → s = t
  | .num i, .num j, h => by rw [Fin.ext (natD_inj h)]
  | .inp n, .inp m, h => by
    have h1 := PyData.tuple.inj h
    rw [nmD_inj (List.cons.inj (List.cons.inj h1).2).1]
  | .call n, .call m, h => by
    have h1 := PyData.tuple.inj h
    rw [natD_inj (List.cons.inj (List.cons.inj h1).2).1]
  | .load a n, .load b m, h => by
    have h1 := (List.cons.inj (PyData.tuple.inj h)).2
    have h2 := List.cons.inj h1
    rw [tmD_inj h2.1, natD_inj (List.cons.inj h2.2).1]
  | .op o a b, .op p c d, h => by
    have h0 := List.cons.inj (PyData.tuple.inj h)
    have h2 := List.cons.inj h0.2
    rw [Op.s_inj (PyData.str.inj h0.1), tmD_inj h2.1, tmD_inj (List.cons.inj h2.2).1]
  | .op o a b, .load c n, h => absurd (PyData.str.inj (List.cons.inj (PyData.tuple.inj h)).1) (op_load o)
  | .load c n, .op o a b, h => absurd (PyData.str.inj (List.cons.inj (PyData.tuple.inj h)).1).symm (op_load o)
  | .num _, .inp _, h => by cases h
  | .num _, .call _, h => by cases h
  | .num _, .load _ _, h => by cases h
  | .num _, .op _ _ _, h => by cases h
  | .inp _, .num _, h => by cases h
  | .call _, .num _, h => by cases h
  | .load _ _, .num _, h => by cases h
  | .op _ _ _, .num _, h => by cases h
  | .inp _, .call _, h => absurd (PyData.str.inj (List.cons.inj (PyData.tuple.inj h)).1) (by decide +kernel)
  | .call _, .inp _, h => absurd (PyData.str.inj (List.cons.inj (PyData.tuple.inj h)).1) (by decide +kernel)
  | .inp _, .load _ _, h => by have := congrArg List.length (PyData.tuple.inj h); simp at this
  | .load _ _, .inp _, h => by have := congrArg List.length (PyData.tuple.inj h); simp at this
  | .call _, .load _ _, h => by have := congrArg List.length (PyData.tuple.inj h); simp at this
  | .load _ _, .call _, h => by have := congrArg List.length (PyData.tuple.inj h); simp at this
  | .inp _, .op _ _ _, h => by have := congrArg List.length (PyData.tuple.inj h); simp at this
  | .op _ _ _, .inp _, h => by have := congrArg List.length (PyData.tuple.inj h); simp at this
  | .call _, .op _ _ _, h => by have := congrArg List.length (PyData.tuple.inj h); simp at this
  | .op _ _ _, .call _, h => by have := congrArg List.length (PyData.tuple.inj h); simp at this
theorem actD_inj {s t : Act} (h : s.d = t.d) : s = t := by
  cases s with
  | store a b => cases t with
    | store c d =>
      have h1 := (List.cons.inj (PyData.tuple.inj h)).2
      have h2 := List.cons.inj h1
      rw [tmD_inj h2.1, tmD_inj (List.cons.inj h2.2).1]
    | call c => exact absurd (PyData.str.inj (List.cons.inj (PyData.tuple.inj h)).1) (by decide +kernel)
  | call a => cases t with
    | store c d => exact absurd (PyData.str.inj (List.cons.inj (PyData.tuple.inj h)).1) (by decide +kernel)
    | call c =>
      have h1 := (List.cons.inj (PyData.tuple.inj h)).2
      have h2 := (List.cons.inj (List.cons.inj h1).2).1
      have h3 := (List.cons.inj (PyData.tuple.inj h2)).1
      rw [tmD_inj h3]
theorem endD_inj {s t : End} (h : s.d = t.d) : s = t := by
  cases s with
  | ret a => cases t with
    | ret b => rw [opdD_inj (List.cons.inj (List.cons.inj (PyData.tuple.inj h)).2).1]
    | jump g => exact absurd (PyData.str.inj (List.cons.inj (PyData.tuple.inj h)).1) (by decide +kernel)
    | fork b g k => have := congrArg List.length (PyData.tuple.inj h); simp at this
  | jump g => cases t with
    | ret b => exact absurd (PyData.str.inj (List.cons.inj (PyData.tuple.inj h)).1) (by decide +kernel)
    | jump k => rw [natD_inj (List.cons.inj (List.cons.inj (PyData.tuple.inj h)).2).1]
    | fork b g k => have := congrArg List.length (PyData.tuple.inj h); simp at this
  | fork a g k => cases t with
    | ret b => have := congrArg List.length (PyData.tuple.inj h); simp at this
    | jump k => have := congrArg List.length (PyData.tuple.inj h); simp at this
    | fork b i j =>
      have h1 := List.cons.inj (List.cons.inj (PyData.tuple.inj h)).2
      have h2 := List.cons.inj h1.2
      rw [opdD_inj h1.1, natD_inj h2.1, natD_inj (List.cons.inj h2.2).1]
theorem map_inj {α β : Type} {f : α → β} (hf : ∀ a b, f a = f b → a = b) : ∀ {l m : List α}, l.map f = m.map f → l = m
  | [], [], _ => rfl
  | [], b :: m, h => by cases h
  | a :: l, [], h => by cases h
  | a :: l, b :: m, h => by
    rw [List.map_cons, List.map_cons] at h
    rw [hf a b (List.cons.inj h).1, map_inj hf (List.cons.inj h).2]
/-! ### no bools, shapes, sizes -/
theorem opdD_nob (o : Opd) : nob o.d = true := by cases o <;> rfl
theorem tmD_nob : ∀ t : Tm, nob t.d = true
  | .num _ => rfl
  | .inp _ => rfl
  | .op _ a b => by simp [Tm.d, nob, nobs, tmD_nob a, tmD_nob b]
  | .load a _ => by simp [Tm.d, nob, nobs, tmD_nob a, natD]
  | .call _ => rfl
theorem actD_nob (a : Act) : nob a.d = true := by cases a <;> simp [Act.d, nob, nobs, tmD_nob]
theorem endD_nob (e : End) : nob e.d = true := by cases e <;> simp [End.d, nob, nobs, opdD_nob, natD]
theorem nmS_ok (n : Nm) : PyData.strOk n.s = true := by cases n <;> decide +kernel
theorem opS_ok (o : Op) : PyData.strOk o.s = true := by cases o <;> decide +kernel
theorem kw_ok : PyData.strOk ("op" : Str) = true ∧ PyData.strOk ("copy" : Str) = true ∧ PyData.strOk ("load" : Str) = true ∧ PyData.strOk ("store" : Str) = true ∧ PyData.strOk ("call" : Str) = true ∧ PyData.strOk ("f" : Str) = true ∧ PyData.strOk ("in" : Str) = true ∧ PyData.strOk ("ret" : Str) = true ∧ PyData.strOk ("jump" : Str) = true ∧ PyData.strOk ("fork" : Str) = true := by decide +kernel
theorem opdD_can (o : Opd) : o.d.canLay0 = true := by
  cases o with
  | nm n => simp [Opd.d, Nm.d, PyData.canLay0, nmS_ok]
  | num i => simp [Opd.d, natD, PyData.canLay0]
theorem opdD_depth (o : Opd) : o.d.depth = 0 := by cases o <;> rfl
theorem tmD_can : ∀ t : Tm, t.d.canLay0 = true
  | .num _ => by simp [Tm.d, natD, PyData.canLay0]
  | .inp n => by simp [Tm.d, Nm.d, PyData.canLay0, PyData.canLayAll0, nmS_ok, kw_ok]
  | .op o a b => by simp [Tm.d, PyData.canLay0, PyData.canLayAll0, opS_ok, tmD_can a, tmD_can b]
  | .load a n => by simp [Tm.d, natD, PyData.canLay0, PyData.canLayAll0, kw_ok, tmD_can a]
  | .call n => by simp [Tm.d, natD, PyData.canLay0, PyData.canLayAll0, kw_ok]
/-- how high a term is -/
def Tm.ht : Tm → Nat
  | .num _ => 0
  | .inp _ => 1
  | .op _ a b => max a.ht b.ht + 1
  | .load a _ => a.ht + 1
  | .call _ => 1
theorem tmD_depth : ∀ t : Tm, t.d.depth = t.ht
  | .num _ => rfl
  | .inp _ => rfl
  | .op _ a b => by simp [Tm.d, PyData.depth, PyData.depthAll, Tm.ht, tmD_depth a, tmD_depth b]
  | .load a _ => by simp [Tm.d, natD, PyData.depth, PyData.depthAll, Tm.ht, tmD_depth a]
  | .call _ => rfl
/-- its nodes -/
def Tm.sz : Tm → Nat
  | .num _ => 1
  | .inp _ => 1
  | .op _ a b => a.sz + b.sz + 1
  | .load a _ => a.sz + 1
  | .call _ => 1
theorem opS_len (o : Op) : o.s.cps.size ≤ 3 := by cases o <;> decide +kernel
theorem nmS_len (n : Nm) : n.s.cps.size ≤ 3 := by cases n <;> decide +kernel
theorem tmD_bulk : ∀ t : Tm, t.d.bulk ≤ 20 * t.sz
  | .num _ => by simp [Tm.d, natD, PyData.bulk]
  | .inp n => by
    have h1 := nmS_len n
    have h2 : ("in" : Str).cps.size = 2 := by decide +kernel
    simp only [Tm.d, Nm.d, PyData.bulk, PyData.bulkAll, Tm.sz, h2]
    omega
  | .op o a b => by
    have h1 := tmD_bulk a
    have h2 := tmD_bulk b
    have h3 := opS_len o
    simp only [Tm.d, PyData.bulk, PyData.bulkAll, Tm.sz]
    omega
  | .load a n => by
    have h1 := tmD_bulk a
    have h2 : ("load" : Str).cps.size = 4 := by decide +kernel
    simp only [Tm.d, natD, PyData.bulk, PyData.bulkAll, Tm.sz, h2]
    omega
  | .call n => by
    have h2 : ("call" : Str).cps.size = 4 := by decide +kernel
    simp only [Tm.d, natD, PyData.bulk, PyData.bulkAll, Tm.sz, h2]
    omega
theorem nat_shown : ∀ n : Nat, n ≤ 20 → (PyData.shown (natD n)).length ≤ 8 := by
  intro n hn
  have : n = 0 ∨ n = 1 ∨ n = 2 ∨ n = 3 ∨ n = 4 ∨ n = 5 ∨ n = 6 ∨ n = 7 ∨ n = 8 ∨ n = 9 ∨ n = 10 ∨ n = 11 ∨ n = 12 ∨ n = 13 ∨ n = 14 ∨ n = 15 ∨ n = 16 ∨ n = 17 ∨ n = 18 ∨ n = 19 ∨ n = 20 := by omega
  rcases this with rfl | rfl | rfl | rfl | rfl | rfl | rfl | rfl | rfl | rfl | rfl | rfl | rfl | rfl | rfl | rfl | rfl | rfl | rfl | rfl | rfl <;> decide +kernel
theorem str_short (x : Str) (h : PyData.strOk x = true) : (x.cps.toList.all fun c => decide (c < 16 ^ 8)) = true := by
  unfold PyData.strOk at h
  rw [List.all_eq_true]
  intro c hc
  have h2 := Array.all_eq_true_iff_forall_mem.mp h c (Array.mem_toList_iff.mp hc)
  have h3 : c < 1114112 := of_decide_eq_true h2
  exact decide_eq_true (by omega)
theorem tmD_leaves : ∀ t : Tm, t.upTo 20 → t.d.leavesShort 8 = true
  | .num i, _ => by
    simp only [Tm.d, natD, PyData.leavesShort]
    exact decide_eq_true (nat_shown i.val (by omega))
  | .inp n, _ => by simp [Tm.d, Nm.d, PyData.leavesShort, PyData.leavesShortAll, str_short _ kw_ok.2.2.2.2.2.2.1, str_short _ (nmS_ok n)]
  | .op o a b, ⟨h1, h2⟩ => by
    have h3 := str_short _ (opS_ok o)
    simp only [Tm.d, PyData.leavesShort, PyData.leavesShortAll, tmD_leaves a h1, tmD_leaves b h2, h3, Bool.and_true, Bool.true_and]
  | .load a n, ⟨h1, h2⟩ => by
    have h3 := str_short _ kw_ok.2.2.1
    have h4 : decide ((PyData.shown (.int (n : Int))).length ≤ 8) = true := decide_eq_true (nat_shown n h2)
    simp only [Tm.d, natD, PyData.leavesShort, PyData.leavesShortAll, tmD_leaves a h1, h3, h4, Bool.and_true, Bool.true_and]
  | .call n, h => by
    have h3 := str_short _ kw_ok.2.2.2.2.1
    have h4 : decide ((PyData.shown (.int (n : Int))).length ≤ 8) = true := decide_eq_true (nat_shown n (Nat.le_of_lt h))
    simp only [Tm.d, natD, PyData.leavesShort, PyData.leavesShortAll, h3, h4, Bool.and_true, Bool.true_and]
theorem tmD_showable : ∀ t : Tm, t.upTo 20 → t.d.showable = true
  | .num i, _ => by
    simp only [Tm.d, natD, PyData.showable]
    have : i.val ≤ 20 := by omega
    exact decide_eq_true (Nat.lt_of_le_of_lt (Nat.log2_le_self _) (by omega))
  | .inp n, _ => by simp [Tm.d, Nm.d, PyData.showable, PyData.showableAll]
  | .op o a b, ⟨h1, h2⟩ => by simp [Tm.d, PyData.showable, PyData.showableAll, tmD_showable a h1, tmD_showable b h2]
  | .load a n, ⟨h1, h2⟩ => by
    have : decide ((n : Int).natAbs.log2 < 1920) = true := decide_eq_true (Nat.lt_of_le_of_lt (Nat.log2_le_self _) (by omega))
    simp only [Tm.d, natD, PyData.showable, PyData.showableAll, tmD_showable a h1, this, Bool.and_true]
  | .call n, h => by
    have h : n < 20 := h
    have : decide ((n : Int).natAbs.log2 < 1920) = true := decide_eq_true (Nat.lt_of_le_of_lt (Nat.log2_le_self _) (by omega))
    simp only [Tm.d, natD, PyData.showable, PyData.showableAll, this, Bool.and_true]
theorem tmD_noDict : ∀ t : Tm, t.d.hasDict = false
  | .num _ => rfl
  | .inp _ => rfl
  | .op _ a b => by simp [Tm.d, PyData.hasDict, PyData.hasDictAll, tmD_noDict a, tmD_noDict b]
  | .load a _ => by simp [Tm.d, natD, PyData.hasDict, PyData.hasDictAll, tmD_noDict a]
  | .call _ => rfl
/-- terms that can be told -/
structure Tm.fit (t : Tm) : Prop where
  up : t.upTo 20
  ht : t.ht ≤ 20
  sz : t.sz ≤ 4000
theorem Tm.fit.shown {t : Tm} (h : t.fit) : t.d.shown.length ≤ sizeLine := by
  have h1 := PyData.shown_le_bulk 8 (by decide) t.d (tmD_leaves t h.up)
  have h2 := tmD_bulk t
  have h3 := h.sz
  have : t.d.bulk ≤ 80000 := by omega
  have h4 : (8 + 2) * t.d.bulk + 8 ≤ 800008 := by omega
  exact Nat.le_trans h1 (Nat.le_trans h4 (by decide))
theorem Tm.fit.shaped {t : Tm} (h : t.fit) : SeqAt.shaped t.d = true := shaped_of (tmD_can t) (by rw [tmD_depth]; have := h.ht; omega)
theorem tm_eqv (s t : Tm) : PyData.eqv s.d t.d = decide (s = t) := eqv_dec (tmD_nob s) (tmD_nob t) ⟨tmD_inj, fun h => by rw [h]⟩
theorem acts_eqv (s t : List Act) : PyData.eqv (.list (s.map Act.d)) (.list (t.map Act.d)) = decide (s = t) := eqv_dec (by rw [nob]; exact nobs_map _ actD_nob s) (by rw [nob]; exact nobs_map _ actD_nob t) ⟨fun h => map_inj (fun _ _ => actD_inj) (PyData.list.inj h), fun h => by rw [h]⟩
theorem end_eqv (s t : End) : PyData.eqv s.d t.d = decide (s = t) := eqv_dec (endD_nob s) (endD_nob t) ⟨endD_inj, fun h => by rw [h]⟩
end K36

namespace K36
open PySem PySem.Spec PyProof.Rows L2 Evl Pd Gd
def topS (i : Nat) : Stmt := PySem.Challenge.pw_phiworks_k36_whole_rows_as_terms.main.body.getD i (.Pass ⟨0, 0, 0, 0⟩)
abbrev sCommutes : Stmt := topS 2
abbrev sWritesOf : Stmt := topS 6
abbrev sReadsOf : Stmt := topS 7
abbrev sGoalsOf : Stmt := topS 8
abbrev sReadsEnd : Stmt := topS 9
abbrev sIsValue : Stmt := topS 17
abbrev sLawGoals : Stmt := topS 42
theorem scCommutes : FnScope ["op"] ["op"] (defScope sCommutes) := ⟨rfl, rfl, rfl, by decide +kernel, rfl, by decide +kernel, by decide +kernel⟩
theorem scWritesOf : FnScope ["step"] ["step"] (defScope sWritesOf) := ⟨rfl, rfl, rfl, by decide +kernel, rfl, by decide +kernel, by decide +kernel⟩
theorem scReadsOf : FnScope ["step", "_", "operand"] ["step"] (defScope sReadsOf) := ⟨rfl, rfl, rfl, by decide +kernel, rfl, by decide +kernel, by decide +kernel⟩
theorem scGoalsOf : FnScope ["end"] ["end"] (defScope sGoalsOf) := ⟨rfl, rfl, rfl, by decide +kernel, rfl, by decide +kernel, by decide +kernel⟩
theorem scReadsEnd : FnScope ["end"] ["end"] (defScope sReadsEnd) := ⟨rfl, rfl, rfl, by decide +kernel, rfl, by decide +kernel, by decide +kernel⟩
theorem scIsValue : FnScope ["operand"] ["operand"] (defScope sIsValue) := ⟨rfl, rfl, rfl, by decide +kernel, rfl, by decide +kernel, by decide +kernel⟩
theorem scLawGoals : FnScope ["end"] ["end"] (defScope sLawGoals) := ⟨rfl, rfl, rfl, by decide +kernel, rfl, by decide +kernel, by decide +kernel⟩
section
variable {K : PySem.W.Frag} {H : Hp}
theorem pvs1 {vs : List V} {d1 : PyData} (h : PVs K H vs [d1]) : ∃ v1, vs = [v1] ∧ PV K H v1 d1 := by
  cases h with
  | cons a b => cases b; exact ⟨_, rfl, a⟩
theorem pvs2 {vs : List V} {d1 d2 : PyData} (h : PVs K H vs [d1, d2]) : ∃ v1 v2, vs = [v1, v2] ∧ PV K H v1 d1 ∧ PV K H v2 d2 := by
  cases h with
  | cons a b => obtain ⟨v, rfl, c⟩ := pvs1 b; exact ⟨_, _, rfl, a, c⟩
theorem pvs3 {vs : List V} {d1 d2 d3 : PyData} (h : PVs K H vs [d1, d2, d3]) : ∃ v1 v2 v3, vs = [v1, v2, v3] ∧ PV K H v1 d1 ∧ PV K H v2 d2 ∧ PV K H v3 d3 := by
  cases h with
  | cons a b => obtain ⟨_, _, rfl, c, d⟩ := pvs2 b; exact ⟨_, _, _, rfl, a, c, d⟩
theorem pvs4 {vs : List V} {d1 d2 d3 d4 : PyData} (h : PVs K H vs [d1, d2, d3, d4]) : ∃ v1 v2 v3 v4, vs = [v1, v2, v3, v4] ∧ PV K H v1 d1 ∧ PV K H v2 d2 ∧ PV K H v3 d3 ∧ PV K H v4 d4 := by
  cases h with
  | cons a b => obtain ⟨_, _, _, rfl, c, d, e⟩ := pvs3 b; exact ⟨_, _, _, _, rfl, a, c, d, e⟩
end
/-! ### the parts of steps and ends as data -/
def Stp.kind : Stp → Str
  | .op _ _ _ _ => "op" | .copy _ _ => "copy" | .load _ _ => "load" | .store _ _ => "store" | .call _ _ => "call"
def Stp.ds : Stp → List PyData
  | .op v o a b => [.str "op", v.d, .str o.s, a.d, b.d]
  | .copy v a => [.str "copy", v.d, a.d]
  | .load v a => [.str "load", v.d, a.d]
  | .store a b => [.str "store", a.d, b.d]
  | .call v a => [.str "call", v.d, .str "f", .tuple [a.d]]
theorem Stp.d_ds (s : Stp) : s.d = .tuple s.ds := by cases s <;> rfl
theorem Stp.at0 (s : Stp) : s.ds[0]? = some (.str s.kind) := by cases s <;> rfl
def End.kind : End → Str
  | .ret _ => "ret" | .jump _ => "jump" | .fork _ _ _ => "fork"
def End.ds : End → List PyData
  | .ret a => [.str "ret", a.d]
  | .jump g => [.str "jump", natD g]
  | .fork a g h => [.str "fork", a.d, natD g, natD h]
theorem End.d_ds (e : End) : e.d = .tuple e.ds := by cases e <;> rfl
theorem End.at0 (e : End) : e.ds[0]? = some (.str e.kind) := by cases e <;> rfl
def goalsD (e : End) : PyData := .tuple (e.goals.map natD)
def opdsD (l : List Opd) : PyData := .tuple (l.map Opd.d)
def optNm : Option Nm → PyData
  | none => .none
  | some n => n.d
def isNm : Opd → Bool
  | .nm _ => true
  | .num _ => false
def writingS : List Str := ["op", "copy", "load", "call", "phi"]
def commS : List Str := ["add", "mul", "and", "or", "xor", "eq"]
/-! ### promises -/
def spCommutes (K : PySem.W.Frag) : Sp := spP K fun ds d => ∃ o : Op, ds = [.str o.s] ∧ d = .bool o.comm
def spWritesOf (K : PySem.W.Frag) : Sp := spP K fun ds d => ∃ s : Stp, ds = [s.d] ∧ d = optNm s.writes
def spReadsOf (K : PySem.W.Frag) : Sp := spP K fun ds d => ∃ s : Stp, ds = [s.d] ∧ d = opdsD s.reads
def spGoalsOf (K : PySem.W.Frag) : Sp := spP K fun ds d => ∃ e : End, ds = [e.d] ∧ d = goalsD e
def spReadsEnd (K : PySem.W.Frag) : Sp := spP K fun ds d => ∃ e : End, ds = [e.d] ∧ d = opdsD e.reads
def spIsValue (K : PySem.W.Frag) : Sp := spP K fun ds d => ∃ o : Opd, ds = [o.d] ∧ d = .bool (isNm o)
/-- the module's constants -/
structure Consts (K : PySem.W.Frag) (mg : Str → Option Value) where
  aC : Addr
  gC : mg "COMMUTING" = some (.ref aC)
  pC : ∀ H : Hp, PV K H (.ref aC) (.tuple (commS.map PyData.str))
  aW : Addr
  gW : mg "WRITING" = some (.ref aW)
  pW : ∀ H : Hp, PV K H (.ref aW) (.tuple (writingS.map PyData.str))
  tP : Tok
  gP : mg "PHI" = some (.str "phi" tP)
theorem dec_t {p : Prop} {i : Decidable p} {b : Bool} (h : p) (e : b = true) : @decide p i = b := by rw [e]; exact decide_eq_true h
theorem dec_f {p : Prop} {i : Decidable p} {b : Bool} (h : ¬ p) (e : b = false) : @decide p i = b := by rw [e]; exact decide_eq_false h
theorem comm_mem (o : Op) : decide (o.s ∈ commS) = o.comm := by cases o <;> decide +kernel
theorem writing_mem (s : Stp) : decide (s.kind ∈ writingS) = s.writes.isSome := by cases s <;> first | exact dec_t (by dsimp only [Stp.kind]; decide +kernel) rfl | exact dec_f (by dsimp only [Stp.kind]; decide +kernel) rfl
section
variable {P : Program} {w : World} {K : PySem.W.Frag} {mg : Str → Option Value} {base : Heap}
theorem ok_commutes {f : Addr} {fd : FuncData} (F : Fun K "commutes" "commutes" sCommutes f fd) (C : Consts K mg) : FnOk P w K mg base CX0 1 f fd ["op"] (spCommutes K) := by
  refine F.ok scCommutes (fun vs H Q E h => ?_) (fun cdv A outer s H vs Q E hr h => ?_)
  · obtain ⟨ds, d, ps, ⟨o, rfl, _⟩, _⟩ := h
    exact ps.length
  · obtain ⟨ds, d, ps, ⟨o, rfl, rfl⟩, q⟩ := h
    obtain ⟨_, rfl, a1⟩ := pvs1 ps
    cases pv_str a1
    refine ⟨_, pss_one (ps_ret (pe_cmpR op_in_seq (pv 0) (pe_glob (v := .ref C.aC) (by rfl) C.gC (by rfl)) (by rfl))), ?_⟩
    refine s_ret (ev_inT (ev_var rfl) (ep_c (C.pC _))) fun H1 e1 => ?_
    rw [comm_mem]
    exact q _ H1 e1 (.bl _)
theorem ok_writes_of {f : Addr} {fd : FuncData} (F : Fun K "writes_of" "writes_of" sWritesOf f fd) (C : Consts K mg) : FnOk P w K mg base CX0 1 f fd ["step"] (spWritesOf K) := by
  refine F.ok scWritesOf (fun vs H Q E h => ?_) (fun cdv A outer s H vs Q E hr h => ?_)
  · obtain ⟨ds, d, ps, ⟨o, rfl, _⟩, _⟩ := h
    exact ps.length
  · obtain ⟨ds, d, ps, ⟨st, rfl, rfl⟩, q⟩ := h
    obtain ⟨v1, rfl, a1⟩ := pvs1 ps
    rw [st.d_ds] at a1
    refine ⟨_, pss_one (ps_ret (pe_ifExp (pt_cmpR op_in_seq (pe_ix ix_tup (pv 0) pe_int (fun _ _ => rfl)) (pe_glob (v := .ref C.aW) (by rfl) C.gW (by rfl)) (by rfl)) (pe_ix ix_tup (pv 0) pe_int (fun _ _ => rfl)) pe_non)), ?_⟩
    refine s_retP (d := optNm st.writes) (ep_if (et_test (ev_inT (ev_epS (ep_ixT (i := 0) (ep_var rfl a1) ev_c st.at0)) (ep_c (C.pW _)))) (fun e => ?_) (fun e => ?_)) fun v H1 e1 p => q v H1 e1 p
    · rw [writing_mem] at e
      cases st with
      | op v o a b => exact ep_ixT (i := 1) (ep_var rfl a1) ev_c rfl
      | copy v a => exact ep_ixT (i := 1) (ep_var rfl a1) ev_c rfl
      | load v a => exact ep_ixT (i := 1) (ep_var rfl a1) ev_c rfl
      | store a b => cases e
      | call v a => exact ep_ixT (i := 1) (ep_var rfl a1) ev_c rfl
    · rw [writing_mem] at e
      cases st with
      | store a b => exact ep_non
      | op v o a b => cases e
      | copy v a => cases e
      | load v a => cases e
      | call v a => cases e
theorem kind_op (s : Stp) : decide (s.kind = "op") = (match s with | .op _ _ _ _ => true | _ => false) := by cases s <;> first | exact dec_t rfl rfl | exact dec_f (by dsimp only [Stp.kind]; decide +kernel) rfl
theorem kind_call (s : Stp) : decide (s.kind = "call") = (match s with | .call _ _ => true | _ => false) := by cases s <;> first | exact dec_t rfl rfl | exact dec_f (by dsimp only [Stp.kind]; decide +kernel) rfl
theorem kind_phi (s : Stp) : decide (s.kind = "phi") = false := by cases s <;> first | exact dec_t rfl rfl | exact dec_f (by dsimp only [Stp.kind]; decide +kernel) rfl
theorem kind_store (s : Stp) : decide (s.kind = "store") = (match s with | .store _ _ => true | _ => false) := by cases s <;> first | exact dec_t rfl rfl | exact dec_f (by dsimp only [Stp.kind]; decide +kernel) rfl
theorem kind_load (s : Stp) : decide (s.kind = "load") = (match s with | .load _ _ => true | _ => false) := by cases s <;> first | exact dec_t rfl rfl | exact dec_f (by dsimp only [Stp.kind]; decide +kernel) rfl
theorem kind_copy (s : Stp) : decide (s.kind = "copy") = (match s with | .copy _ _ => true | _ => false) := by cases s <;> first | exact dec_t rfl rfl | exact dec_f (by dsimp only [Stp.kind]; decide +kernel) rfl
theorem end_ret (e : End) : decide (e.kind = "ret") = (match e with | .ret _ => true | _ => false) := by cases e <;> first | exact dec_t rfl rfl | exact dec_f (by dsimp only [End.kind]; decide +kernel) rfl
theorem end_jump (e : End) : decide (e.kind = "jump") = (match e with | .jump _ => true | _ => false) := by cases e <;> first | exact dec_t rfl rfl | exact dec_f (by dsimp only [End.kind]; decide +kernel) rfl
theorem ok_reads_of {f : Addr} {fd : FuncData} (F : Fun K "reads_of" "reads_of" sReadsOf f fd) (C : Consts K mg) : FnOk P w K mg base CX0 1 f fd ["step"] (spReadsOf K) := by
  refine F.ok scReadsOf (fun vs H Q E h => ?_) (fun cdv A outer s H vs Q E hr h => ?_)
  · obtain ⟨ds, d, ps, ⟨o, rfl, _⟩, _⟩ := h
    exact ps.length
  · obtain ⟨ds, d, ps, ⟨st, rfl, rfl⟩, q⟩ := h
    obtain ⟨v1, rfl, a1⟩ := pvs1 ps
    rw [st.d_ds] at a1
    have k0 : ∀ {H1 : Hp}, Ex H H1 → Ev (tOp (rIxT K) (tVar 0) (tC (.int 0))) (L2.start ["step", "_", "operand"] [v1]) H1 (.str st.kind) := fun e1 => ev_epS (ep_ixT (i := 0) (ep_var rfl (a1.ex e1)) ev_c st.at0)
    refine ⟨_, pss_cons (ps_if (pt_cmpR op_eq (pe_ix ix_tup (pv 0) pe_int (fun _ _ => rfl)) pe_str (nomark _)) (pss_one (ps_ret (pe_slice sl_tupA (pv 0) (po_some pe_int) po_none))) pss_nil)
      (pss_cons (ps_if (pt_cmpR op_eq (pe_ix ix_tup (pv 0) pe_int (fun _ _ => rfl)) pe_str (nomark _)) (pss_one (ps_ret (pe_ix ix_tup (pv 0) pe_int (fun _ _ => rfl)))) pss_nil)
      (pss_cons (ps_if (pt_cmpR op_eq (pe_ix ix_tup (pv 0) pe_int (fun _ _ => rfl)) (pe_glob (v := .str "phi") (by rfl) C.gP ⟨_, rfl⟩) (nomark _)) (pss_one ps_never) pss_nil)
      (pss_one (ps_ret (pe_ifExp (pt_cmpR op_eq (pe_ix ix_tup (pv 0) pe_int (fun _ _ => rfl)) pe_str (nomark _)) (pe_slice sl_tupA (pv 0) (po_some pe_int) po_none) (pe_slice sl_tupA (pv 0) (po_some pe_int) po_none)))))), ?_⟩
    refine q_when (et_test (ev_is (et_eqS (k0 (Ex.refl H)) ev_c) (congrArg V.bl (kind_op st)))) (fun e H1 e1 => ?_) (fun e H1 e1 => ?_)
    · cases st with
      | op v o a b => exact s_retP (ep_slT (k := 3) (ep_var rfl (a1.ex e1))) fun v H2 e2 p => q v H2 (e1.trans e2) p
      | copy v a => cases e
      | load v a => cases e
      | store a b => cases e
      | call v a => cases e
    refine q_when (et_test (ev_is (et_eqS (k0 e1) ev_c) (congrArg V.bl (kind_call st)))) (fun e' H2 e2 => ?_) (fun e' H2 e2 => ?_)
    · cases st with
      | call v a => exact s_retP (ep_ixT (i := 3) (ep_var rfl (a1.ex (e1.trans e2))) ev_c rfl) fun v H3 e3 p => q v H3 ((e1.trans e2).trans e3) p
      | copy v a => cases e'
      | load v a => cases e'
      | store a b => cases e'
      | op v o a b => cases e'
    refine q_when (et_test (ev_is (et_eqS (k0 (e1.trans e2)) ev_c) (congrArg V.bl (kind_phi st)))) (fun e'' H3 e3 => by cases e'') (fun e'' H3 e3 => ?_)
    have e13 := (e1.trans e2).trans e3
    refine s_retP (d := opdsD st.reads) (ep_if (et_test (ev_is (et_eqS (k0 e13) ev_c) (congrArg V.bl (kind_store st)))) (fun e4 => ?_) (fun e4 => ?_)) fun v H4 e4 p => q v H4 (e13.trans e4) p
    · cases st with
      | store a b => exact ep_slT (k := 1) (ep_var rfl (a1.ex e13))
      | copy v a => cases e4
      | load v a => cases e4
      | call v a => cases e4
      | op v o a b => cases e4
    · cases st with
      | copy v a => exact ep_slT (k := 2) (ep_var rfl (a1.ex e13))
      | load v a => exact ep_slT (k := 2) (ep_var rfl (a1.ex e13))
      | store a b => cases e4
      | call v a => cases e'
      | op v o a b => cases e
theorem goals_body {H : Hp} {Q : VK} {e : End} {v1 : V} (a1 : PV K H v1 (.tuple e.ds)) (q : ∀ v H', Ex H H' → PV K H' v (goalsD e) → Q v H') :
    tSeq (tIfS (tTest (tOp rEq (tOp (rIxT K) (tVar 0) (tC (.int 0))) (tC (.str "ret")))) (tRet (tTup tNil)) tNext) (tRet (tIf (tTest (tOp rEq (tOp (rIxT K) (tVar 0) (tC (.int 0))) (tC (.str "jump")))) (tSl (rSlA K) (tVar 0) (tPart (tC (.int 1))) tNoPart) (tSl (rSlA K) (tVar 0) (tPart (tC (.int 2))) tNoPart)))
      { nx := fun _ H' => Q .non H', rt := Q } [some v1] H := by
  have k0 : ∀ {H1 : Hp}, Ex H H1 → Ev (tOp (rIxT K) (tVar 0) (tC (.int 0))) [some v1] H1 (.str e.kind) := fun e1 => ev_epS (ep_ixT (i := 0) (ep_var rfl (a1.ex e1)) ev_c e.at0)
  refine q_when (et_test (ev_is (et_eqS (k0 (Ex.refl H)) ev_c) (congrArg V.bl (end_ret e)))) (fun h H1 e1 => ?_) (fun h H1 e1 => ?_)
  · cases e with
    | ret a => exact s_retP (K := K) (d := .tuple []) (ep_tup eps_nil (by simp)) fun v H2 e2 p => q v H2 (e1.trans e2) p
    | jump g => cases h
    | fork a g k => cases h
  · refine s_retP (d := goalsD e) (ep_if (et_test (ev_is (et_eqS (k0 e1) ev_c) (congrArg V.bl (end_jump e)))) (fun h2 => ?_) (fun h2 => ?_)) fun v H2 e2 p => q v H2 (e1.trans e2) p
    · cases e with
      | jump g => exact ep_slT (k := 1) (ep_var rfl (a1.ex e1))
      | ret a => cases h2
      | fork a g k => cases h2
    · cases e with
      | fork a g k => exact ep_slT (k := 2) (ep_var rfl (a1.ex e1))
      | ret a => cases h
      | jump g => cases h2
theorem ok_goals_of {f : Addr} {fd : FuncData} (F : Fun K "goals_of" "goals_of" sGoalsOf f fd) : FnOk P w K mg base CX0 1 f fd ["end"] (spGoalsOf K) := by
  refine F.ok scGoalsOf (fun vs H Q E h => ?_) (fun cdv A outer s H vs Q E hr h => ?_)
  · obtain ⟨ds, d, ps, ⟨o, rfl, _⟩, _⟩ := h
    exact ps.length
  · obtain ⟨ds, d, ps, ⟨e, rfl, rfl⟩, q⟩ := h
    obtain ⟨v1, rfl, a1⟩ := pvs1 ps
    rw [e.d_ds] at a1
    exact ⟨_, pss_cons (ps_if (pt_cmpR op_eq (pe_ix ix_tup (pv 0) pe_int (fun _ _ => rfl)) pe_str (nomark _)) (pss_one (ps_ret (pe_tup pa_nil))) pss_nil)
      (pss_one (ps_ret (pe_ifExp (pt_cmpR op_eq (pe_ix ix_tup (pv 0) pe_int (fun _ _ => rfl)) pe_str (nomark _)) (pe_slice sl_tupA (pv 0) (po_some pe_int) po_none) (pe_slice sl_tupA (pv 0) (po_some pe_int) po_none)))), goals_body a1 q⟩
theorem ok_reads_end {f : Addr} {fd : FuncData} (F : Fun K "reads_of_end" "reads_of_end" sReadsEnd f fd) : FnOk P w K mg base CX0 1 f fd ["end"] (spReadsEnd K) := by
  refine F.ok scReadsEnd (fun vs H Q E h => ?_) (fun cdv A outer s H vs Q E hr h => ?_)
  · obtain ⟨ds, d, ps, ⟨o, rfl, _⟩, _⟩ := h
    exact ps.length
  · obtain ⟨ds, d, ps, ⟨e, rfl, rfl⟩, q⟩ := h
    obtain ⟨v1, rfl, a1⟩ := pvs1 ps
    rw [e.d_ds] at a1
    refine ⟨_, pss_one (ps_ret (pe_ifExp (pt_cmpR op_eq (pe_ix ix_tup (pv 0) pe_int (fun _ _ => rfl)) pe_str (nomark _)) (pe_tup pa_nil) (pe_tup (pa_cons (pe_ix ix_tup (pv 0) pe_int (fun _ _ => rfl)) pa_nil)))), ?_⟩
    refine s_retP (d := opdsD e.reads) (ep_if (et_test (ev_is (et_eqS (ev_epS (ep_ixT (i := 0) (ep_var rfl a1) ev_c e.at0)) ev_c) (congrArg V.bl (end_jump e)))) (fun h2 => ?_) (fun h2 => ?_)) fun v H2 e2 p => q v H2 e2 p
    · cases e with
      | jump g => exact ep_tup eps_nil (by simp [End.reads])
      | ret a => cases h2
      | fork a g k => cases h2
    · cases e with
      | jump g => cases h2
      | ret a => exact ep_tup (eps_cons (ep_ixT (i := 1) (ep_var rfl a1) ev_c rfl) eps_nil) (by simp [End.reads])
      | fork a g k => exact ep_tup (eps_cons (ep_ixT (i := 1) (ep_var rfl a1) ev_c rfl) eps_nil) (by simp [End.reads])
end
end K36

namespace K36
open PySem PySem.Spec PyProof.Rows L2 Evl Pd Gd
abbrev sRInit : Stmt := inClass (topS 11) 0
abbrev sRTerm : Stmt := inClass (topS 11) 1
abbrev sRRead : Stmt := inClass (topS 11) 2
theorem scRInit : FnScope ["self"] ["self"] (defScope sRInit) := ⟨rfl, rfl, rfl, by decide +kernel, rfl, by decide +kernel, by decide +kernel⟩
theorem scRTerm : FnScope ["self", "operand"] ["self", "operand"] (defScope sRTerm) := ⟨rfl, rfl, rfl, by decide +kernel, rfl, by decide +kernel, by decide +kernel⟩
theorem scRRead : FnScope ["self", "step", "kind", "own", "one", "other"] ["self", "step"] (defScope sRRead) := ⟨rfl, rfl, rfl, by decide +kernel, rfl, by decide +kernel, by decide +kernel⟩
/-! ### the terms that stand in a dict -/
def kdOf (m : TMap) : KD := m.map fun q => ((Sum.inr q.1.s : Key), q.2.d)
theorem key_s {a b : Nm} : ((Sum.inr a.s : Key) = Sum.inr b.s) ↔ a = b := ⟨fun h => Nm.s_inj (Sum.inr.inj h), fun h => by rw [h]⟩
theorem valD_kd (n : Nm) : ∀ m : TMap, valD (kdOf m) (Sum.inr n.s) = (tget m n).map Tm.d
  | [] => rfl
  | p :: m => by
    show valD ((Sum.inr p.1.s, p.2.d) :: kdOf m) _ = _
    rw [valD_cons, tget_cons, valD_kd n m]
    by_cases h : p.1 = n
    · rw [if_pos (key_s.mpr h), if_pos h]
      rfl
    · rw [if_neg (fun z => h (key_s.mp z)), if_neg h]
theorem any_kd (n : Nm) (m : TMap) : ((kdOf m).any fun p => decide (p.1 = (Sum.inr n.s : Key))) = m.any fun p => decide (p.1 = n) := by
  unfold kdOf
  rw [List.any_map]
  congr 1
  funext p
  exact decide_eq_decide.mpr key_s
theorem putD_kd (m : TMap) (n : Nm) (t : Tm) : putD (kdOf m) (Sum.inr n.s) t.d = kdOf (tput m n t) := by
  unfold putD tput
  rw [any_kd]
  by_cases h : (m.any fun p => decide (p.1 = n)) = true
  · rw [if_pos h, if_pos h]
    unfold kdOf
    rw [List.map_map, List.map_map]
    refine List.map_congr_left fun p _ => ?_
    show (if (Sum.inr p.1.s : Key) = Sum.inr n.s then _ else _) = _
    by_cases e : p.1 = n
    · rw [if_pos (key_s.mpr e)]
      show _ = ((fun q : Nm × Tm => ((Sum.inr q.1.s : Key), q.2.d)) (if p.1 = n then (p.1, t) else p))
      rw [if_pos e]
    · rw [if_neg (fun z => e (key_s.mp z))]
      show _ = ((fun q : Nm × Tm => ((Sum.inr q.1.s : Key), q.2.d)) (if p.1 = n then (p.1, t) else p))
      rw [if_neg e]
  · rw [if_neg h, if_neg h]
    unfold kdOf
    rw [List.map_append]
    rfl
theorem tput_len (m : TMap) (n : Nm) (t : Tm) : (tput m n t).length ≤ m.length + 1 := by
  unfold tput
  split
  · simp
  · simp
/-! ### how large terms are -/
structure RFit (k : Nat) (r : RS) : Prop where
  na : r.acts.length ≤ k
  nt : r.terms.length ≤ k
  tm : ∀ n t, tget r.terms n = some t → t.upTo r.acts.length ∧ t.ht ≤ k + 1 ∧ t.sz + 1 ≤ 2 ^ (k + 1)
  ac : ∀ a ∈ r.acts, match a with
    | .store x y => (x.upTo r.acts.length ∧ x.ht ≤ k + 1 ∧ x.sz + 1 ≤ 2 ^ (k + 1)) ∧ y.upTo r.acts.length ∧ y.ht ≤ k + 1 ∧ y.sz + 1 ≤ 2 ^ (k + 1)
    | .call x => x.upTo r.acts.length ∧ x.ht ≤ k + 1 ∧ x.sz + 1 ≤ 2 ^ (k + 1)
def Tm.within (n k : Nat) (t : Tm) : Prop := t.upTo n ∧ t.ht ≤ k + 1 ∧ t.sz + 1 ≤ 2 ^ (k + 1)
theorem pow_up (k : Nat) : 2 ^ (k + 2) = 2 * 2 ^ (k + 1) := by rw [Nat.pow_succ, Nat.mul_comm]
theorem Tm.within.mono {n m k j : Nat} {t : Tm} (h : t.within n k) (h1 : n ≤ m) (h2 : k ≤ j) : t.within m j :=
  ⟨h.1.mono h1, by have := h.2.1; omega, Nat.le_trans h.2.2 (Nat.pow_le_pow_right (by decide) (by omega))⟩
theorem RFit.opd {k : Nat} {r : RS} (h : RFit k r) (o : Opd) : (tOf r.terms o).within r.acts.length k := by
  have p1 : 2 ≤ 2 ^ (k + 1) := by
    have := pow_pos2 k
    rw [Nat.pow_succ]
    omega
  cases o with
  | num i => exact ⟨trivial, by show 0 ≤ _; omega, p1⟩
  | nm n =>
    show ((tget r.terms n).getD (.inp n)).within _ _
    cases e : tget r.terms n with
    | none => exact ⟨trivial, by show 1 ≤ _; omega, p1⟩
    | some t => exact h.tm n t e
theorem RFit.fit {k : Nat} {r : RS} (h : RFit k r) (hk : k ≤ 9) {t : Tm} (w : t.within r.acts.length k) : t.fit := by
  have := h.na
  refine ⟨w.1.mono (by omega), by have := w.2.1; omega, ?_⟩
  have h1 : 2 ^ (k + 1) ≤ 2 ^ 10 := Nat.pow_le_pow_right (by decide) (by omega)
  have h2 := w.2.2
  have h3 : (2 : Nat) ^ 10 = 1024 := by decide
  omega
theorem fit_put {k : Nat} {r : RS} (h : RFit k r) (v : Nm) (t : Tm) (acts : List Act) (hl : r.acts.length ≤ acts.length) (hm : acts.length ≤ k + 1) (ht : t.within acts.length (k + 1))
    (ha : ∀ a ∈ acts, match a with
      | .store x y => x.within acts.length (k + 1) ∧ y.within acts.length (k + 1)
      | .call x => x.within acts.length (k + 1)) : RFit (k + 1) ⟨tput r.terms v t, acts⟩ where
  na := hm
  nt := by have := tput_len r.terms v t; have := h.nt; show (tput r.terms v t).length ≤ k + 1; omega
  tm := fun n u e => by
    have e : tget (tput r.terms v t) n = some u := e
    rw [tget_put] at e
    by_cases hn : n = v
    · rw [if_pos hn] at e
      cases e
      exact ht
    · rw [if_neg hn] at e
      exact Tm.within.mono (h.tm n u e) hl (by omega)
  ac := fun a hh => by
    have := ha a hh
    cases a with
    | store x y => exact ⟨this.1, this.2⟩
    | call x => exact this
theorem RFit.acts {k : Nat} {r : RS} (h : RFit k r) {n j : Nat} (h1 : r.acts.length ≤ n) (h2 : k ≤ j) : ∀ a ∈ r.acts, match a with
      | .store x y => x.within n j ∧ y.within n j
      | .call x => x.within n j := fun a hh => by
  have := h.ac a hh
  cases a with
  | store x y => exact ⟨Tm.within.mono this.1 h1 h2, Tm.within.mono this.2 h1 h2⟩
  | call x => exact Tm.within.mono this h1 h2
theorem rfit_step {lt : Tm → Tm → Bool} {k : Nat} {r : RS} (h : RFit k r) (s : Stp) : RFit (k + 1) (rstep lt r s) := by
  have na := h.na
  have up := pow_up k
  cases s with
  | op v o a b =>
    have A := h.opd a
    have B := h.opd b
    have x1 := A.2.1
    have x2 := A.2.2
    have y1 := B.2.1
    have y2 := B.2.2
    dsimp only [rstep]
    split
    · exact fit_put h v _ r.acts (Nat.le_refl _) (by omega) ⟨⟨B.1, A.1⟩, by show max _ _ + 1 ≤ _; omega, by show _ + _ + 1 + 1 ≤ 2 ^ (k + 2); omega⟩ (h.acts (Nat.le_refl _) (by omega))
    · exact fit_put h v _ r.acts (Nat.le_refl _) (by omega) ⟨⟨A.1, B.1⟩, by show max _ _ + 1 ≤ _; omega, by show _ + _ + 1 + 1 ≤ 2 ^ (k + 2); omega⟩ (h.acts (Nat.le_refl _) (by omega))
  | copy v a => exact fit_put h v _ r.acts (Nat.le_refl _) (by omega) ((h.opd a).mono (Nat.le_refl _) (by omega)) (h.acts (Nat.le_refl _) (by omega))
  | load v a =>
    have A := h.opd a
    have x1 := A.2.1
    have x2 := A.2.2
    exact fit_put h v _ r.acts (Nat.le_refl _) (by omega) ⟨⟨A.1, Nat.le_refl _⟩, by show _ + 1 ≤ _; omega, by show _ + 1 + 1 ≤ 2 ^ (k + 2); omega⟩ (h.acts (Nat.le_refl _) (by omega))
  | store a b =>
    have A := h.opd a
    have B := h.opd b
    dsimp only [rstep]
    refine ⟨by show (r.acts ++ _).length ≤ _; rw [List.length_append, List.length_singleton]; omega, by have := h.nt; show r.terms.length ≤ _; omega, fun n t e => Tm.within.mono (h.tm n t e) (by show _ ≤ (r.acts ++ _).length; rw [List.length_append]; omega) (by omega), fun a' ha' => ?_⟩
    rcases List.mem_append.mp ha' with z | z
    · have := h.acts (n := (r.acts ++ [Act.store (tOf r.terms a) (tOf r.terms b)]).length) (j := k + 1) (by rw [List.length_append]; omega) (by omega) a' z
      cases a' with
      | store x y => exact ⟨this.1, this.2⟩
      | call x => exact this
    · rw [List.mem_singleton.mp z]
      exact ⟨A.mono (by rw [List.length_append]; omega) (by omega), B.mono (by rw [List.length_append]; omega) (by omega)⟩
  | call v a =>
    have A := h.opd a
    have p1 : 2 ≤ 2 ^ (k + 1 + 1) := by
      have := pow_pos2 (k + 1)
      rw [Nat.pow_succ]
      omega
    dsimp only [rstep]
    refine fit_put h v (.call r.acts.length) (r.acts ++ [Act.call (tOf r.terms a)]) (by rw [List.length_append]; omega) (by rw [List.length_append, List.length_singleton]; omega) ⟨by show r.acts.length < _; rw [List.length_append, List.length_singleton]; omega, by show 1 ≤ _; omega, p1⟩ fun a' ha' => ?_
    rcases List.mem_append.mp ha' with z | z
    · exact h.acts (by rw [List.length_append]; omega) (by omega) a' z
    · rw [List.mem_singleton.mp z]
      exact A.mono (by rw [List.length_append]; omega) (by omega)
theorem rfit0 : RFit 0 .empty := ⟨Nat.le_refl _, Nat.le_refl _, (fun n t e => by cases e), (fun a h => by cases h)⟩
theorem rfit_all {lt : Tm → Tm → Bool} : ∀ (steps : List Stp) {k : Nat} {r : RS}, RFit k r → RFit (k + steps.length) (readAll lt r steps)
  | [], _, _, h => h
  | s :: rest, k, r, h => by
    have := rfit_all (lt := lt) rest (rfit_step (lt := lt) h s)
    rw [List.length_cons, show k + (rest.length + 1) = k + 1 + rest.length by omega]
    exact this
/-! ### texts and numbers told apart -/
section
variable {K : PySem.W.Frag} {H : Hp} {σ : L2.St}
theorem isStr {v : V} {o : Opd} (h : PV K H v o.d) : ∃ t, TyX K H v t ∧ PySem.W.kitOne K t (.type "str") = some (isNm o) := by
  cases o with
  | nm n =>
    cases pv_str h
    exact ⟨_, .base (.str _), kit_ty (show kitB "str" "str" = some true by decide +kernel)⟩
  | num i =>
    cases pv_int h
    exact ⟨_, .base (.int _), kit_ty (show kitB "int" "str" = some false by decide +kernel)⟩
theorem ev_isS {o : Opd} {ta tb : TE} (h : EvP K ta σ H o.d) (hb : Ev tb σ H (.ty "str")) : Ev (tCB (rIsi K) (tCons ta (tCons tb tNil))) σ H (.bl (isNm o)) := fun H1 e Q q =>
  h H1 e _ fun u H2 e2 pu => hb H2 (e.trans e2) _ fun H3 e3 => by
    obtain ⟨t, ty, kk⟩ := isStr (pu.ex e3)
    exact ⟨u, .ty "str", t, .type "str", _, rfl, .ty _, ty, kk, q H3 (e2.trans e3)⟩
end
section
variable {P : Program} {w : World} {K : PySem.W.Frag} {mg : Str → Option Value} {base : Heap}
theorem ok_is_value {f : Addr} {fd : FuncData} (F : Fun K "is_value" "is_value" sIsValue f fd) (ms : mg "isinstance" = none) (mt : mg "str" = none) : FnOk P w K mg base CX0 1 f fd ["operand"] (spIsValue K) := by
  refine F.ok scIsValue (fun vs H Q E h => ?_) (fun cdv A outer s H vs Q E hr h => ?_)
  · obtain ⟨ds, d, ps, ⟨o, rfl, _⟩, _⟩ := h
    exact ps.length
  · obtain ⟨ds, d, ps, ⟨o, rfl, rfl⟩, q⟩ := h
    obtain ⟨v1, rfl, a1⟩ := pvs1 ps
    refine ⟨_, pss_one (ps_ret (pe_callB call_isi (by rfl) ms (by decide +kernel) (pa_cons (pv 0) (pa_cons (pe_bltn (v := .ty "str") (u := .type "str") (by rfl) mt (by decide +kernel) rfl) pa_nil)))), ?_⟩
    exact s_ret (ev_isS (ep_var rfl a1) ev_c) fun H1 e1 => q _ H1 e1 (.bl _)
end
end K36

namespace K36
open PySem PySem.Spec PyProof.Rows L2 Evl Pd Gd
theorem lk_ne {f g : Str} {v : V} {r : List (Str × V)} (h : ¬ f = g) : ((g, v) :: r).lookup f = r.lookup f := by
  rw [List.lookup_cons]
  have : (f == g) = false := beq_eq_false_iff_ne.mpr h
  rw [this]
theorem lk_eq {f : Str} {v : V} {r : List (Str × V)} : ((f, v) :: r).lookup f = some v := by
  rw [List.lookup_cons]
  simp
def rfl2 (td ta : Addr) : List (Str × V) := [("terms", .ref td), ("acts", .ref ta)]
theorem rf_terms (td ta : Addr) : (rfl2 td ta).lookup ("terms" : Str) = some (V.ref td) := lk_eq
theorem rf_acts (td ta : Addr) : (rfl2 td ta).lookup ("acts" : Str) = some (V.ref ta) := by
  unfold rfl2
  rw [lk_ne (by decide +kernel)]
  exact lk_eq
theorem rf_no (td ta : Addr) {m : Str} (h1 : ¬ m = "terms") (h2 : ¬ m = "acts") : (rfl2 td ta).lookup m = none := by
  unfold rfl2
  rw [lk_ne h1, lk_ne h2]
  rfl
/-- a Reader at p that has read r -/
structure ReaderAt (K : PySem.W.Frag) (C : Addr) (H : Hp) (p dx td ta : Addr) (r : RS) : Prop where
  ob : H p = some (.ins C dx (rfl2 td ta))
  te : DAt K H td (kdOf r.terms)
  ac : ∃ as, H ta = some (.lst as) ∧ PVs K H as (r.acts.map Act.d)
theorem ReaderAt.ex {K : PySem.W.Frag} {C : Addr} {H H' : Hp} {p dx td ta : Addr} {r : RS} (R : ReaderAt K C H p dx td ta r) (e : Ex H H') : ReaderAt K C H' p dx td ta r :=
  ⟨e _ _ R.ob, R.te.ex e, let ⟨as, h1, h2⟩ := R.ac; ⟨as, e _ _ h1, h2.ex e⟩⟩
/-- what is asked of the class -/
structure RCl (K : PySem.W.Frag) (mg : Str → Option Value) (C : Addr) : Prop where
  cl : Cls K C
  nT : NoAttr K C "terms"
  nA : NoAttr K C "acts"
  mgC : mg "Reader" = some (.ref C)
def spRInit (K : PySem.W.Frag) (C : Addr) : Sp := fun vs H Q _ => ∃ (p dx : Addr), vs = [.ref p] ∧ H p = some (.ins C dx []) ∧ ∀ td ta H', H td = none → H ta = none → ReaderAt K C H' p dx td ta .empty → (∀ b o, H b = some o → b ≠ p → H' b = some o) → Q .non H'
def spRTerm (K : PySem.W.Frag) (C : Addr) : Sp := fun vs H Q _ => ∃ (p dx td ta : Addr) (r : RS) (o : Opd) (v : V), vs = [.ref p, v] ∧ ReaderAt K C H p dx td ta r ∧ PV K H v o.d ∧ ∀ u H', Ex H H' → PV K H' u (tOf r.terms o).d → Q u H'
section
variable {K : PySem.W.Frag} {H : Hp} {σ : L2.St} {D : Ends} {tz : TS}
theorem ev_fld {ta : TE} {p C dx : Addr} {fs : List (Str × V)} {f : Str} {v : V} (h : Ev ta σ H (.ref p)) (ho : H p = some (.ins C dx fs)) (c : Cls K C) (n : NoAttr K C f) (hl : fs.lookup f = some v) : Ev (tFld K ta f) σ H v := fun H1 e Q q =>
  h H1 e _ fun H2 e2 => ⟨p, C, dx, fs, v, rfl, e2 _ _ (e _ _ ho), c, n, hl, q H2 e2⟩
/-- d.get(k, x) -/
theorem ep_dget2 {ta ty tx : TE} {a : Addr} {kd : KD} {s : Str} {dz : PyData} (h : Ev ta σ H (.ref a)) (hD : DAt K H a kd) (hy : Ev ty σ H (.str s)) (hz : EvP K tx σ H dz) : EvP K (tDGet2 ta ty tx) σ H ((valD kd (Sum.inr s)).getD dz) := fun H1 e Q q =>
  h H1 e _ fun H2 e2 => by
    obtain ⟨ks, hk, pk⟩ := hD
    refine ⟨a, rfl, .inl ⟨ks, .inl (e2 _ _ (e _ _ hk))⟩, hy H2 (e.trans e2) _ fun H3 e3 => hz H3 ((e.trans e2).trans e3) _ fun v H4 e4 pz => ?_⟩
    have e14 := (e2.trans e3).trans e4
    refine ⟨_, DGet.k (k := (Sum.inr s : Key)) (e14 _ _ (e _ _ hk)), ?_⟩
    rcases pk.val (Sum.inr s) with ⟨n1, n2⟩ | ⟨u, d, n1, n2, pu⟩
    · rw [n1]
      exact q v H4 e14 (by rw [n2]; exact pz)
    · rw [n1]
      exact q u H4 e14 (by rw [n2]; exact pu.ex (e.trans e14))
/-- d[k] = x -/
theorem s_dputP {ta ty tv : TE} {a : Addr} {ks : List (Key × V)} {s : Str} {d : PyData} (hv : EvP K tv σ H d) (h : ∀ H1, Ex H H1 → Ev ta σ H1 (.ref a)) (hk : H a = some (.dK ks)) (hy : ∀ H1, Ex H H1 → Ev ty σ H1 (.str s)) (hl : ks.length < 100000)
    (k : ∀ v H1, Ex H H1 → PV K H1 v d → D.nx σ (upd H1 a (.dK (putK ks (Sum.inr s) v)))) : sDPut ta ty tv D σ H :=
  hv H (Ex.refl H) _ fun v H1 e1 p => h H1 e1 H1 (Ex.refl H1) _ fun H2 e2 => hy H2 (e1.trans e2) H2 (Ex.refl H2) _ fun H3 e3 =>
    ⟨a, _, rfl, DPut.k (k := (Sum.inr s : Key)) ((e1.trans (e2.trans e3)) _ _ hk) (sz_lt hl), k v H3 ((e1.trans e2).trans e3) (p.ex (e2.trans e3))⟩
/-- xs.append(plain data), xs of a field -/
theorem s_appF {l : Addr} {xs : List V} {ta te : TE} {d : PyData} (hl : H l = some (.lst xs)) (ha : Ev ta σ H (.ref l)) (h : EvP K te σ H d) (hz : xs.length < 100000) (k : ∀ v H1, Ex H H1 → PV K H1 v d → D.nx σ (upd H1 l (.lst (xs ++ [v])))) :
    tDrop (tBM K "list" rAppend ta (tCons te tNil)) D σ H := ha H (Ex.refl H) _ fun H1 e1 =>
  ⟨Or.inl ⟨rfl, xs, SqL.of (e1 l _ hl)⟩, h H1 e1 _ fun v H2 e2 p => ⟨l, xs, v, rfl, rfl, e2 l _ (e1 l _ hl), sz_lt hz, k v H2 (e1.trans e2) p⟩⟩
/-- self.m(x), pure data -/
theorem ep_term {C p dx td ta0 : Addr} {r : RS} {o : Opd} {E : XK} {tp te : TE} (h : Ev tp σ H (.ref p)) (R : ReaderAt K C H p dx td ta0 r) (hx : EvP K te σ H o.d) : EvP K (tMeth C "term" (spRTerm K C) [] E tp (tCons te tNil)) σ H (tOf r.terms o).d := fun H1 e Q q =>
  h H1 e _ fun H2 e2 => ⟨p, dx, _, rfl, e2 _ _ (e _ _ R.ob), rf_no _ _ (by decide +kernel) (by decide +kernel), hx H2 (e.trans e2) _ fun v H3 e3 pv => ⟨p, dx, td, ta0, r, o, v, rfl, R.ex ((e.trans e2).trans e3), pv, fun u H4 e4 pu => q u H4 ((e2.trans e3).trans e4) pu⟩⟩
end
theorem Tx.updD {H : Hp} {p : Addr} {o : HO} {ks : List (Key × V)} (h : H p = some (.dK ks)) : Tx H (upd H p o) := Tx.upd fun xs e => by
  rw [h] at e
  cases e
section
variable {P : Program} {w : World} {K : PySem.W.Frag} {mg : Str → Option Value} {base : Heap}
theorem ok_rterm {f C : Addr} {fd : FuncData} (F : Fun K "term" "Reader.term" sRTerm f fd) (T : RCl K mg C) (ms : mg "isinstance" = none) (mt : mg "str" = none) : FnOk P w K mg base CX0 1 f fd ["self", "operand"] (spRTerm K C) := by
  refine F.ok scRTerm (fun vs H Q E h => ?_) (fun cdv A outer s H vs Q E hr h => ?_)
  · obtain ⟨p, dx, td, ta, r, o, v, rfl, _⟩ := h
    rfl
  · obtain ⟨p, dx, td, ta, r, o, v, rfl, R, pv1, q⟩ := h
    have hu := hu_of hr
    refine ⟨_, pss_cons (ps_if (pt_not (pt_val (pe_callB call_isi (by rfl) ms (by decide +kernel) (pa_cons (pv 1) (pa_cons (pe_bltn (v := .ty "str") (u := .type "str") (by rfl) mt (by decide +kernel) rfl) pa_nil))))) (pss_one (ps_ret (pv 1))) pss_nil)
      (pss_one (ps_ret (pe_dget2 hu (pe_fld (pv 0) rfl) (pv 1) (pe_tup (pa_cons pe_str (pa_cons (pv 1) pa_nil))) ⟨by rfl, by rfl, by rfl, by rfl⟩))), ?_⟩
    refine q_when (et_not (et_B (ev_isS (ep_var rfl pv1) ev_c))) (fun e H1 e1 => ?_) (fun e H1 e1 => ?_)
    · cases o with
      | nm n => cases e
      | num i => exact s_retP (ep_var rfl (pv1.ex e1)) fun u H2 e2 pu => q u H2 (e1.trans e2) pu
    · cases o with
      | num i => cases e
      | nm n =>
        cases pv_str pv1
        have R1 := R.ex e1
        have h := ep_dget2 (K := K) (σ := [some (.ref p), some (.str n.s)]) (ta := tFld K (tVar 0) "terms") (ty := tVar 1) (tx := tTup (tCons (tC (.str "in")) (tCons (tVar 1) tNil))) (s := n.s) (dz := (Tm.inp n).d) (ev_fld (ev_var rfl) R1.ob T.cl T.nT (rf_terms _ _)) R1.te (ev_var rfl) (ep_tup (eps_cons ep_str (eps_cons (ep_ev (ev_var rfl) (.str _)) eps_nil)) (by simp))
        have e3 : (valD (kdOf r.terms) (Sum.inr n.s)).getD (Tm.inp n).d = (tOf r.terms (.nm n)).d := by
          rw [valD_kd]
          show _ = ((tget r.terms n).getD (.inp n)).d
          cases tget r.terms n <;> rfl
        rw [e3] at h
        exact s_retP h fun u H2 e2 pu => q u H2 (e1.trans e2) pu
theorem ok_rinit {f C : Addr} {fd : FuncData} (F : Fun K "__init__" "Reader.__init__" sRInit f fd) (T : RCl K mg C) : FnOk P w K mg base CX0 1 f fd ["self"] (spRInit K C) := by
  refine F.ok scRInit (fun vs H Q E h => ?_) (fun cdv A outer s H vs Q E hr h => ?_)
  · obtain ⟨p, dx, rfl, _⟩ := h
    rfl
  · obtain ⟨p, dx, rfl, ho, q⟩ := h
    refine ⟨_, pss_cons (ps_fld (pv 0) pe_dnewK rfl) (pss_one (ps_fld (pv 0) (pe_lst pa_nil) rfl)), ?_⟩
    intro td hd
    have npd : p ≠ td := ne_of_none ho hd
    refine ⟨_, rfl, p, C, dx, [], rfl, (by rw [upd_ne npd]; exact ho), T.cl, T.nT, (by show 0 < 1000; decide), ?_⟩
    refine ⟨sz_of (by simp), fun ta hta => ?_⟩
    have hp2 : ∀ {G : Hp} {o : HO}, upd G p o p = some o := upd_same
    have npa : p ≠ ta := fun z => by rw [← z, upd_same] at hta; cases hta
    have nda : td ≠ ta := fun z => by rw [← z, upd_ne (Ne.symm npd), upd_same] at hta; cases hta
    have hta0 : H ta = none := by rw [upd_ne (Ne.symm npa), upd_ne (Ne.symm nda)] at hta; exact hta
    refine ⟨_, rfl, p, C, dx, _, rfl, (by rw [upd_ne npa]; exact upd_same), T.cl, T.nA, (by show 1 < 1000; decide), ?_⟩
    refine q td ta _ hd hta0 ⟨?_, ⟨[], ?_, trivial⟩, [], ?_, .nil⟩ fun b o hb hbp => ?_
    · rw [upd_same]
      refine congrArg (fun l => some (HO.ins C dx l)) ?_
      show (if ("terms" : Str) = "acts" then _ else (("terms" : Str), V.ref td) :: putF "acts" (V.ref ta) []) = _
      rw [if_neg (by decide +kernel)]
      rfl
    · rw [upd_ne (Ne.symm npd), upd_ne nda, upd_ne (Ne.symm npd), upd_same]
    · rw [upd_ne (Ne.symm npa), upd_same]
    · rw [upd_ne hbp, upd_ne (ne_of_none hb hta0), upd_ne hbp, upd_ne (ne_of_none hb hd)]
      exact hb
end
end K36

namespace K36
open PySem PySem.Spec PyProof.Rows L2 Evl Pd Gd
/-- all but two things stay -/
def Exl2 (c d : Addr) (H H' : Hp) : Prop := ∀ a o, H a = some o → a ≠ c → a ≠ d → H' a = some o
theorem Exl2.trans {c d : Addr} {H H1 H2 : Hp} (a : Exl2 c d H H1) (b : Exl2 c d H1 H2) : Exl2 c d H H2 := fun x o h n m => b x o (a x o h n m) n m
theorem exl2_of {c d : Addr} {H H' : Hp} (e : Ex H H') : Exl2 c d H H' := fun a o h _ _ => e a o h
theorem Exl2.one {c d : Addr} {H : Hp} {o : HO} : Exl2 c d H (upd H c o) := fun a u h n _ => by rw [upd_ne n]; exact h
theorem Exl2.two {c d : Addr} {H : Hp} {o : HO} : Exl2 c d H (upd H d o) := fun a u h _ n => by rw [upd_ne n]; exact h
theorem room100 {k : Nat} {A : Around} (hr : Room k A) : A.units + 100 < cLine := by have := hr.un; omega
theorem ReaderAt.ne {K : PySem.W.Frag} {C : Addr} {H : Hp} {p dx td ta : Addr} {r : RS} (R : ReaderAt K C H p dx td ta r) : p ≠ td ∧ p ≠ ta ∧ td ≠ ta := by
  obtain ⟨ks, h1, _⟩ := R.te
  obtain ⟨as, h2, _⟩ := R.ac
  have h0 := R.ob
  refine ⟨fun z => ?_, fun z => ?_, fun z => ?_⟩
  · rw [z, h1] at h0
    cases h0
  · rw [z, h2] at h0
    cases h0
  · rw [z, h2] at h1
    cases h1
theorem act_put {K : PySem.W.Frag} {C : Addr} {H : Hp} {p dx td ta : Addr} {r : RS} (R : ReaderAt K C H p dx td ta r) {as : List V} (h : H ta = some (.lst as)) (pa : PVs K H as (r.acts.map Act.d)) {v : V} {a : Act} (p1 : PV K H v a.d) :
    ReaderAt K C (upd H ta (.lst (as ++ [v]))) p dx td ta ⟨r.terms, r.acts ++ [a]⟩ := by
  obtain ⟨n1, n2, n3⟩ := R.ne
  have tx : Tx H (upd H ta (.lst (as ++ [v]))) := Tx.updL h
  obtain ⟨ks, h1, h2⟩ := R.te
  refine ⟨by rw [upd_ne n2]; exact R.ob, ⟨ks, by rw [upd_ne n3]; exact h1, h2.tx tx⟩, as ++ [v], upd_same, ?_⟩
  show PVs K _ _ ((r.acts ++ [a]).map Act.d)
  rw [List.map_append]
  exact (pa.append (PVs.one p1)).tx tx
theorem term_put {K : PySem.W.Frag} {C : Addr} {H : Hp} {p dx td ta : Addr} {r : RS} (R : ReaderAt K C H p dx td ta r) {ks : List (Key × V)} (h : H td = some (.dK ks)) (pk : KDat K H ks (kdOf r.terms)) {v : V} {n : Nm} {t : Tm} (p1 : PV K H v t.d) :
    ReaderAt K C (upd H td (.dK (putK ks (Sum.inr n.s) v))) p dx td ta ⟨tput r.terms n t, r.acts⟩ := by
  obtain ⟨n1, n2, n3⟩ := R.ne
  have tx : Tx H (upd H td (.dK (putK ks (Sum.inr n.s) v))) := Tx.updD h
  obtain ⟨as, h1, h2⟩ := R.ac
  refine ⟨by rw [upd_ne n1]; exact R.ob, ⟨_, upd_same, ?_⟩, as, by rw [upd_ne (Ne.symm n3)]; exact h1, h2.tx tx⟩
  rw [← putD_kd]
  exact (pk.put _ p1).tx tx
section
variable {K : PySem.W.Frag} {H : Hp} {σ : L2.St}
theorem ev_strG {te : TE} {t : Tm} (h : EvP K te σ H t.d) (hf : t.fit) : Ev (tCB (rStrG K) (tCons te tNil)) σ H (.str t.d.shown) := fun H1 e Q q =>
  h H1 e _ fun v H2 e2 p => ⟨v, t.d, rfl, p, (by cases t <;> first | exact .inl ⟨_, rfl⟩ | exact .inr ⟨_, rfl⟩), tmD_showable t hf.up, tmD_noDict t, (by rw [tmD_depth]; have := hf.ht; omega), hf.shown, q H2 e2⟩
theorem ev_ltS {ta tb : TE} {i j : Str} (h : Ev ta σ H (.str i)) (h2 : Ev tb σ H (.str j)) : Ev (tOp (fun x y H Q => ∃ i j, x = .str i ∧ y = .str j ∧ Q (.bl (decide (i.cps.toList < j.cps.toList))) H) ta tb) σ H (.bl (decide (i.cps.toList < j.cps.toList))) := fun H1 e Q q =>
  h H1 e _ fun H2 e2 => h2 H2 (e.trans e2) _ fun H3 e3 => ⟨i, j, rfl, rfl, q H3 (e2.trans e3)⟩
end
def spRRead (K : PySem.W.Frag) (C : Addr) : Sp := fun vs H Q _ => ∃ (p dx td ta : Addr) (r : RS) (s : Stp) (v : V), vs = [.ref p, v] ∧ ReaderAt K C H p dx td ta r ∧ PV K H v s.d ∧ RFit 8 r ∧
  ∀ H', ReaderAt K C H' p dx td ta (rstep ltT r s) → Exl2 td ta H H' → Tx H H' → Q .non H'
theorem q_appF {K : PySem.W.Frag} {H : Hp} {σ : L2.St} {tz : L2.TS} {D : Ends} {l : Addr} {xs : List V} {ta te : TE} {d : PyData} (hl : H l = some (.lst xs)) (ha : Ev ta σ H (.ref l)) (h : EvP K te σ H d) (hz : xs.length < 100000) (k : ∀ v H1, Ex H H1 → PV K H1 v d → tz D σ (upd H1 l (.lst (xs ++ [v])))) :
    tSeq (tDrop (tBM K "list" rAppend ta (tCons te tNil))) tz D σ H := s_appF (D := { D with nx := tz D }) hl ha h hz k
theorem q_par {K : PySem.W.Frag} {H : Hp} {σ : L2.St} {tz : L2.TS} {D : Ends} {i j : Nat} {ta : TA} {d e : PyData} (h : EvPs K ta σ H [d, e]) (k : ∀ v w H1, Ex H H1 → PV K H1 v d → PV K H1 w e → tz D ((σ.set i (some v)).set j (some w)) H1) : tSeq (tPar i j ta) tz D σ H :=
  h H (Ex.refl H) _ fun vs H1 e1 ps => by
    obtain ⟨v1, v2, rfl, a, b⟩ := pvs2 ps
    exact ⟨_, _, rfl, k _ _ H1 e1 a b⟩
section
variable {P : Program} {w : World} {K : PySem.W.Frag} {mg : Str → Option Value} {base : Heap}
theorem ok_rread {f C fT fC : Addr} {fd fdT fdC : FuncData} (F : Fun K "read" "Reader.read" sRRead f fd) (T : RCl K mg C) (MT : Meth K C "term" fT) (GT : FnOk P w K mg base CX0 1 fT fdT ["self", "operand"] (spRTerm K C)) (bT : Binds K fdT ["self", "operand"] [])
    (GC : FnOk P w K mg base CX0 1 fC fdC ["op"] (spCommutes K)) (kC : PySem.W.keepIn K (.ref fC) = true) (bC : Binds K fdC ["op"] []) (gC : mg "commutes" = some (.ref fC)) (mt : mg "tuple" = none) (ml : mg "len" = none) (mstr : mg "str" = none) : FnG P w K mg base 2 f fd ["self", "step"] (spRRead K C) := by
  refine ofBody F scRRead (fun vs H Q E h => ?_) (fun cdv A outer s H vs Q E hr hG h => ?_)
  · obtain ⟨p, dx, td, ta, r, st, v, rfl, _⟩ := h
    rfl
  · obtain ⟨p, dx, td, ta, r, st, vv, rfl, R, pv1, fit, q⟩ := h
    have hu := hu_of hr
    rw [st.d_ds] at pv1
    refine ⟨_, pss_cons (ps_set (i := 2) scRRead.nd rfl (.inl rfl) (pe_ix ix_tup (pv 1) pe_int (fun _ _ => rfl)))
      (pss_one (ps_if (pt_cmpR op_eq (pv 2) pe_str (nomark _))
        (pss_one (ps_expr (pe_bm PySem.F.plainAttrs_list PySem.F.slot_list_append PySem.F.type_list_append mt_append (pe_fld (pv 0) rfl) (pa_cons (pe_tup (pa_cons (pv 2) (pa_cons (pe_meth (pv 0) T.cl MT GT hr bT .nil pass0 (pa_cons (pe_ix ix_tup (pv 1) pe_int (fun _ _ => rfl)) pa_nil)) (pa_cons (pe_meth (pv 0) T.cl MT GT hr bT .nil pass0 (pa_cons (pe_ix ix_tup (pv 1) pe_int (fun _ _ => rfl)) pa_nil)) pa_nil)))) pa_nil))))
        (pss_one (ps_if (pt_cmpR op_eq (pv 2) pe_str (nomark _))
          (pss_cons (ps_expr (pe_bm PySem.F.plainAttrs_list PySem.F.slot_list_append PySem.F.type_list_append mt_append (pe_fld (pv 0) rfl) (pa_cons (pe_tup (pa_cons (pv 2) (pa_cons (pe_ix ix_tup (pv 1) pe_int (fun _ _ => rfl)) (pa_cons (pe_tupleOf (by rfl) mt (pe_lc (own := [("own", 3)]) (g := gName 3) (tt := tYes) (te := tMeth C "term" (spRTerm K C) [] E0 (tVar 0) (tCons (tVar 3) tNil)) rfl scRRead.nd (pi_tup (pe_ix ix_tup (pv 1) pe_int (fun _ _ => rfl))) (blkOk_by (N := ["self", "step", "kind", "own", "one", "other"]) (sc := defScope sRRead) (by decide +kernel))
              (fun _ _ _ _ _ => pg_name (i := 3) scRRead.nd rfl (Or.inl rfl)) (fun _ _ _ _ _ => pts_nil) (fun _ _ _ _ _ => pe_meth (pv 0) T.cl MT GT hr bT .nil pass0 (pa_cons (pv 3) pa_nil)))) pa_nil)))) pa_nil)))
          (pss_one (ps_dput hu (pe_fld (pv 0) rfl) (pe_ix ix_tup (pv 1) pe_int (fun _ _ => rfl)) (pe_tup (pa_cons (pv 2) (pa_cons (pe_op op_sub (pe_callB call_len_seq (by rfl) ml PySem.boot_len (pa_cons (pe_fld (pv 0) rfl) pa_nil)) pe_int) pa_nil))) rfl)))
          (pss_one (ps_if (pt_cmpR op_eq (pv 2) pe_str (nomark _))
            (pss_one (ps_dput hu (pe_fld (pv 0) rfl) (pe_ix ix_tup (pv 1) pe_int (fun _ _ => rfl)) (pe_tup (pa_cons (pv 2) (pa_cons (pe_meth (pv 0) T.cl MT GT hr bT .nil pass0 (pa_cons (pe_ix ix_tup (pv 1) pe_int (fun _ _ => rfl)) pa_nil)) (pa_cons (pe_callB call_len_seq (by rfl) ml PySem.boot_len (pa_cons (pe_fld (pv 0) rfl) pa_nil)) pa_nil)))) rfl))
            (pss_one (ps_if (pt_cmpR op_eq (pv 2) pe_str (nomark _))
              (pss_one (ps_dput hu (pe_fld (pv 0) rfl) (pe_ix ix_tup (pv 1) pe_int (fun _ _ => rfl)) (pe_meth (pv 0) T.cl MT GT hr bT .nil pass0 (pa_cons (pe_ix ix_tup (pv 1) pe_int (fun _ _ => rfl)) pa_nil)) rfl))
              (pss_cons (ps_par (i := 4) (j := 5) rfl scRRead.nd rfl rfl (by decide) rfl rfl (pa_cons (pe_meth (pv 0) T.cl MT GT hr bT .nil pass0 (pa_cons (pe_ix ix_tup (pv 1) pe_int (fun _ _ => rfl)) pa_nil)) (pa_cons (pe_meth (pv 0) T.cl MT GT hr bT .nil pass0 (pa_cons (pe_ix ix_tup (pv 1) pe_int (fun _ _ => rfl)) pa_nil)) pa_nil)) (by rfl))
              (pss_cons (ps_if (PW.pt (pw_and (pt_val (pe_call GC hr (by rfl) gC kC bC .nil pass0 (pa_cons (pe_ix ix_tup (pv 1) pe_int (fun _ _ => rfl)) pa_nil))) (pw_and1 (pt_cmpR op_lt_str (pe_callTy (call_strG hG (room100 hr)) (by rfl) mstr (by decide +kernel) (pa_cons (pv 5) pa_nil)) (pe_callTy (call_strG hG (room100 hr)) (by rfl) mstr (by decide +kernel) (pa_cons (pv 4) pa_nil)) (nomark _)))))
                (pss_one (ps_par (i := 4) (j := 5) rfl scRRead.nd rfl rfl (by decide) rfl rfl (pa_cons (pv 5) (pa_cons (pv 4) pa_nil)) (by rfl))) pss_nil)
              (pss_one (ps_dput hu (pe_fld (pv 0) rfl) (pe_ix ix_tup (pv 1) pe_int (fun _ _ => rfl)) (pe_tup (pa_cons (pe_ix ix_tup (pv 1) pe_int (fun _ _ => rfl)) (pa_cons (pv 4) (pa_cons (pv 5) pa_nil)))) rfl)))))))))))), ?_⟩
    refine q_asgP (ep_ixT (i := 0) (ep_var rfl pv1) ev_c st.at0) fun v2 H1 e1 p2 => ?_
    cases pv_str p2
    have R1 := R.ex e1
    have pv2 := pv1.ex e1
    obtain ⟨n1, n2, n3⟩ := R.ne
    have len8 := fit.na
    have ter8 := fit.nt
    have txT : ∀ {G : Hp} {ks : List (Key × V)} {o : HO}, G td = some (.dK ks) → Tx G (upd G td o) := fun h => Tx.updD h
    -- the two ways in which a step ends
    have put : ∀ {σ : L2.St} {H2 : Hp} {tv : TE} {r' : RS} {n : Nm} {t : Tm}, σ[0]? = some (some (.ref p)) → σ[1]? = some (some vv) → ReaderAt K C H2 p dx td ta r' → Exl2 td ta H H2 → Tx H H2 → r'.terms.length ≤ 8 → st.ds[1]? = some n.d →
        EvP K tv σ H2 t.d → rstep ltT r st = ⟨tput r'.terms n t, r'.acts⟩ → sDPut (tFld K (tVar 0) "terms") (tOp (rIxT K) (tVar 1) (tC (.int 1))) tv { nx := fun _ H' => Q .non H', rt := Q } σ H2 := by
      intro σ H2 tv r' n t s0 s1 R2 x2 t2 l2 hn hv he
      obtain ⟨ks, hk, pk⟩ := R2.te
      have lk := pk.length
      refine s_dputP hv (fun H3 e3 => ev_fld (ev_var s0) (R2.ex e3).ob T.cl T.nT (rf_terms _ _)) hk (fun H3 e3 => ev_epS (ep_ixT (i := 1) (ep_var s1 (pv1.tx (t2.trans (tx_of e3)))) ev_c hn)) (by rw [lk]; unfold kdOf; rw [List.length_map]; omega) fun v3 H3 e3 p3 => ?_
      refine q _ ?_ ((x2.trans (exl2_of e3)).trans Exl2.one) ((t2.trans (tx_of e3)).trans (txT (e3 _ _ hk)))
      rw [he]
      exact term_put (R2.ex e3) (e3 _ _ hk) (pk.ex e3) p3
    cases st with
    | store a b =>
      refine s_if (et_test (ev_is (et_eqS (ev_var rfl) ev_c) (congrArg V.bl (kind_store (.store a b))))) (fun e H2 e2 => ?_) (fun e H2 e2 => by cases e)
      have R2 := R1.ex e2
      obtain ⟨as, h1, h2⟩ := R2.ac
      have la := h2.length
      rw [List.length_map] at la
      refine s_appF (d := (Act.store (tOf r.terms a) (tOf r.terms b)).d) h1 (ev_fld (ev_var rfl) R2.ob T.cl T.nA (rf_acts _ _)) (ep_tup (eps_cons (ep_ev (ev_var rfl) (.str _)) (eps_cons (ep_term (ev_var rfl) R2 (ep_ixT (i := 1) (ep_var rfl (pv2.ex e2)) ev_c rfl)) (eps_cons (ep_term (ev_var rfl) R2 (ep_ixT (i := 2) (ep_var rfl (pv2.ex e2)) ev_c rfl)) eps_nil))) (by simp)) (by omega) fun v3 H3 e3 p3 => ?_
      exact q _ (act_put (R2.ex e3) (e3 _ _ h1) (h2.ex e3) p3) ((exl2_of ((e1.trans e2).trans e3)).trans Exl2.two) ((tx_of ((e1.trans e2).trans e3)).trans (Tx.updL (e3 _ _ h1)))
    | call v a =>
      refine s_if (et_test (ev_is (et_eqS (ev_var rfl) ev_c) (congrArg V.bl (kind_store (.call v a))))) (fun e H2 e2 => by cases e) (fun e H2 e2 => ?_)
      refine s_if (et_test (ev_is (et_eqS (ev_var rfl) ev_c) (congrArg V.bl (kind_call (.call v a))))) (fun e' H3 e3 => ?_) (fun e' H3 e3 => by cases e')
      have e13 := (e1.trans e2).trans e3
      have R3 := R.ex e13
      have pv3 := pv1.ex e13
      obtain ⟨as, h1, h2⟩ := R3.ac
      have la := h2.length
      rw [List.length_map] at la
      refine q_appF (d := (Act.call (tOf r.terms a)).d) h1 (ev_fld (ev_var rfl) R3.ob T.cl T.nA (rf_acts _ _)) (ep_tup (eps_cons (ep_ev (ev_var rfl) (.str _)) (eps_cons (ep_ixT (i := 2) (ep_var rfl pv3) ev_c rfl) (eps_cons (ep_tupleOf (ds := [(tOf r.terms a).d]) ?_) eps_nil))) (by simp)) (by omega) fun v3 H4 e4 p3 => ?_
      · refine el_lcT (σ := [some (.ref p), some vv, some (.str (Stp.call v a).kind), none, none, none]) (tl := tOp (rIxT K) (tVar 1) (tC (.int 3))) (g := gName 3) (te := tMeth C "term" (spRTerm K C) [] E0 (tVar 0) (tCons (tVar 3) tNil)) (vs := [3]) (ds := [a.d]) [(tOf r.terms a).d] (ep_ixT (i := 3) (ep_var rfl pv3) ev_c rfl) rfl (by simp) ?_
        intro i x c dd H5 e5 hc pc hd Q k
        cases i with
        | zero =>
          cases hc
          cases hd
          exact k _ H5 (Ex.refl H5) rfl (ep_term (ev_var rfl) (R3.ex e5) (ep_var rfl pc))
        | succ i => cases hc
      · have R4 := act_put (R3.ex e4) (e4 _ _ h1) (h2.ex e4) p3
        have x4 : Exl2 td ta H (upd H4 ta (.lst (as ++ [v3]))) := (exl2_of (e13.trans e4)).trans Exl2.two
        have t4 : Tx H (upd H4 ta (.lst (as ++ [v3]))) := (tx_of (e13.trans e4)).trans (Tx.updL (e4 _ _ h1))
        refine put (r' := ⟨r.terms, r.acts ++ [Act.call (tOf r.terms a)]⟩) (n := v) (t := .call r.acts.length) rfl rfl R4 x4 t4 ter8 rfl ?_ rfl
        refine ep_tup (ds := [.str "call", natD r.acts.length]) (eps_cons (ep_ev (ev_var rfl) (.str _)) (eps_cons (ep_evI (ev_is (ev_op (ev_len (ev_fld (ev_var rfl) R4.ob T.cl T.nA (rf_acts _ _)) (SqL.of upd_same)) ev_c rv_I0) ?_)) eps_nil)) (by simp)
        rw [List.length_append, la]
        exact congrArg V.int (by simp)
    | load v a =>
      refine s_if (et_test (ev_is (et_eqS (ev_var rfl) ev_c) (congrArg V.bl (kind_store (.load v a))))) (fun e H2 e2 => by cases e) (fun e H2 e2 => ?_)
      refine s_if (et_test (ev_is (et_eqS (ev_var rfl) ev_c) (congrArg V.bl (kind_call (.load v a))))) (fun e' H3 e3 => by cases e') (fun e' H3 e3 => ?_)
      refine s_if (et_test (ev_is (et_eqS (ev_var rfl) ev_c) (congrArg V.bl (kind_load (.load v a))))) (fun e' H4 e4 => ?_) (fun e' H4 e4 => by cases e')
      have e14 := ((e1.trans e2).trans e3).trans e4
      have R4 := R.ex e14
      have pv4 := pv1.ex e14
      obtain ⟨as, h1, h2⟩ := R4.ac
      have la := h2.length
      rw [List.length_map] at la
      refine put (r' := r) (n := v) (t := .load (tOf r.terms a) r.acts.length) rfl rfl R4 (exl2_of e14) (tx_of e14) ter8 rfl ?_ rfl
      refine ep_tup (ds := [.str "load", (tOf r.terms a).d, natD r.acts.length]) (eps_cons (ep_ev (ev_var rfl) (.str _)) (eps_cons (ep_term (ev_var rfl) R4 (ep_ixT (i := 2) (ep_var rfl pv4) ev_c rfl)) (eps_cons (ep_evI (ev_is (ev_len (ev_fld (ev_var rfl) R4.ob T.cl T.nA (rf_acts _ _)) (SqL.of h1)) ?_)) eps_nil))) (by simp)
      rw [la]
    | copy v a =>
      refine s_if (et_test (ev_is (et_eqS (ev_var rfl) ev_c) (congrArg V.bl (kind_store (.copy v a))))) (fun e H2 e2 => by cases e) (fun e H2 e2 => ?_)
      refine s_if (et_test (ev_is (et_eqS (ev_var rfl) ev_c) (congrArg V.bl (kind_call (.copy v a))))) (fun e' H3 e3 => by cases e') (fun e' H3 e3 => ?_)
      refine s_if (et_test (ev_is (et_eqS (ev_var rfl) ev_c) (congrArg V.bl (kind_load (.copy v a))))) (fun e' H4 e4 => by cases e') (fun e' H4 e4 => ?_)
      refine s_if (et_test (ev_is (et_eqS (ev_var rfl) ev_c) (congrArg V.bl (kind_copy (.copy v a))))) (fun e' H5 e5 => ?_) (fun e' H5 e5 => by cases e')
      have e15 := (((e1.trans e2).trans e3).trans e4).trans e5
      have R5 := R.ex e15
      exact put (r' := r) (n := v) (t := tOf r.terms a) rfl rfl R5 (exl2_of e15) (tx_of e15) ter8 rfl (ep_term (ev_var rfl) R5 (ep_ixT (i := 2) (ep_var rfl (pv1.ex e15)) ev_c rfl)) rfl
    | op v o a b =>
      refine s_if (et_test (ev_is (et_eqS (ev_var rfl) ev_c) (congrArg V.bl (kind_store (.op v o a b))))) (fun e H2 e2 => by cases e) (fun e H2 e2 => ?_)
      refine s_if (et_test (ev_is (et_eqS (ev_var rfl) ev_c) (congrArg V.bl (kind_call (.op v o a b))))) (fun e' H3 e3 => by cases e') (fun e' H3 e3 => ?_)
      refine s_if (et_test (ev_is (et_eqS (ev_var rfl) ev_c) (congrArg V.bl (kind_load (.op v o a b))))) (fun e' H4 e4 => by cases e') (fun e' H4 e4 => ?_)
      refine s_if (et_test (ev_is (et_eqS (ev_var rfl) ev_c) (congrArg V.bl (kind_copy (.op v o a b))))) (fun e' H5 e5 => by cases e') (fun e' H5 e5 => ?_)
      have e15 := (((e1.trans e2).trans e3).trans e4).trans e5
      have R5 := R.ex e15
      have pv5 := pv1.ex e15
      refine q_par (eps_cons (ep_term (ev_var rfl) R5 (ep_ixT (i := 3) (ep_var rfl pv5) ev_c rfl)) (eps_cons (ep_term (ev_var rfl) R5 (ep_ixT (i := 4) (ep_var rfl pv5) ev_c rfl)) eps_nil)) fun v4 v5 H6 e6 p4 p5 => ?_
      have fa := fit.fit (by decide) (fit.opd a)
      have fb := fit.fit (by decide) (fit.opd b)
      have e16 := e15.trans e6
      refine q_when (b := o.comm && ltT (tOf r.terms b) (tOf r.terms a)) (et_and (et_B (ev_epB (K := K) (ep_call (eps_cons (ep_ixT (i := 2) (ep_var rfl (pv1.ex e16)) ev_c rfl) eps_nil) ⟨o, rfl, rfl⟩))) fun _ => et_test (ev_ltS (ev_strG (ep_var rfl p5) fb) (ev_strG (ep_var rfl p4) fa))) (fun h H7 e7 => ?_) (fun h H7 e7 => ?_)
      · refine ⟨v5, rfl, v4, rfl, v5, v4, rfl, ?_⟩
        have e17 := e16.trans e7
        refine put (r' := r) (n := v) (t := .op o (tOf r.terms b) (tOf r.terms a)) rfl rfl (R.ex e17) (exl2_of e17) (tx_of e17) ter8 rfl (ep_tup (eps_cons (ep_ixT (i := 2) (ep_var rfl (pv1.ex e17)) ev_c rfl) (eps_cons (ep_var rfl (p5.ex e7)) (eps_cons (ep_var rfl (p4.ex e7)) eps_nil))) (by simp)) ?_
        dsimp only [rstep]
        rw [if_pos h]
      · have e17 := e16.trans e7
        refine put (r' := r) (n := v) (t := .op o (tOf r.terms a) (tOf r.terms b)) rfl rfl (R.ex e17) (exl2_of e17) (tx_of e17) ter8 rfl (ep_tup (eps_cons (ep_ixT (i := 2) (ep_var rfl (pv1.ex e17)) ev_c rfl) (eps_cons (ep_var rfl (p4.ex e7)) (eps_cons (ep_var rfl (p5.ex e7)) eps_nil))) (by simp)) ?_
        dsimp only [rstep]
        rw [if_neg (by rw [h]; decide)]
end
end K36

namespace K36
open PySem PySem.Spec PyProof.Rows L2 Evl Pd Gd
abbrev sReaderOf : Stmt := topS 12
abbrev sTermsOf : Stmt := topS 13
abbrev sSameRows : Stmt := topS 14
theorem scReaderOf : FnScope ["steps", "reader", "step"] ["steps"] (defScope sReaderOf) := ⟨rfl, rfl, rfl, by decide +kernel, rfl, by decide +kernel, by decide +kernel⟩
theorem scTermsOf : FnScope ["steps", "reader"] ["steps"] (defScope sTermsOf) := ⟨rfl, rfl, rfl, by decide +kernel, rfl, by decide +kernel, by decide +kernel⟩
theorem scSameRows : FnScope ["one", "other", "alive", "first", "second", "own"] ["one", "other", "alive"] (defScope sSameRows) := ⟨rfl, rfl, rfl, by decide +kernel, rfl, by decide +kernel, by decide +kernel⟩
theorem RFit.mono {k j : Nat} {r : RS} (h : RFit k r) (e : k ≤ j) : RFit j r where
  na := Nat.le_trans h.na e
  nt := Nat.le_trans h.nt e
  tm := fun n t q => Tm.within.mono (h.tm n t q) (Nat.le_refl _) e
  ac := fun a q => by
    have := h.acts (Nat.le_refl _) e a q
    cases a with
    | store x y => exact ⟨this.1, this.2⟩
    | call x => exact this
/-- what a row reads -/
abbrev rd (steps : List Stp) : RS := readAll ltT .empty steps
theorem rd_fit {steps : List Stp} {j : Nat} (h : steps.length ≤ j) : RFit j (rd steps) := by
  have := rfit_all (lt := ltT) steps rfit0
  rw [Nat.zero_add] at this
  exact this.mono h
theorem act_can (a : Act) : a.d.canLay0 = true := by
  cases a <;> simp [Act.d, PyData.canLay0, PyData.canLayAll0, kw_ok, tmD_can]
theorem acts_shaped {steps : List Stp} (h : steps.length ≤ 9) : SeqAt.shaped (.list ((rd steps).acts.map Act.d)) = true := by
  refine shaped_of ?_ ?_
  · rw [PyData.canLay0]
    exact canAll_map _ act_can _
  · have F := rd_fit h
    rw [PyData.depth]
    have : ∀ l : List Act, (∀ a ∈ l, a ∈ (rd steps).acts) → PyData.depthAll (l.map Act.d) ≤ 20 := by
      intro l
      induction l with
      | nil => intro _; simp [PyData.depthAll]
      | cons a l ih =>
        intro hl
        rw [List.map_cons, PyData.depthAll]
        refine Nat.max_le.mpr ⟨?_, ih fun b hb => hl b (List.mem_cons_of_mem _ hb)⟩
        have := F.acts (Nat.le_refl _) (Nat.le_refl _) a (hl a List.mem_cons_self)
        cases a with
        | store x y =>
          have h1 := this.1.2.1
          have h2 := this.2.2.1
          simp only [Act.d, PyData.depth, PyData.depthAll, tmD_depth]
          omega
        | call x =>
          have h1 := this.2.1
          simp only [Act.d, PyData.depth, PyData.depthAll, tmD_depth]
          omega
    have := this _ fun a ha => ha
    omega
def spReaderOf (K : PySem.W.Frag) (C : Addr) : Sp := fun vs H Q _ => ∃ (v : V) (steps : List Stp), vs = [v] ∧ PV K H v (rowD steps) ∧ steps.length ≤ 9 ∧ ∀ p dx td ta H', H td = none → H ta = none → Ex H H' → ReaderAt K C H' p dx td ta (rd steps) → Q (.ref p) H'
def spSameRows (K : PySem.W.Frag) : Sp := spP K fun ds d => ∃ (one other : List Stp) (alive : List Opd), ds = [rowD one, rowD other, opdsD alive] ∧ one.length ≤ 9 ∧ other.length ≤ 9 ∧ alive.length ≤ 1000 ∧ d = .bool (sameR ltT one other alive)
theorem map_at {α β : Type} {f : α → β} {l : List α} {i : Nat} {y : β} (h : (l.map f)[i]? = some y) : ∃ x, l[i]? = some x ∧ f x = y := by
  rw [List.getElem?_map] at h
  cases e : l[i]? with
  | none => rw [e] at h; cases h
  | some x => rw [e] at h; exact ⟨x, rfl, Option.some.inj h⟩
section
variable {P : Program} {w : World} {K : PySem.W.Frag} {mg : Str → Option Value} {base : Heap}
theorem ok_reader_of {f C fI fR : Addr} {fd fdI fdR : FuncData} (F : Fun K "reader_of" "reader_of" sReaderOf f fd) (T : RCl K mg C) (M : Mk K C fI) (GI : FnOk P w K mg base CX0 1 fI fdI ["self"] (spRInit K C)) (bI : Binds K fdI ["self"] [])
    (MR : Meth K C "read" fR) (GR : FnG P w K mg base 2 fR fdR ["self", "step"] (spRRead K C)) (bR : Binds K fdR ["self", "step"] []) : FnG P w K mg base 3 f fd ["steps"] (spReaderOf K C) := by
  refine ofBody F scReaderOf (fun vs H Q E h => ?_) (fun cdv A outer s H vs Q E hr hG h => ?_)
  · obtain ⟨v, steps, rfl, _⟩ := h
    rfl
  · obtain ⟨v, steps, rfl, pv1, hl, q⟩ := h
    refine ⟨_, pss_cons (ps_set (i := 1) scReaderOf.nd rfl (.inl rfl) (pe_make0 M GI hr (by rfl) T.mgC bI .nil pass0))
      (pss_cons (ps_for PassesOwn.never rfl (pi_tup (pv 0)) (pg_name (i := 2) scReaderOf.nd rfl (.inl rfl))
        (pss_one (ps_expr (pe_methG (pv 1) T.cl MR GR hr hG bR (pa_cons (pv 2) pa_nil)))))
      (pss_one (ps_ret (pv 1)))), ?_⟩
    intro p dx hp hdx hne
    have en : Ex H (upd (upd H dx (.own p)) p (.ins C dx [])) := (Ex.new hdx).trans (Ex.new (by rw [upd_ne (Ne.symm hne)]; exact hp))
    refine ⟨p, dx, rfl, upd_same, fun td ta H1 htd hta R keep => ⟨rfl, ?_⟩⟩
    have e1 : Ex H H1 := fun a o ha => by
      have hap : a ≠ p := fun z => by
        subst z
        rw [hp] at ha
        cases ha
      exact keep a o (en a o ha) hap
    have ftd : H td = none := fresh_back en htd
    have fta : H ta = none := fresh_back en hta
    refine q_forTP (ds := steps.map Stp.d) (ep_var rfl (pv1.ex e1)) (fun H2 i σ' H' => ∃ y2, σ' = [some v, some (.ref p), y2] ∧ ReaderAt K C H' p dx td ta (rd (steps.take i)) ∧ Ex H H' ∧ Tx H2 H')
      (fun H2 e2 => ⟨none, rfl, R.ex e2, e1.trans e2, Tx.refl _⟩) (fun H2 i σ' H' ⟨_, _, _, _, t⟩ => t) ?_ ?_
    · rintro H2 i x d σ' H' e2 hd pd ⟨y2, rfl, R', ex, tx⟩
      obtain ⟨st, hst, rfl⟩ := map_at hd
      have hi : i < steps.length := (List.getElem?_eq_some_iff.mp hst).1
      refine ⟨_, rfl, p, dx, _, rfl, R'.ob, rf_no _ _ (by decide +kernel) (by decide +kernel), _, rfl, p, dx, td, ta, rd (steps.take i), st, x, rfl, R', pd, rd_fit (by rw [List.length_take]; omega), fun H3 R3 x3 t3 => ⟨_, rfl, ?_, fun a o ha => ?_, tx.trans t3⟩⟩
      · have : rd (steps.take (i + 1)) = rstep ltT (rd (steps.take i)) st := by
          unfold rd
          rw [List.take_add_one, hst, readAll_app]
          rfl
        rw [this]
        exact R3
      · exact x3 a o (ex a o ha) (fun z => by rw [z, ftd] at ha; cases ha) (fun z => by rw [z, fta] at ha; cases ha)
    · rintro H2 σ' H' e2 ⟨y2, rfl, R', ex, tx⟩
      rw [List.length_map, List.take_length] at R'
      exact s_ret (ev_var rfl) fun H3 e3 => q p dx td ta H3 ftd fta (ex.trans e3) (R'.ex e3)
/-- reader_of(x), run -/
theorem reader_run {C : Addr} {σ : L2.St} {H : Hp} {te : TE} {steps : List Stp} {E : XK} (h : EvP K te σ H (rowD steps)) (hl : steps.length ≤ 9) : ∀ H1, Ex H H1 → ∀ Q : VK, (∀ p dx td ta H2, Ex H1 H2 → ReaderAt K C H2 p dx td ta (rd steps) → Q (.ref p) H2) →
    tCall (spReaderOf K C) [] E (tCons te tNil) σ H1 Q := fun H1 e Q q => h H1 e _ fun v H2 e2 p => ⟨v, steps, rfl, p, hl, fun p dx td ta H3 _ _ e3 R => q p dx td ta H3 (e2.trans e3) R⟩
theorem PVs.of_bools {H : Hp} : ∀ {bs : List Bool} {vs : List V}, PVs K H vs (bs.map PyData.bool) → vs = bs.map V.bl
  | [], _, h => by cases h; rfl
  | n :: ns, _, h => by
    cases h with
    | cons a b =>
      cases a
      rw [PVs.of_bools b]
      rfl
theorem ev_all {σ : L2.St} {H : Hp} {te : TE} {bs : List Bool} (h : EvPL K te σ H (bs.map PyData.bool)) : Ev (tCB (rAll K) (tCons te tNil)) σ H (.bl (bs.all id)) := fun H1 e Q q =>
  h H1 e _ fun p vs H2 hp e2 hl ps => by
    rw [PVs.of_bools ps] at hl
    exact ⟨p, bs, rfl, SqL.of hl, q H2 e2⟩
theorem ok_same_rows {f C fR fT : Addr} {fd fdR fdT : FuncData} (F : Fun K "same_rows" "same_rows" sSameRows f fd) (T : RCl K mg C) (GR : FnG P w K mg base 3 fR fdR ["steps"] (spReaderOf K C)) (kR : PySem.W.keepIn K (.ref fR) = true) (bR : Binds K fdR ["steps"] []) (gR : mg "reader_of" = some (.ref fR))
    (MT : Meth K C "term" fT) (GT : FnOk P w K mg base CX0 1 fT fdT ["self", "operand"] (spRTerm K C)) (bT : Binds K fdT ["self", "operand"] []) (ma : mg "all" = none) : FnG P w K mg base 4 f fd ["one", "other", "alive"] (spSameRows K) := by
  refine ofBody F scSameRows (fun vs H Q E h => ?_) (fun cdv A outer s H vs Q E hr hG h => ?_)
  · obtain ⟨ds, d, ps, ⟨one, other, alive, rfl, _⟩, _⟩ := h
    exact ps.length
  · obtain ⟨ds, d, ps, ⟨one, other, alive, rfl, h1, h2, h3, rfl⟩, q⟩ := h
    obtain ⟨v1, v2, v3, rfl, p1, p2, p3⟩ := pvs3 ps
    have hr1 : Room 1 _ := hr.mono (by decide)
    refine ⟨_, pss_cons (ps_asg (pe_tup (pa_cons (pe_callG GR hr hG (by rfl) gR kR bR (pa_cons (pv 0) pa_nil)) (pa_cons (pe_callG GR hr hG (by rfl) gR kR bR (pa_cons (pv 1) pa_nil)) pa_nil))) (pg_tup rfl (pgs_cons (pg_name (i := 3) scSameRows.nd rfl (.inr rfl)) (pgs_cons (pg_name (i := 4) scSameRows.nd rfl (.inr rfl)) pgs_nil))))
      (pss_cons (ps_if (pt_cmpR (op_neD hr.units) (pe_fld (pv 3) rfl) (pe_fld (pv 4) rfl) (nomark _)) (pss_one (ps_ret pe_bl)) pss_nil)
      (pss_one (ps_ret (pe_callB (cr_all rfl) (by rfl) ma (by decide +kernel) (pa_cons (pe_lc (own := [("own", 5)]) (g := gName 5) (tt := tYes) (te := tOp (rEqD K) (tMeth C "term" (spRTerm K C) [] E0 (tVar 3) (tCons (tVar 5) tNil)) (tMeth C "term" (spRTerm K C) [] E0 (tVar 4) (tCons (tVar 5) tNil))) rfl scSameRows.nd (pi_tup (pv 2)) (blkOk_by (N := ["one", "other", "alive", "first", "second", "own"]) (sc := defScope sSameRows) (by decide +kernel))
        (fun _ _ _ _ _ => pg_name (i := 5) scSameRows.nd rfl (Or.inl rfl)) (fun _ _ _ _ _ => pts_nil) (fun _ _ _ _ _ => pe_cmpR (op_eqD hr.units) (pe_meth (pv 3) T.cl MT GT hr1 bT .nil pass0 (pa_cons (pv 5) pa_nil)) (pe_meth (pv 4) T.cl MT GT hr1 bT .nil pass0 (pa_cons (pv 5) pa_nil)) (nomark _))) pa_nil))))), ?_⟩
    refine reader_run (C := C) (σ := [some v1, some v2, some v3, none, none, none]) (ep_var rfl p1) h1 H (Ex.refl H) _ fun pa dxa tda taa H1 e1 Ra => reader_run (C := C) (σ := [some v1, some v2, some v3, none, none, none]) (ep_var rfl (p2.ex e1)) h2 H1 (Ex.refl H1) _ fun pb dxb tdb tab H2 e2 Rb => ?_
    refine ⟨sz_of (by simp), fun t ht => ?_⟩
    have et : Ex H2 (upd H2 t (.tup [.ref pa, .ref pb])) := Ex.new ht
    refine ⟨t, _, rfl, SqT.of upd_same, rfl, _, _, rfl, _, _, rfl, rfl, ?_⟩
    have e3 := (e1.trans e2).trans et
    have Ra3 := Ra.ex (e2.trans et)
    have Rb3 := Rb.ex et
    have Dacts : ∀ {G : Hp} {p dx td ta : Addr} {r : RS}, ReaderAt K C G p dx td ta r → Dp K G (.ref ta) (.list (r.acts.map Act.d)) := fun R => by
      obtain ⟨as, h1, h2⟩ := R.ac
      exact .lst (SqL.of h1) h2.dp
    refine q_when (b := !PyData.eqv (.list ((rd one).acts.map Act.d)) (.list ((rd other).acts.map Act.d))) (et_test (ev_op (ev_fld (ev_var rfl) Ra3.ob T.cl T.nA (rf_acts _ _)) (ev_fld (ev_var rfl) Rb3.ob T.cl T.nA (rf_acts _ _)) (fun H4 e4 Q4 q4 => ⟨_, _, Dacts (Ra3.ex e4), Dacts (Rb3.ex e4), acts_shaped h1, acts_shaped h2, q4 H4 (Ex.refl H4)⟩))) (fun e H4 e4 => ?_) (fun e H4 e4 => ?_)
    · rw [acts_eqv] at e
      have hs : sameR ltT one other alive = false := by
        unfold sameR
        cases hd : decide ((rd one).acts = (rd other).acts) with
        | true => rw [hd] at e; cases e
        | false => rfl
      rw [hs] at q
      exact s_ret ev_c fun H5 e5 => q _ H5 (e3.trans (e4.trans e5)) (.bl _)
    · rw [acts_eqv] at e
      have hd : decide ((rd one).acts = (rd other).acts) = true := by
        cases hd : decide ((rd one).acts = (rd other).acts) with
        | true => rfl
        | false => rw [hd] at e; cases e
      have hs : sameR ltT one other alive = ((alive.map fun n => decide (tOf (rd one).terms n = tOf (rd other).terms n)).all id) := by
        unfold sameR
        rw [hd, Bool.true_and, List.all_map]
        rfl
      rw [hs] at q
      refine s_ret (ev_all (el_lcT (σ := [some v1, some v2, some v3, some (.ref pa), some (.ref pb), none]) (tl := tVar 2) (g := gName 5) (te := tOp (rEqD K) (tMeth C "term" (spRTerm K C) [] E0 (tVar 3) (tCons (tVar 5) tNil)) (tMeth C "term" (spRTerm K C) [] E0 (tVar 4) (tCons (tVar 5) tNil))) (vs := [5]) (ds := alive.map Opd.d) ((alive.map fun n => decide (tOf (rd one).terms n = tOf (rd other).terms n)).map PyData.bool) (ep_var rfl (p3.ex (e3.trans e4))) (by simp) (by rw [List.length_map]; omega) ?_)) fun H5 e5 => q _ H5 (e3.trans (e4.trans e5)) (.bl _)
      intro i x c dd H5 e5 hc pc hd2 Q k
      obtain ⟨o, ho, rfl⟩ := map_at hc
      obtain ⟨m, hm, rfl⟩ := map_at hd2
      obtain ⟨o2, ho2, rfl⟩ := map_at hm
      rw [ho] at ho2
      cases ho2
      have fa := (rd_fit h1).fit (by decide) ((rd_fit h1).opd o)
      have fb := (rd_fit h2).fit (by decide) ((rd_fit h2).opd o)
      refine k _ H5 (Ex.refl H5) rfl (ep_evB (ev_is (et_eqD (ep_term (ev_var rfl) (Ra3.ex (e4.trans e5)) (ep_var rfl pc)) (ep_term (ev_var rfl) (Rb3.ex (e4.trans e5)) (ep_var rfl pc)) fa.shaped fb.shaped) ?_))
      rw [tm_eqv]
end
end K36

namespace K36
open PySem PySem.Spec PyProof.Rows L2 Evl Pd Gd
abbrev sSameBlocks : Stmt := topS 15
theorem scSameBlocks : FnScope ["one", "other", "alive", "number", "steps", "end", "more", "last"] ["one", "other", "alive"] (defScope sSameBlocks) := ⟨rfl, rfl, rfl, by decide +kernel, rfl, by decide +kernel, by decide +kernel⟩
def gD (ps : List Nm) (g : Gr) : PyData := .tuple [.tuple (ps.map Nm.d), blksD g]
def outsD (outs : List (List Nm)) : PyData := .tuple (outs.map fun l => .tuple (l.map Nm.d))
def sameBk (lt : Tm → Tm → Bool) (g g' : Gr) (outs : List (List Nm)) (k : Nat) : Bool := match g[k]?, g'[k]?, outs[k]? with
  | some b, some b', some o => decide (b.fin = b'.fin) && sameR lt b.steps b'.steps (o.map .nm ++ b.fin.reads)
  | _, _, _ => false
def sameG (lt : Tm → Tm → Bool) (ps ps' : List Nm) (g g' : Gr) (outs : List (List Nm)) : Bool := decide (ps = ps') && decide (g.length = g'.length) && (List.range g.length).all (sameBk lt g g' outs)
structure GOk (g : Gr) : Prop where
  len : g.length ≤ 1000
  st : ∀ b ∈ g, b.steps.length ≤ 9
def spSameBlocks (K : PySem.W.Frag) : Sp := spP K fun ds d => ∃ (ps ps' : List Nm) (g g' : Gr) (outs : List (List Nm)), ds = [gD ps g, gD ps' g', outsD outs] ∧ ps.length ≤ 100 ∧ ps'.length ≤ 100 ∧ GOk g ∧ GOk g' ∧ outs.length = g.length ∧ (∀ o ∈ outs, o.length ≤ 100) ∧ d = .bool (sameG ltT ps ps' g g' outs)
theorem nms_eqv (s t : List Nm) : PyData.eqv (.tuple (s.map Nm.d)) (.tuple (t.map Nm.d)) = decide (s = t) := eqv_dec (by rw [nob]; exact nobs_map _ (fun n => rfl) s) (by rw [nob]; exact nobs_map _ (fun n => rfl) t) ⟨fun h => map_inj (fun _ _ => nmD_inj) (PyData.tuple.inj h), fun h => by rw [h]⟩
theorem nms_shaped (s : List Nm) : SeqAt.shaped (.tuple (s.map Nm.d)) = true := shaped_of (by
    rw [PyData.canLay0]
    exact canAll_map _ (fun n => by simp [Nm.d, PyData.canLay0, nmS_ok]) s) (by
    rw [PyData.depth]
    have := depthAll_map Nm.d 0 (fun n => by simp [Nm.d, PyData.depth]) s
    omega)
theorem endD_shaped (e : End) : SeqAt.shaped e.d = true := shaped_of (by cases e <;> simp [End.d, natD, PyData.canLay0, PyData.canLayAll0, kw_ok, opdD_can]) (by cases e <;> simp [End.d, natD, PyData.depth, PyData.depthAll, opdD_depth])
section
variable {P : Program} {w : World} {K : PySem.W.Frag} {mg : Str → Option Value} {base : Heap}
theorem ev_lenT {σ : L2.St} {H : Hp} {ta : TE} {ds : List PyData} (h : EvP K ta σ H (.tuple ds)) : Ev (tCB (rLenS K) (tCons ta tNil)) σ H (.int (ds.length : Int)) := fun H1 e Q q =>
  h H1 e _ fun v H2 e2 p => by
    obtain ⟨a, xs, rfl, hx, px⟩ := pv_tup p
    exact ⟨a, xs, rfl, .inr hx.sq, by rw [px.length]; exact q H2 e2⟩
theorem ok_same_blocks {f fS fE : Addr} {fd fdS fdE : FuncData} (F : Fun K "same_blocks" "same_blocks" sSameBlocks f fd) (GS : FnG P w K mg base 4 fS fdS ["one", "other", "alive"] (spSameRows K)) (kS : PySem.W.keepIn K (.ref fS) = true) (bS : Binds K fdS ["one", "other", "alive"] []) (gS : mg "same_rows" = some (.ref fS))
    (GE : FnOk P w K mg base CX0 1 fE fdE ["end"] (spReadsEnd K)) (kE : PySem.W.keepIn K (.ref fE) = true) (bE : Binds K fdE ["end"] []) (gE : mg "reads_of_end" = some (.ref fE)) (ml : mg "len" = none) (me : mg "enumerate" = none) : FnG P w K mg base 5 f fd ["one", "other", "alive"] (spSameBlocks K) := by
  refine ofBody F scSameBlocks (fun vs H Q E h => ?_) (fun cdv A outer s H vs Q E hr hG h => ?_)
  · obtain ⟨ds, d, ps, ⟨p1, p2, g, g', outs, rfl, _⟩, _⟩ := h
    exact ps.length
  · obtain ⟨ds, d, ps, ⟨n1, n2, g, g', outs, rfl, hn1, hn2, og, og', ol, oo, rfl⟩, q⟩ := h
    obtain ⟨v1, v2, v3, rfl, p1, p2, p3⟩ := pvs3 ps
    have hr1 : Room 1 _ := hr.mono (by decide)
    refine ⟨_, pss_cons (ps_if (PW.pt (pw_or (pt_cmpR (op_neD hr.units) (pe_ix ix_tup (pv 0) pe_int (fun _ _ => rfl)) (pe_ix ix_tup (pv 1) pe_int (fun _ _ => rfl)) (nomark _)) (pw_or1 (pt_cmpR op_ne (pe_callB call_len_seq (by rfl) ml PySem.boot_len (pa_cons (pe_ix ix_tup (pv 0) pe_int (fun _ _ => rfl)) pa_nil)) (pe_callB call_len_seq (by rfl) ml PySem.boot_len (pa_cons (pe_ix ix_tup (pv 1) pe_int (fun _ _ => rfl)) pa_nil)) (nomark _))))) (pss_one (ps_ret pe_bl)) pss_nil)
      (pss_cons (ps_for PassesOwn.never rfl (pi_enumT (by rfl) me (pa_cons (pe_ix ix_tup (pv 0) pe_int (fun _ _ => rfl)) pa_nil)) (pg_tup rfl (pgs_cons (pg_name (i := 3) scSameBlocks.nd rfl (.inl rfl)) (pgs_cons (pg_tup rfl (pgs_cons (pg_name (i := 4) scSameBlocks.nd rfl (.inl rfl)) (pgs_cons (pg_name (i := 5) scSameBlocks.nd rfl (.inl rfl)) pgs_nil))) pgs_nil)))
        (pss_cons (ps_asg (pe_ix ix_tup (pe_ix ix_tup (pv 1) pe_int (fun _ _ => rfl)) (pv 3) (fun _ _ => rfl)) (pg_tup rfl (pgs_cons (pg_name (i := 6) scSameBlocks.nd rfl (.inl rfl)) (pgs_cons (pg_name (i := 7) scSameBlocks.nd rfl (.inl rfl)) pgs_nil))))
        (pss_one (ps_if (PW.pt (pw_or (pt_cmpR (op_neD hr.units) (pv 5) (pv 7) (nomark _)) (pw_or1 (pt_not (pt_val (pe_callG GS hr hG (by rfl) gS kS bS (pa_cons (pv 4) (pa_cons (pv 6) (pa_cons (pe_op op_catA (pe_ix ix_tup (pv 2) (pv 3) (fun _ _ => rfl)) (pe_call GE hr1 (by rfl) gE kE bE .nil pass0 (pa_cons (pv 5) pa_nil))) pa_nil))))))))) (pss_one (ps_ret pe_bl)) pss_nil))))
      (pss_one (ps_ret pe_bl))), ?_⟩
    have ex0 : ∀ {G : Hp} {a b c d e : Option V}, Ex H G → EvP K (tOp (rIxT K) (tVar 0) (tC (.int 0))) [some v1, some v2, some v3, a, b, c, d, e] G (.tuple (n1.map Nm.d)) := fun e => ep_ixT (i := 0) (ep_var rfl (p1.ex e)) ev_c rfl
    have ex1 : ∀ {G : Hp} {a b c d e : Option V}, Ex H G → EvP K (tOp (rIxT K) (tVar 1) (tC (.int 0))) [some v1, some v2, some v3, a, b, c, d, e] G (.tuple (n2.map Nm.d)) := fun e => ep_ixT (i := 0) (ep_var rfl (p2.ex e)) ev_c rfl
    have bx0 : ∀ {G : Hp} {a b c d e : Option V}, Ex H G → EvP K (tOp (rIxT K) (tVar 0) (tC (.int 1))) [some v1, some v2, some v3, a, b, c, d, e] G (blksD g) := fun e => ep_ixT (i := 1) (ep_var rfl (p1.ex e)) ev_c rfl
    have bx1 : ∀ {G : Hp} {a b c d e : Option V}, Ex H G → EvP K (tOp (rIxT K) (tVar 1) (tC (.int 1))) [some v1, some v2, some v3, a, b, c, d, e] G (blksD g') := fun e => ep_ixT (i := 1) (ep_var rfl (p2.ex e)) ev_c rfl
    refine q_when (b := !decide (n1 = n2) || !decide (g.length = g'.length)) (et_or (et_test (ev_is (et_neD (ex0 (Ex.refl H)) (ex1 (Ex.refl H)) (nms_shaped _) (nms_shaped _)) (by rw [nms_eqv]))) fun _ => et_test (ev_is (ev_op (ev_lenT (bx0 (Ex.refl H))) (ev_lenT (bx1 (Ex.refl H))) (rv_ne rfl)) ?_)) (fun e H1 e1 => ?_) (fun e H1 e1 => ?_)
    · rw [List.length_map, List.length_map]
      congr 2
      exact decide_eq_decide.mpr ⟨fun h => by have := V.int.inj h; omega, fun h => by rw [h]⟩
    · have hs : sameG ltT n1 n2 g g' outs = false := by
        unfold sameG
        rcases Bool.or_eq_true_iff.mp e with z | z
        · cases hd : decide (n1 = n2) with
          | true => rw [hd] at z; cases z
          | false => rfl
        · cases hd : decide (g.length = g'.length) with
          | true => rw [hd] at z; cases z
          | false => rw [Bool.and_false]; rfl
      rw [hs] at q
      exact s_ret ev_c fun H2 e2 => q _ H2 (e1.trans e2) (.bl _)
    · rw [Bool.or_eq_false_iff] at e
      have d1 : decide (n1 = n2) = true := by
        cases hd : decide (n1 = n2) with
        | true => rfl
        | false => rw [hd] at e; cases e.1
      have d2 : decide (g.length = g'.length) = true := by
        cases hd : decide (g.length = g'.length) with
        | true => rfl
        | false => rw [hd] at e; cases e.2
      have gl : g.length = g'.length := of_decide_eq_true d2
      have hs : sameG ltT n1 n2 g g' outs = (List.range g.length).all (sameBk ltT g g' outs) := by
        unfold sameG
        rw [d1, d2]
        rfl
      rw [hs] at q
      refine q_forEnum (ds := g.map Blk.d) (bx0 e1) (fun H2 i σ' H' => ∃ y3 y4 y5 y6 y7, σ' = [some v1, some v2, some v3, y3, y4, y5, y6, y7] ∧ Ex H H' ∧ Tx H2 H' ∧ (List.range i).all (sameBk ltT g g' outs) = true)
        (fun H2 e2 => ⟨none, none, none, none, none, rfl, e1.trans e2, Tx.refl _, rfl⟩) (fun H2 i σ' H' ⟨_, _, _, _, _, _, _, t, _⟩ => t) ?_ ?_
      · rintro H2 i v d σ' H' e2 hd pv ⟨H0, ⟨y3, y4, y5, y6, y7, rfl, exx, txx, all0⟩, en⟩
        obtain ⟨b, hb, rfl⟩ := map_at hd
        have hi : i < g.length := (List.getElem?_eq_some_iff.mp hb).1
        obtain ⟨b', hb'⟩ : ∃ b', g'[i]? = some b' := ⟨_, List.getElem?_eq_getElem (by omega)⟩
        obtain ⟨o, ho⟩ : ∃ o, outs[i]? = some o := ⟨_, List.getElem?_eq_getElem (by omega)⟩
        have sb := og.st b (List.mem_of_getElem? hb)
        have sb' := og'.st b' (List.mem_of_getElem? hb')
        have lo := oo o (List.mem_of_getElem? ho)
        have hall : sameBk ltT g g' outs i = (decide (b.fin = b'.fin) && sameR ltT b.steps b'.steps (o.map .nm ++ b.fin.reads)) := by
          unfold sameBk
          rw [hb, hb', ho]
        have eH : Ex H H' := exx.trans en
        obtain ⟨a, xs, rfl, hx, px⟩ := pv_tup pv
        obtain ⟨w1, w2, rfl, pw1, pw2⟩ := pvs2 px
        cases pv_int pw1
        refine ⟨a, _, rfl, hx.sq, rfl, _, _, rfl, _, _, rfl, g_tup2 (d1 := rowD b.steps) (d2 := b.fin.d) pw2 fun v4 v5 p4 p5 => ⟨rfl, ?_⟩⟩
        refine ep_ixT (i := i) (d := b'.d) (bx1 eH) (ev_var rfl) (by rw [List.getElem?_map, hb']; rfl) H' (Ex.refl H') _ fun u H3 e3 pu => ?_
        refine g_tup2 (d1 := rowD b'.steps) (d2 := b'.fin.d) pu fun v6 v7 p6 p7 => ?_
        have outEv : ∀ {G : Hp}, Ex H3 G → EvP K (tOp (rIxT K) (tVar 2) (tVar 3)) [some v1, some v2, some v3, some (.int (i : Int)), some v4, some v5, some v6, some v7] G (.tuple (o.map Nm.d)) := fun e => ep_ixT (i := i) (ep_var rfl (p3.ex ((eH.trans e3).trans e))) (ev_var rfl) (by rw [List.getElem?_map, ho]; rfl)
        have rl : b.fin.reads.length ≤ 1 := by cases b.fin <;> simp [End.reads]
        refine s_when (b := !decide (b.fin = b'.fin) || !sameR ltT b.steps b'.steps (o.map .nm ++ b.fin.reads)) (et_or (et_test (ev_is (et_neD (ep_var rfl (p5.ex e3)) (ep_var rfl p7) (endD_shaped _) (endD_shaped _)) (by rw [end_eqv]))) fun _ => et_not (et_B (ev_epB (K := K) (ep_call (eps_cons (ep_var rfl (p4.ex e3)) (eps_cons (ep_var rfl p6) (eps_cons (d := opdsD (o.map .nm ++ b.fin.reads)) ?_ eps_nil))) ⟨b.steps, b'.steps, _, rfl, sb, sb', by rw [List.length_append, List.length_map]; omega, rfl⟩)))) (fun h H4 e4 => ?_) (fun h H4 e4 => ?_)
        · unfold opdsD
          rw [List.map_append, List.map_map]
          exact ep_cat (outEv (Ex.refl H3)) (ep_call (eps_cons (ep_var rfl (p5.ex e3)) eps_nil) ⟨b.fin, rfl, rfl⟩) (by rw [List.length_map, List.length_map]; omega)
        · have hf : (List.range g.length).all (sameBk ltT g g' outs) = false := by
            cases hA : (List.range g.length).all (sameBk ltT g g' outs) with
            | false => rfl
            | true =>
              have := List.all_eq_true.mp hA i (List.mem_range.mpr hi)
              rw [hall, Bool.and_eq_true] at this
              rw [this.1, this.2] at h
              cases h
          rw [hf] at q
          exact s_ret ev_c fun H5 e5 => q _ H5 ((eH.trans e3).trans (e4.trans e5)) (.bl _)
        · refine ⟨_, _, _, _, _, rfl, (eH.trans e3).trans e4, (txx.trans (tx_of en)).trans ((tx_of e3).trans (tx_of e4)), ?_⟩
          rw [List.range_succ, List.all_append, all0, Bool.true_and, List.all_cons, List.all_nil, Bool.and_true, hall]
          rw [Bool.or_eq_false_iff] at h
          have h1 := h.1
          have h2 := h.2
          cases hd1 : decide (b.fin = b'.fin) <;> rw [hd1] at h1 <;> cases h1
          cases hd2 : sameR ltT b.steps b'.steps (o.map .nm ++ b.fin.reads) <;> rw [hd2] at h2 <;> cases h2
          rfl
      · rintro H2 σ' H' e2 ⟨y3, y4, y5, y6, y7, rfl, exx, txx, all0⟩
        rw [List.length_map] at all0
        rw [all0] at q
        exact s_ret ev_c fun H5 e5 => q _ H5 (exx.trans e5) (.bl _)
end
end K36

namespace K36
open PySem PySem.Spec PyProof.Rows L2 Evl Pd Gd
def spTermsOf (K : PySem.W.Frag) : Sp := fun vs H Q _ => ∃ (v : V) (steps : List Stp), vs = [v] ∧ PV K H v (rowD steps) ∧ steps.length ≤ 9 ∧
  ∀ t d u H', Ex H H' → H' t = some (.tup [.ref d, u]) → DAt K H' d (kdOf (rd steps).terms) → PV K H' u (.tuple ((rd steps).acts.map Act.d)) → Q (.ref t) H'
section
variable {P : Program} {w : World} {K : PySem.W.Frag} {mg : Str → Option Value} {base : Heap}
/-- tuple(xs), a list that stands -/
theorem ep_tupleS {σ : L2.St} {H : Hp} {te : TE} {l : Addr} {vs : List V} {ds : List PyData} (h : Ev te σ H (.ref l)) (hl : H l = some (.lst vs)) (ps : PVs K H vs ds) : EvP K (tThen te (kTup K)) σ H (.tuple ds) := fun H1 e Q q =>
  h H1 e _ fun H2 e2 => .inl ⟨l, vs, rfl, SqL.of (e2 _ _ (e _ _ hl)), fun c hc => q _ _ (e2.trans (Ex.new hc)) (.tup (.inl upd_same) (ps.ex ((e.trans e2).trans (Ex.new hc))))⟩
theorem ok_terms_of {f C fR : Addr} {fd fdR : FuncData} (F : Fun K "terms_of" "terms_of" sTermsOf f fd) (T : RCl K mg C) (GR : FnG P w K mg base 3 fR fdR ["steps"] (spReaderOf K C)) (kR : PySem.W.keepIn K (.ref fR) = true) (bR : Binds K fdR ["steps"] []) (gR : mg "reader_of" = some (.ref fR))
    (md : mg "dict" = none) (mt : mg "tuple" = none) : FnG P w K mg base 4 f fd ["steps"] (spTermsOf K) := by
  refine ofBody F scTermsOf (fun vs H Q E h => ?_) (fun cdv A outer s H vs Q E hr hG h => ?_)
  · obtain ⟨v, steps, rfl, _⟩ := h
    rfl
  · obtain ⟨v, steps, rfl, pv1, hl, q⟩ := h
    refine ⟨_, pss_cons (ps_set (i := 1) scTermsOf.nd rfl (.inl rfl) (pe_callG GR hr hG (by rfl) gR kR bR (pa_cons (pv 0) pa_nil)))
      (pss_one (ps_ret (pe_tup (pa_cons (pe_callTy call_dictD (by rfl) md (by decide +kernel) (pa_cons (pe_fld (pv 1) rfl) pa_nil)) (pa_cons (pe_tupleOf (by rfl) mt (pe_fld (pv 1) rfl)) pa_nil))))), ?_⟩
    refine reader_run (C := C) (σ := [some v, none]) (ep_var rfl pv1) hl H (Ex.refl H) _ fun p dx td ta H1 e1 R => ?_
    obtain ⟨ks, hk, pk⟩ := R.te
    obtain ⟨as, ha, pa⟩ := R.ac
    refine ev_fld (σ := [some v, some (.ref p)]) (ev_var rfl) R.ob T.cl T.nT (rf_terms _ _) H1 (Ex.refl H1) _ fun H2 e2 => ?_
    refine ⟨td, ks, rfl, .inl (e2 _ _ hk), fun d hd => ?_⟩
    have ed : Ex H2 (upd H2 d (.dK ks)) := Ex.new hd
    have R3 := (R.ex e2).ex ed
    refine ep_tupleS (K := K) (σ := [some v, some (.ref p)]) (ev_fld (ev_var rfl) R3.ob T.cl T.nA (rf_acts _ _)) (ed _ _ (e2 _ _ ha)) ((pa.ex e2).ex ed) _ (Ex.refl _) _ fun u H4 e4 pu => ?_
    refine ⟨sz_of (by simp), fun t ht => ?_⟩
    have et : Ex H4 (upd H4 t (.tup [.ref d, u])) := Ex.new ht
    exact q t d u _ ((((e1.trans e2).trans ed).trans e4).trans et) upd_same ⟨ks, et _ _ (e4 _ _ upd_same), pk.ex (((e2.trans ed).trans e4).trans et)⟩ (pu.ex et)
end
end K36

namespace K36
open PySem PySem.Spec PyProof.Rows L2 Evl Pd Gd
abbrev sActsMeet : Stmt := topS 30
theorem scActsMeet : FnScope ["ahead", "behind"] ["ahead", "behind"] (defScope sActsMeet) := ⟨rfl, rfl, rfl, by decide +kernel, rfl, by decide +kernel, by decide +kernel⟩
def changingS : List Str := ["store", "call"]
def askingS : List Str := ["load", "store", "call"]
structure Consts2 (K : PySem.W.Frag) (mg : Str → Option Value) where
  aC : Addr
  gC : mg "CHANGING" = some (.ref aC)
  pC : ∀ H : Hp, PV K H (.ref aC) (.tuple (changingS.map PyData.str))
  aA : Addr
  gA : mg "ASKING" = some (.ref aA)
  pA : ∀ H : Hp, PV K H (.ref aA) (.tuple (askingS.map PyData.str))
theorem changing_mem (s : Stp) : decide (s.kind ∈ changingS) = s.changing := by cases s <;> first | exact dec_t (by dsimp only [Stp.kind]; decide +kernel) rfl | exact dec_f (by dsimp only [Stp.kind]; decide +kernel) rfl
theorem asking_mem (s : Stp) : decide (s.kind ∈ askingS) = s.asking := by cases s <;> first | exact dec_t (by dsimp only [Stp.kind]; decide +kernel) rfl | exact dec_f (by dsimp only [Stp.kind]; decide +kernel) rfl
def spActsMeet (K : PySem.W.Frag) : Sp := spP K fun ds d => ∃ s t : Stp, ds = [s.d, t.d] ∧ d = .bool (meet s t)
section
variable {P : Program} {w : World} {K : PySem.W.Frag} {mg : Str → Option Value} {base : Heap}
theorem ok_acts_meet {f : Addr} {fd : FuncData} (F : Fun K "acts_meet" "acts_meet" sActsMeet f fd) (C : Consts2 K mg) : FnOk P w K mg base CX0 1 f fd ["ahead", "behind"] (spActsMeet K) := by
  refine F.ok scActsMeet (fun vs H Q E h => ?_) (fun cdv A outer s H vs Q E hr h => ?_)
  · obtain ⟨ds, d, ps, ⟨o, t, rfl, _⟩, _⟩ := h
    exact ps.length
  · obtain ⟨ds, d, ps, ⟨st, t, rfl, rfl⟩, q⟩ := h
    obtain ⟨v1, v2, rfl, p1, p2⟩ := pvs2 ps
    rw [st.d_ds] at p1
    rw [t.d_ds] at p2
    have k1 : ∀ {H1 : Hp}, Ex H H1 → Ev (tOp (rIxT K) (tVar 0) (tC (.int 0))) [some v1, some v2] H1 (.str st.kind) := fun e => ev_epS (ep_ixT (i := 0) (ep_var rfl (p1.ex e)) ev_c st.at0)
    have k2 : ∀ {H1 : Hp}, Ex H H1 → Ev (tOp (rIxT K) (tVar 1) (tC (.int 0))) [some v1, some v2] H1 (.str t.kind) := fun e => ev_epS (ep_ixT (i := 0) (ep_var rfl (p2.ex e)) ev_c t.at0)
    refine ⟨_, pss_cons (ps_if (PW.pt (pw_and (pt_cmpR op_in_seq (pe_ix ix_tup (pv 0) pe_int (fun _ _ => rfl)) (pe_glob (v := .ref C.aC) (by rfl) C.gC (by rfl)) (by rfl)) (pw_and1 (pt_cmpR op_in_seq (pe_ix ix_tup (pv 1) pe_int (fun _ _ => rfl)) (pe_glob (v := .ref C.aA) (by rfl) C.gA (by rfl)) (by rfl))))) (pss_one (ps_ret pe_bl)) pss_nil)
      (pss_one (ps_ret (pe_and (pe_cmpR op_in_seq (pe_ix ix_tup (pv 0) pe_int (fun _ _ => rfl)) (pe_glob (v := .ref C.aA) (by rfl) C.gA (by rfl)) (by rfl)) (pe_one (pe_cmpR op_in_seq (pe_ix ix_tup (pv 1) pe_int (fun _ _ => rfl)) (pe_glob (v := .ref C.aC) (by rfl) C.gC (by rfl)) (by rfl)))))), ?_⟩
    refine q_when (b := st.changing && t.asking) (et_and (et_test (ev_is (ev_inT (k1 (Ex.refl H)) (ep_c (C.pC _))) (congrArg V.bl (changing_mem st)))) fun _ => et_test (ev_is (ev_inT (k2 (Ex.refl H)) (ep_c (C.pA _))) (congrArg V.bl (asking_mem t)))) (fun e H1 e1 => ?_) (fun e H1 e1 => ?_)
    · refine s_ret ev_c fun H2 e2 => ?_
      have : meet st t = true := by
        unfold meet
        rw [e]
        rfl
      rw [this] at q
      exact q _ H2 (e1.trans e2) (.bl _)
    · refine s_ret (ev_andV (ev_is (ev_inT (k1 e1) (ep_c (C.pA _))) (congrArg V.bl (asking_mem st))) fun _ => ev_is (ev_inT (k2 e1) (ep_c (C.pC _))) (congrArg V.bl (changing_mem t))) fun H2 e2 => ?_
      have : meet st t = (st.asking && t.changing) := by
        unfold meet
        rw [e]
        rfl
      rw [this] at q
      exact q _ H2 (e1.trans e2) (.bl _)
end
end K36

/-! d.get(k, x) of a dict that the top has written. -/
namespace Gd
open PySem PySem.Spec PyProof.Rows L2 Evl Pd
def tKGet2 (K : PySem.W.Frag) (w : World) (td ty tx : TE) : TE := fun σ H Q => td σ H fun x H1 => ∃ (d : Addr) (es : Array DictEntry) (n : Nat), x = .ref d ∧ KDict K w d es n ∧ ty σ H1 fun y H2 => tx σ H2 fun z H3 => ∃ (k : Str) (r : Option Value) (o : Option V), y = .str k ∧ PySem.W.nsIn K d k = some r ∧ RelO o r ∧ Q (o.getD z) H3
section
variable {X : Cx} {o e f : Expr} {td ty tx : TE} {apos cpos : Pos}
theorem pe_kget2 (ho : PE X o td) (he : PE X e ty) (hf : PE X f tx) (m : M2 X o "get" apos e f cpos) : PE X (.Call (.Attribute o "get" apos) [e, f] [] cpos) (tKGet2 X.K X.w td ty tx) := by
  refine ⟨fun pins s σ H Q I h => ?_⟩
  refine wpAny_Call_method m.base m.few m.line PySem.F.plainAttrs_dict PySem.F.slot_dict_get PySem.F.type_dict_get (thn (ho.run pins s σ H _ I h) fun u s1 ⟨x, H1, I1, rx, a, es, n, ex, D, q1⟩ => ?_)
  subst ex
  obtain rfl : u = Value.ref a := rx
  refine ⟨kd_type D I1, fun b hb => ?_, ?_⟩
  · cases hb
    exact ⟨_, I1.kIn _ _ D.at_, rfl⟩
  rw [m.trees]
  refine Calls.callWith_builtin rfl (Calls.evalArgs_plain (Calls.spliced_cons (thn (he.run pins s1 σ H1 _ I1 q1) fun iv s2 ⟨y, H2, I2, ry, q2⟩ =>
    Calls.spliced_cons (thn (hf.run pins s2 σ H2 _ I2 q2) fun fv s3 ⟨z, H3, I3, rz, k, r, ov, ey, hk, ro, q3⟩ => Calls.spliced_nil ?_))))
  subst ey
  obtain ⟨t, rfl⟩ := ry
  have hm := PySem.W.mapOf_K (prog := X.prog) (w := X.w) I3.kIn D.at_ D.lit
  refine call_meetsIn PySem.F.slot_dict_get hm.typeIs PySem.F.entry_dict_get (PySem.F.args_dict_get_3 _ _ _) (meets_dict_get_default (PySem.strKind X.prog X.w) a (PySem.strKind_is X.prog X.w k t) D.low fv) ⟨_, hm, ?_⟩
  rw [PySem.W.find_K D.at_ hk]
  refine ⟨ov.getD z, H3, I3.tok _, ?_, q3⟩
  cases ov with
  | none => cases r with
    | none => exact rz
    | some u => cases ro
  | some v => cases r with
    | none => cases ro
    | some u => exact ro
end
/-- the dict at d says v of the key s -/
def KSays (K : PySem.W.Frag) (w : World) (d : Addr) (s : Str) (v : Option V) : Prop := (∃ es n, KDict K w d es n) ∧ ∃ r, PySem.W.nsIn K d s = some r ∧ RelO v r
theorem ev_kget2 {K : PySem.W.Frag} {w : World} {σ : L2.St} {H : Hp} {td ty tx : TE} {d : Addr} {s : Str} {o : Option V} {z : V} (h : Ev td σ H (.ref d)) (k : KSays K w d s o) (hy : Ev ty σ H (.str s)) (hx : Ev tx σ H z) : Ev (tKGet2 K w td ty tx) σ H (o.getD z) := fun H1 e Q q =>
  h H1 e _ fun H2 e2 => by
    obtain ⟨⟨es, n, kd⟩, r, e1, ro⟩ := k
    exact ⟨d, es, n, rfl, kd, hy H2 (e.trans e2) _ fun H3 e3 => hx H3 ((e.trans e2).trans e3) _ fun H4 e4 => ⟨s, r, o, rfl, e1, ro, q H4 ((e2.trans e3).trans e4)⟩⟩
end Gd

namespace K36
open PySem PySem.Spec PyProof.Rows L2 Evl Pd Gd
abbrev sLengthOf : Stmt := topS 29
theorem scLengthOf : FnScope ["step"] ["step"] (defScope sLengthOf) := ⟨rfl, rfl, rfl, by decide +kernel, rfl, by decide +kernel, by decide +kernel⟩
def lenOp : Op → Nat
  | .mul => 2 | .div => 4 | _ => 1
def lenS : Stp → Nat
  | .op _ o _ _ => lenOp o | .copy _ _ => 1 | .load _ _ => 3 | .store _ _ => 1 | .call _ _ => 4
def lenOpt : Op → Option V
  | .mul => some (.int 2) | .div => some (.int 4) | _ => none
structure Consts3 (K : PySem.W.Frag) (w : World) (mg : Str → Option Value) where
  dL : Addr
  gL : mg "LENGTHS" = some (.ref dL)
  kL : ∀ o : Op, KSays K w dL o.s (lenOpt o)
  dK : Addr
  gK : mg "KINDS" = some (.ref dK)
  eK : ∃ es n, KDict K w dK es n
  kK : ∀ s : Stp, s.kind ≠ "op" → ∃ t, PySem.W.nsIn K dK s.kind = some (some (.int (lenS s : Int) t))
def spLengthOf (K : PySem.W.Frag) : Sp := spP K fun ds d => ∃ s : Stp, ds = [s.d] ∧ d = natD (lenS s)
section
variable {P : Program} {w : World} {K : PySem.W.Frag} {mg : Str → Option Value} {base : Heap}
theorem ok_length_of {f : Addr} {fd : FuncData} (F : Fun K "length_of" "length_of" sLengthOf f fd) (C : Consts3 K w mg) : FnOk P w K mg base CX0 1 f fd ["step"] (spLengthOf K) := by
  refine F.ok scLengthOf (fun vs H Q E h => ?_) (fun cdv A outer s H vs Q E hr h => ?_)
  · obtain ⟨ds, d, ps, ⟨o, rfl, _⟩, _⟩ := h
    exact ps.length
  · obtain ⟨ds, d, ps, ⟨st, rfl, rfl⟩, q⟩ := h
    obtain ⟨v1, rfl, p1⟩ := pvs1 ps
    rw [st.d_ds] at p1
    obtain ⟨es, n, kd⟩ := C.eK
    have k1 : ∀ {H1 : Hp}, Ex H H1 → Ev (tOp (rIxT K) (tVar 0) (tC (.int 0))) [some v1] H1 (.str st.kind) := fun e => ev_epS (ep_ixT (i := 0) (ep_var rfl (p1.ex e)) ev_c st.at0)
    refine ⟨_, pss_one (ps_ret (pe_ifExp (pt_cmpR op_eq (pe_ix ix_tup (pv 0) pe_int (fun _ _ => rfl)) pe_str (nomark _)) (pe_kget2 (pe_glob (v := .ref C.dL) (by rfl) C.gL (by rfl)) (pe_ix ix_tup (pv 0) pe_int (fun _ _ => rfl)) pe_int ⟨by rfl, by rfl, by rfl, by rfl⟩)
      (pe_ix ix_kdict (pe_glob (v := .ref C.dK) (by rfl) C.gK (by rfl)) (pe_ix ix_tup (pv 0) pe_int (fun _ _ => rfl)) (fun _ _ => rfl)))), ?_⟩
    refine s_ret (v := .int (lenS st : Int)) (ev_if (et_test (ev_is (et_eqS (k1 (Ex.refl H)) ev_c) (congrArg V.bl (kind_op st)))) (fun e => ?_) (fun e => ?_)) fun H1 e1 => q _ H1 e1 (.int _)
    · cases st with
      | op v o a b =>
        refine ev_is (ev_kget2 ev_c (C.kL o) (ev_epS (ep_ixT (i := 2) (ep_var rfl p1) ev_c rfl)) ev_c) ?_
        cases o <;> rfl
      | copy v a => cases e
      | load v a => cases e
      | store a b => cases e
      | call v a => cases e
    · have hk : st.kind ≠ "op" := by
        cases st with
        | op v o a b => cases e
        | copy v a => show ("copy" : Str) ≠ "op"; decide +kernel
        | load v a => show ("load" : Str) ≠ "op"; decide +kernel
        | store a b => show ("store" : Str) ≠ "op"; decide +kernel
        | call v a => show ("call" : Str) ≠ "op"; decide +kernel
      obtain ⟨t, ht⟩ := C.kK st hk
      exact ev_op ev_c (k1 (Ex.refl H)) fun H1 e1 Q1 q1 => ⟨C.dK, st.kind, .int (lenS st : Int), rfl, rfl, ⟨es, n, _, kd.at_, kd.lit, ht, ⟨_, rfl⟩⟩, q1 H1 (Ex.refl H1)⟩
end
end K36

namespace K36
open PySem PySem.Spec PyProof.Rows L2 Evl Pd Gd
abbrev sWaitBetween : Stmt := topS 31
theorem scWaitBetween : FnScope ["ahead", "behind", "waits", "own", "other"] ["ahead", "behind"] (defScope sWaitBetween) := ⟨rfl, rfl, rfl, by decide +kernel, rfl, by decide +kernel, by decide +kernel⟩
def hit (v : Option Nm) (l : List Opd) : Bool := match v with
  | none => false
  | some n => decide (Opd.nm n ∈ l)
def sameW (a b : Option Nm) : Bool := match a with
  | none => false
  | some n => decide (b = some n)
def waitsL (s t : Stp) : List Int := (([] ++ if (meet s t || hit s.writes t.reads) = true then [(lenS s : Int)] else []) ++ if hit t.writes s.reads = true then [0] else []) ++ if sameW s.writes t.writes = true then [1] else []
def maxL : List Int → Int
  | [] => 0
  | x :: r => max x (maxL r)
def waitD (s t : Stp) : PyData := match waitsL s t with
  | [] => .none
  | l => .int (maxL l)
theorem maxL_ge : ∀ {l : List Int} {y : Int}, y ∈ l → y ≤ maxL l
  | x :: r, y, h => by
    rcases List.mem_cons.mp h with rfl | h
    · exact Int.le_max_left _ _
    · exact Int.le_trans (maxL_ge h) (Int.le_max_right _ _)
theorem maxL_mem : ∀ {l : List Int}, l ≠ [] → (∀ y ∈ l, 0 ≤ y) → maxL l ∈ l
  | [], h, _ => absurd rfl h
  | [x], _, p => by
    show max x 0 ∈ _
    rw [Int.max_eq_left (p x (by simp))]
    simp
  | x :: y :: r, _, p => by
    have ih := maxL_mem (l := y :: r) (by simp) fun z hz => p z (List.mem_cons_of_mem _ hz)
    show max x (maxL (y :: r)) ∈ _
    by_cases h : x ≤ maxL (y :: r)
    · rw [Int.max_eq_right h]
      exact List.mem_cons_of_mem _ ih
    · rw [Int.max_eq_left (by omega)]
      exact List.mem_cons_self
theorem waits_bd (s t : Stp) : ∀ y ∈ waitsL s t, 0 ≤ y ∧ y ≤ 4 := by
  intro y hy
  unfold waitsL at hy
  have hl : (lenS s : Int) ≤ 4 := by
    cases s with
    | op v o a b => cases o <;> simp [lenS, lenOp]
    | _ => simp [lenS]
  simp only [List.mem_append, List.nil_append] at hy
  rcases hy with (hy | hy) | hy
  · split at hy
    · rw [List.mem_singleton] at hy
      omega
    · cases hy
  · split at hy
    · rw [List.mem_singleton] at hy
      omega
    · cases hy
  · split at hy
    · rw [List.mem_singleton] at hy
      omega
    · cases hy
theorem free_of {s t : Stp} (h : waitsL s t = []) : Free s t := by
  unfold waitsL at h
  rw [List.append_eq_nil_iff, List.append_eq_nil_iff, List.nil_append] at h
  obtain ⟨⟨h1, h2⟩, h3⟩ := h
  have g1 : (meet s t || hit s.writes t.reads) = false := by
    cases e : (meet s t || hit s.writes t.reads) with
    | false => rfl
    | true => rw [e] at h1; cases h1
  have g2 : hit t.writes s.reads = false := by
    cases e : hit t.writes s.reads with
    | false => rfl
    | true => rw [e] at h2; cases h2
  have g3 : sameW s.writes t.writes = false := by
    cases e : sameW s.writes t.writes with
    | false => rfl
    | true => rw [e] at h3; cases h3
  rw [Bool.or_eq_false_iff] at g1
  refine ⟨g1.1, fun v hv => ?_, fun v hv => ?_, fun v hv hw => ?_⟩
  · have := g1.2
    rw [hv] at this
    exact of_decide_eq_false this
  · rw [hv] at g2
    exact of_decide_eq_false g2
  · rw [hv] at g3
    exact of_decide_eq_false g3 hw
def spWait (K : PySem.W.Frag) : Sp := spP K fun ds d => ∃ s t : Stp, ds = [s.d, t.d] ∧ d = waitD s t
def opdV : Opd → V
  | .nm n => .str n.s
  | .num i => .int (i.val : Int)
theorem PVs.of_opds {K : PySem.W.Frag} {H : Hp} : ∀ {l : List Opd} {vs : List V}, PVs K H vs (l.map Opd.d) → vs = l.map opdV
  | [], _, h => by cases h; rfl
  | n :: ns, _, h => by
    cases h with
    | cons a b =>
      rw [PVs.of_opds b]
      cases n with
      | nm n => cases a; rfl
      | num i => cases a; rfl
theorem inV_opds (n : Nm) : ∀ l : List Opd, inV (.str n.s) (l.map opdV) = decide (Opd.nm n ∈ l)
  | [] => rfl
  | p :: l => by
    have ih := inV_opds n l
    unfold inV at ih ⊢
    rw [List.map_cons, List.any_cons, ih]
    cases p with
    | num i =>
      have : eqV (opdV (.num i)) (.str n.s) = false := rfl
      rw [this, Bool.false_or]
      exact decide_eq_decide.mpr ⟨fun h => List.mem_cons_of_mem _ h, fun h => by
        rcases List.mem_cons.mp h with e | e
        · cases e
        · exact e⟩
    | nm m =>
      have : eqV (opdV (.nm m)) (.str n.s) = decide (m.s = n.s) := by
        show (m.s == n.s) = _
        by_cases h : m.s = n.s <;> simp [h]
      rw [this, Nm.s_dec]
      by_cases h : m = n
      · subst h
        simp
      · rw [decide_eq_false h, Bool.false_or]
        exact decide_eq_decide.mpr ⟨fun h => List.mem_cons_of_mem _ h, fun e => by
          rcases List.mem_cons.mp e with e | e
          · cases e; exact absurd rfl h
          · exact e⟩
section
variable {K : PySem.W.Frag} {H : Hp} {σ : L2.St} {ta tb te : TE} {tz : L2.TS} {D : Ends}
theorem ev_inO {n : Nm} {l : List Opd} (ha : EvP K ta σ H n.d) (hb : EvP K tb σ H (opdsD l)) : Ev (tOp (rIn K false) ta tb) σ H (.bl (decide (Opd.nm n ∈ l))) := fun H1 e Q q =>
  ev_epS ha H1 e _ fun H2 e2 => hb H2 (e.trans e2) _ fun v H3 e3 p => by
    obtain ⟨a, xs, rfl, hx, px⟩ := pv_tup p
    rw [PVs.of_opds px] at hx
    have h := rv_isT (K := K) (x := .str n.s) hx.sq rfl (by
      rw [List.all_map]
      exact List.all_eq_true.mpr fun o _ => by cases o <;> rfl)
    rw [inV_opds] at h
    exact h H3 (Ex.refl H3) Q fun H4 e4 => q H4 ((e2.trans e3).trans e4)
def Exm (l : Addr) (H H' : Hp) : Prop := ∀ a o, H a = some o → a ≠ l → H' a = some o
theorem Exm.ex {l : Addr} {H H' : Hp} (e : Exm l H H') (h : H l = none) : Ex H H' := fun a o ha => e a o ha fun z => by
  subst z
  rw [h] at ha
  cases ha
theorem Exm.trans {l : Addr} {H H1 H2 : Hp} (a : Exm l H H1) (b : Exm l H1 H2) : Exm l H H2 := fun x o h n => b x o (a x o h n) n
theorem exm_of {l : Addr} {H H' : Hp} (e : Ex H H') : Exm l H H' := fun a o h _ => e a o h
theorem Exm.upd {l : Addr} {H : Hp} {o : HO} : Exm l H (L2.upd H l o) := fun a u h n => by rw [upd_ne n]; exact h
/-- if ..: xs.append(n) -/
theorem q_ifApp {i : Nat} {b : Bool} {n : Int} {ns : List Int} {l : Addr} {t : TT} (hl : H l = some (.lst (ns.map V.int))) (hv : σ[i]? = some (some (.ref l))) (ht : EvT t σ H b) (h : b = true → ∀ H1, Ex H H1 → Ev te σ H1 (.int n)) (hz : ns.length < 100)
    (k : ∀ H', H' l = some (.lst ((ns ++ if b = true then [n] else []).map V.int)) → Exm l H H' → tz D σ H') : tSeq (tIfS t (tDrop (tBM K "list" rAppend (tVar i) (tCons te tNil))) tNext) tz D σ H := by
  refine q_when ht (fun e H1 e1 => ?_) (fun e H1 e1 => ?_)
  · refine s_app (xs := ns.map V.int) (v := .int n) (e1 _ _ hl) (ev_var hv) (h e H1 e1) (by rw [List.length_map]; omega) fun H2 e2 => k _ ?_ ((exm_of (e1.trans e2)).trans Exm.upd)
    rw [upd_same, if_pos e, List.map_append]
    rfl
  · refine k H1 ?_ (exm_of e1)
    rw [if_neg (by rw [e]; decide), List.append_nil]
    exact e1 _ _ hl
theorem optNm_isNone (v : Option Nm) : (!isNone (optNm v)) = v.isSome := by cases v <;> rfl
/-- own is not None and own in t -/
theorem et_hit {v : Option Nm} {l : List Opd} (ha : ∀ H1, Ex H H1 → EvP K ta σ H1 (optNm v)) (hb : ∀ H1, Ex H H1 → EvP K tb σ H1 (opdsD l)) :
    EvT (tAnd (tTest (tOp (fun x y H Q => y = .non ∧ Q (.bl (!decide (x = .non))) H) ta (tC .non))) (tTest (tOp (rIn K false) ta tb))) σ H (hit v l) := by
  have h := et_and (b := hit v l) (u := tTest (tOp (rIn K false) ta tb)) (et_test (ev_is (et_notN (ha H (Ex.refl H))) (congrArg V.bl (optNm_isNone v)))) fun e => by
    cases v with
    | none => cases e
    | some n => exact et_test (ev_inO (ha H (Ex.refl H)) (hb H (Ex.refl H)))
  refine et_is h ?_
  cases v <;> rfl
theorem et_sameW {v u : Option Nm} (ha : EvP K ta σ H (optNm v)) (hb : EvP K tb σ H (optNm u)) :
    EvT (tAnd (tTest (tOp (fun x y H Q => y = .non ∧ Q (.bl (!decide (x = .non))) H) ta (tC .non))) (tTest (tOp rEq ta tb))) σ H (sameW v u) := by
  have h := et_and (b := sameW v u) (u := tTest (tOp rEq ta tb)) (et_test (ev_is (et_notN ha) (congrArg V.bl (optNm_isNone v)))) fun e => by
    cases v with
    | none => cases e
    | some n =>
      refine et_test ?_
      cases u with
      | none =>
        refine fun H1 e1 Q q => ha H1 e1 _ fun w H2 e2 p => hb H2 (e1.trans e2) _ fun y H3 e3 p2 => ?_
        cases pv_str p
        cases pv_non p2
        exact ⟨rfl, q H3 (e2.trans e3)⟩
      | some m =>
        refine ev_is (et_eqS (ev_epS ha) (ev_epS hb)) (congrArg V.bl ?_)
        show decide (n.s = m.s) = decide (some m = some n)
        rw [Nm.s_dec]
        exact decide_eq_decide.mpr ⟨fun h => by rw [h], fun h => (Option.some.inj h).symm⟩
  refine et_is h ?_
  cases v <;> rfl
end
section
variable {P : Program} {w : World} {K : PySem.W.Frag} {mg : Str → Option Value} {base : Heap}
theorem ok_wait {f fW fR fM fL : Addr} {fd fdW fdR fdM fdL : FuncData} (F : Fun K "wait_between" "wait_between" sWaitBetween f fd) 
    (GW : FnOk P w K mg base CX0 1 fW fdW ["step"] (spWritesOf K)) (kW : PySem.W.keepIn K (.ref fW) = true) (bW : Binds K fdW ["step"] []) (gW : mg "writes_of" = some (.ref fW))
    (GR : FnOk P w K mg base CX0 1 fR fdR ["step"] (spReadsOf K)) (kR : PySem.W.keepIn K (.ref fR) = true) (bR : Binds K fdR ["step"] []) (gR : mg "reads_of" = some (.ref fR))
    (GM : FnOk P w K mg base CX0 1 fM fdM ["ahead", "behind"] (spActsMeet K)) (kM : PySem.W.keepIn K (.ref fM) = true) (bM : Binds K fdM ["ahead", "behind"] []) (gM : mg "acts_meet" = some (.ref fM))
    (GL : FnOk P w K mg base CX0 1 fL fdL ["step"] (spLengthOf K)) (kL : PySem.W.keepIn K (.ref fL) = true) (bL : Binds K fdL ["step"] []) (gL : mg "length_of" = some (.ref fL)) (mm : mg "max" = none) :
    FnOk P w K mg base CX0 2 f fd ["ahead", "behind"] (spWait K) := by
  refine F.ok scWaitBetween (fun vs H Q E h => ?_) (fun cdv A outer s H vs Q E hr h => ?_)
  · obtain ⟨ds, d, ps, ⟨o, t, rfl, _⟩, _⟩ := h
    exact ps.length
  · obtain ⟨ds, d, ps, ⟨st, t, rfl, rfl⟩, q⟩ := h
    obtain ⟨v1, v2, rfl, p1, p2⟩ := pvs2 ps
    refine ⟨_, pss_cons (ps_set (i := 2) scWaitBetween.nd rfl (.inl rfl) (pe_lst pa_nil))
      (pss_cons (ps_par (i := 3) (j := 4) rfl scWaitBetween.nd rfl rfl (by decide) rfl rfl (pa_cons (pe_call GW hr (by rfl) gW kW bW .nil pass0 (pa_cons (pv 0) pa_nil)) (pa_cons (pe_call GW hr (by rfl) gW kW bW .nil pass0 (pa_cons (pv 1) pa_nil)) pa_nil)) (by rfl))
      (pss_cons (ps_if (PW.pt (pw_or (pt_val (pe_call GM hr (by rfl) gM kM bM .nil pass0 (pa_cons (pv 0) (pa_cons (pv 1) pa_nil)))) (pw_or1 (PW.pt (pw_and (pt_cmpR op_notN (pv 3) pe_non (nomark _)) (pw_and1 (pt_cmpR op_in_seq (pv 3) (pe_call GR hr (by rfl) gR kR bR .nil pass0 (pa_cons (pv 1) pa_nil)) (by rfl))))))))
          (pss_one (ps_expr (pe_bm PySem.F.plainAttrs_list PySem.F.slot_list_append PySem.F.type_list_append mt_append (pv 2) (pa_cons (pe_call GL hr (by rfl) gL kL bL .nil pass0 (pa_cons (pv 0) pa_nil)) pa_nil)))) pss_nil)
      (pss_cons (ps_if (PW.pt (pw_and (pt_cmpR op_notN (pv 4) pe_non (nomark _)) (pw_and1 (pt_cmpR op_in_seq (pv 4) (pe_call GR hr (by rfl) gR kR bR .nil pass0 (pa_cons (pv 0) pa_nil)) (by rfl)))))
          (pss_one (ps_expr (pe_bm PySem.F.plainAttrs_list PySem.F.slot_list_append PySem.F.type_list_append mt_append (pv 2) (pa_cons pe_int pa_nil)))) pss_nil)
      (pss_cons (ps_if (PW.pt (pw_and (pt_cmpR op_notN (pv 3) pe_non (nomark _)) (pw_and1 (pt_cmpR op_eq (pv 3) (pv 4) (nomark _)))))
          (pss_one (ps_expr (pe_bm PySem.F.plainAttrs_list PySem.F.slot_list_append PySem.F.type_list_append mt_append (pv 2) (pa_cons pe_int pa_nil)))) pss_nil)
      (pss_one (ps_ret (pe_ifExp (pt_truth (pv 2) (by intro _; rfl)) (pe_callB (cr_max rfl) (by rfl) mm (by decide +kernel) (pa_cons (pv 2) pa_nil)) pe_non))))))), ?_⟩
    refine q_asgPL (K := K) (el_tup eps_nil (by decide)) fun l vs H1 hl e1 hl1 pl => ?_
    cases pl
    refine q_par (K := K) (d := optNm st.writes) (e := optNm t.writes) (eps_cons (ep_call (eps_cons (ep_var rfl (p1.ex e1)) eps_nil) ⟨st, rfl, rfl⟩) (eps_cons (ep_call (eps_cons (ep_var rfl (p2.ex e1)) eps_nil) ⟨t, rfl, rfl⟩) eps_nil)) fun v3 v4 H2 e2 p3 p4 => ?_
    have e12 := e1.trans e2
    refine q_ifApp (i := 2) (b := meet st t || hit st.writes t.reads) (n := (lenS st : Int)) (ns := []) (e2 _ _ hl1) rfl (et_or (et_B (ev_epB (K := K) (ep_call (eps_cons (ep_var rfl (p1.ex e12)) (eps_cons (ep_var rfl (p2.ex e12)) eps_nil)) ⟨st, t, rfl, rfl⟩))) fun _ => et_hit (fun H3 e3 => ep_var rfl (p3.ex e3)) (fun H3 e3 => ep_call (eps_cons (ep_var rfl (p2.ex (e12.trans e3))) eps_nil) ⟨t, rfl, rfl⟩))
      (fun _ H3 e3 => ev_epI (K := K) (ep_call (eps_cons (ep_var rfl (p1.ex (e12.trans e3))) eps_nil) ⟨st, rfl, rfl⟩)) (by decide) fun H3 l3 x3 => ?_
    have x13 : Ex H H3 := ((exm_of e12).trans x3).ex hl
    have t23 : Tx H2 H3 := fun a xs ha => x3 a _ ha fun z => by
      subst z
      rw [e2 _ _ hl1] at ha
      cases ha
    have p33 := p3.tx t23
    have p43 := p4.tx t23
    refine q_ifApp (i := 2) (b := hit t.writes st.reads) (n := 0) l3 rfl (et_hit (fun H4 e4 => ep_var rfl (p43.ex e4)) (fun H4 e4 => ep_call (eps_cons (ep_var rfl (p1.ex (x13.trans e4))) eps_nil) ⟨st, rfl, rfl⟩)) (fun _ H4 e4 => ev_c) (by split <;> simp) fun H4 l4 x4 => ?_
    have x14 : Ex H H4 := (((exm_of e12).trans x3).trans x4).ex hl
    have t34 : Tx H3 H4 := fun a xs ha => x4 a _ ha fun z => by
      subst z
      rw [l3] at ha
      cases ha
    refine q_ifApp (i := 2) (b := sameW st.writes t.writes) (n := 1) l4 rfl (et_sameW (K := K) (ep_var rfl (p33.tx t34)) (ep_var rfl (p43.tx t34))) (fun _ H5 e5 => ev_c) (by split <;> split <;> simp) fun H5 l5 x5 => ?_
    have x15 : Ex H H5 := ((((exm_of e12).trans x3).trans x4).trans x5).ex hl
    have l6 : H5 l = some (.lst ((waitsL st t).map V.int)) := l5
    have bd := waits_bd st t
    refine s_retP (d := waitD st t) (ep_if (b := !(waitsL st t).isEmpty) (fun H6 e6 Q6 q6 => ⟨.ref l, rfl, _, .inl ⟨_, SqL.of (e6 l _ l6), by cases waitsL st t <;> rfl⟩, q6 H6 (Ex.refl H6)⟩) (fun e => ?_) (fun e => ?_)) fun v H6 e6 p => q v H6 (x15.trans e6) p
    · have hne : waitsL st t ≠ [] := fun z => by rw [z] at e; cases e
      have hd : waitD st t = .int (maxL (waitsL st t)) := by
        unfold waitD
        cases hh : waitsL st t with
        | nil => exact absurd hh hne
        | cons x r => rfl
      rw [hd]
      refine ep_evI (ev_cb (ea_cons (ev_var rfl) ea_nil) fun H6 e6 Q6 q6 => ⟨l, waitsL st t, rfl, SqL.of (e6 _ _ l6), (by cases hh : waitsL st t with | nil => exact absurd hh hne | cons x r => simp), fun m hm hx => ?_⟩)
      have h1 := maxL_ge hm
      have h2 := hx _ (maxL_mem hne fun y hy => (bd y hy).1)
      rw [show m = maxL (waitsL st t) by omega]
      exact q6 H6 (Ex.refl H6)
    · have hd : waitD st t = .none := by
        unfold waitD
        cases hh : waitsL st t with
        | nil => rfl
        | cons x r => rw [hh] at e; cases e
      rw [hd]
      exact ep_non
end
end K36

namespace Pd
open PySem PySem.Spec PyProof.Rows L2 Evl
theorem PVs.perm {K : PySem.W.Frag} {H : Hp} {xs ys : List V} (p : xs.Perm ys) : ∀ {ds : List PyData}, PVs K H xs ds → ∃ es, PVs K H ys es ∧ es.Perm ds := by
  induction p with
  | nil => exact fun h => ⟨_, h, .refl _⟩
  | cons x _ ih =>
    intro ds h
    cases h with
    | cons a b =>
      obtain ⟨es, h1, h2⟩ := ih b
      exact ⟨_, .cons a h1, h2.cons _⟩
  | swap x y l =>
    intro ds h
    cases h with
    | cons a b => cases b with
      | cons c d => exact ⟨_, .cons c (.cons a d), .swap _ _ _⟩
  | trans _ _ ih1 ih2 =>
    intro ds h
    obtain ⟨es, h1, h2⟩ := ih1 h
    obtain ⟨fs, h3, h4⟩ := ih2 h1
    exact ⟨fs, h3, h4.trans h2⟩
theorem map_perm {α : Type} {f : α → PyData} : ∀ {l : List α} {es : List PyData}, es.Perm (l.map f) → ∃ m : List α, es = m.map f ∧ m.Perm l := by
  intro l es h
  suffices ∀ {es fs : List PyData}, es.Perm fs → ∀ l : List α, fs = l.map f → ∃ m : List α, es = m.map f ∧ m.Perm l from this h l rfl
  intro es fs h
  induction h with
  | nil => exact fun l e => ⟨l, e, .refl _⟩
  | cons x _ ih =>
    intro l e
    cases l with
    | nil => cases e
    | cons a l =>
      rw [List.map_cons] at e
      obtain ⟨e1, e2⟩ := List.cons.inj e
      obtain ⟨m, h1, h2⟩ := ih l e2
      exact ⟨a :: m, by rw [List.map_cons, ← h1, e1], h2.cons _⟩
  | swap x y l0 =>
    intro l e
    cases l with
    | nil => cases e
    | cons a l => cases l with
      | nil => cases (List.cons.inj e).2
      | cons b l =>
        rw [List.map_cons, List.map_cons] at e
        obtain ⟨e1, e2⟩ := List.cons.inj e
        obtain ⟨e2, e3⟩ := List.cons.inj e2
        exact ⟨b :: a :: l, by rw [List.map_cons, List.map_cons, ← e1, ← e2, ← e3], .swap _ _ _⟩
  | trans _ _ ih1 ih2 =>
    intro l e
    obtain ⟨m, h1, h2⟩ := ih2 l e
    obtain ⟨m2, h3, h4⟩ := ih1 m h1
    exact ⟨m2, h3, h4.trans h2⟩
end Pd
namespace K36
open PySem PySem.Spec PyProof.Rows L2 Evl Pd Gd
abbrev sHang : Stmt := topS 32
theorem scHang : FnScope ["steps", "found", "behind", "ahead", "wait"] ["steps"] (defScope sHang) := ⟨rfl, rfl, rfl, by decide +kernel, rfl, by decide +kernel, by decide +kernel⟩
abbrev Trip := Nat × Nat × Int
def tripD (t : Trip) : PyData := .tuple [natD t.1, natD t.2.1, .int t.2.2]
def hangAt (steps : List Stp) (i j : Nat) : List Trip := match steps[i]?, steps[j]? with
  | some s, some t => match waitsL s t with
    | [] => []
    | l => [(i, j, maxL l)]
  | _, _ => []
def hangRow (steps : List Stp) (j n : Nat) : List Trip := (List.range n).flatMap fun i => hangAt steps i j
def hangL (steps : List Stp) (n : Nat) : List Trip := (List.range n).flatMap fun j => hangRow steps j j
theorem hangRow_succ (steps : List Stp) (j n : Nat) : hangRow steps j (n + 1) = hangRow steps j n ++ hangAt steps n j := by
  unfold hangRow
  rw [List.range_succ, List.flatMap_append]
  simp
theorem hangL_succ (steps : List Stp) (n : Nat) : hangL steps (n + 1) = hangL steps n ++ hangRow steps n n := by
  unfold hangL
  rw [List.range_succ, List.flatMap_append]
  simp
theorem hangAt_len (steps : List Stp) (i j : Nat) : (hangAt steps i j).length ≤ 1 := by
  unfold hangAt
  split
  · split <;> simp
  · simp
theorem hangRow_len (steps : List Stp) (j : Nat) : ∀ n, (hangRow steps j n).length ≤ n
  | 0 => by simp [hangRow]
  | n + 1 => by
    rw [hangRow_succ, List.length_append]
    have := hangRow_len steps j n
    have := hangAt_len steps n j
    omega
theorem hangL_len (steps : List Stp) : ∀ n, n ≤ 9 → (hangL steps n).length ≤ 4 * n
  | 0, _ => by simp [hangL]
  | n + 1, h => by
    rw [hangL_succ, List.length_append]
    have h1 := hangL_len steps n (by omega)
    have h2 := hangRow_len steps n n
    by_cases e : n ≤ 4
    · omega
    · suffices ∀ m, m ≤ 9 → 2 * (hangL steps m).length ≤ m * (m - 1) by
        have := this (n + 1) h
        rw [hangL_succ, List.length_append] at this
        have : n = 5 ∨ n = 6 ∨ n = 7 ∨ n = 8 := by omega
        rcases this with rfl | rfl | rfl | rfl <;> omega
      intro m
      induction m with
      | zero => intro _; simp [hangL]
      | succ m ih =>
        intro hm
        rw [hangL_succ, List.length_append]
        have h3 := ih (by omega)
        have h4 := hangRow_len steps m m
        have : m = 0 ∨ m = 1 ∨ m = 2 ∨ m = 3 ∨ m = 4 ∨ m = 5 ∨ m = 6 ∨ m = 7 ∨ m = 8 := by omega
        rcases this with rfl | rfl | rfl | rfl | rfl | rfl | rfl | rfl | rfl <;> omega
theorem hangAt_bd {steps : List Stp} {i j : Nat} : ∀ t ∈ hangAt steps i j, t.1 = i ∧ t.2.1 = j ∧ 0 ≤ t.2.2 ∧ t.2.2 ≤ 4 := by
  intro t ht
  unfold hangAt at ht
  split at ht
  · rename_i s u _ _
    split at ht
    · cases ht
    · rename_i hne
      rw [List.mem_singleton] at ht
      subst ht
      have := waits_bd s u _ (maxL_mem (l := waitsL s u) (fun z => hne z) fun y hy => (waits_bd s u y hy).1)
      exact ⟨rfl, rfl, this.1, this.2⟩
  · cases ht
theorem hangL_mem {steps : List Stp} {n : Nat} {t : Trip} (h : t ∈ hangL steps n) : ∃ i j, i < j ∧ j < n ∧ t ∈ hangAt steps i j := by
  obtain ⟨j, hj, h⟩ := List.mem_flatMap.mp h
  obtain ⟨i, hi, h⟩ := List.mem_flatMap.mp h
  exact ⟨i, j, List.mem_range.mp hi, List.mem_range.mp hj, h⟩
theorem hangL_in {steps : List Stp} {n i j : Nat} (hi : i < j) (hj : j < n) {t : Trip} (h : t ∈ hangAt steps i j) : t ∈ hangL steps n :=
  List.mem_flatMap.mpr ⟨j, List.mem_range.mpr hj, List.mem_flatMap.mpr ⟨i, List.mem_range.mpr hi, h⟩⟩
/-- steps that do not stand among the pairs may change places -/
theorem free_hang {steps : List Stp} {k : Nat} {s t : Stp} (h1 : steps[k]? = some s) (h2 : steps[k + 1]? = some t) (h : ∀ p ∈ hangL steps steps.length, ¬ (p.1 = k ∧ p.2.1 = k + 1)) : Free s t := by
  refine free_of ?_
  cases hw : waitsL s t with
  | nil => rfl
  | cons x r =>
    have hk := (List.getElem?_eq_some_iff.mp h2).1
    refine absurd ⟨rfl, rfl⟩ (h (k, k + 1, maxL (waitsL s t)) (hangL_in (Nat.lt_succ_self k) hk ?_))
    unfold hangAt
    rw [h1, h2]
    dsimp only
    rw [hw]
    exact List.mem_singleton.mpr rfl
def spHang (K : PySem.W.Frag) : Sp := fun vs H Q _ => ∃ (v : V) (steps : List Stp), vs = [v] ∧ PV K H v (rowD steps) ∧ steps.length ≤ 9 ∧ ∀ (L : List Trip) u H', L.Perm (hangL steps steps.length) → Ex H H' → PV K H' u (.tuple (L.map tripD)) → Q u H'
section
variable {P : Program} {w : World} {K : PySem.W.Frag} {mg : Str → Option Value} {base : Heap}
theorem ok_hang {f fW : Addr} {fd fdW : FuncData} (F : Fun K "hang_pairs" "hang_pairs" sHang f fd)
    (GW : FnOk P w K mg base CX0 2 fW fdW ["ahead", "behind"] (spWait K)) (kW : PySem.W.keepIn K (.ref fW) = true) (bW : Binds K fdW ["ahead", "behind"] []) (gW : mg "wait_between" = some (.ref fW))
    (ml : mg "len" = none) (mr : mg "range" = none) (mt : mg "tuple" = none) (ms : mg "sorted" = none) : FnOk P w K mg base CX0 3 f fd ["steps"] (spHang K) := by
  refine F.ok scHang (fun vs H Q E h => ?_) (fun cdv A outer s H vs Q E hr h => ?_)
  · obtain ⟨v, steps, rfl, _⟩ := h
    rfl
  · obtain ⟨v, steps, rfl, pv1, hl, q⟩ := h
    refine ⟨_, pss_cons (ps_set (i := 1) scHang.nd rfl (.inl rfl) (pe_lst pa_nil))
      (pss_cons (ps_for PassesOwn.never rfl (pi_range1 rfl mr (pa_cons (pe_callB call_len_seq (by rfl) ml PySem.boot_len (pa_cons (pv 0) pa_nil)) pa_nil)) (pg_name (i := 2) scHang.nd rfl (.inl rfl))
        (pss_one (ps_for PassesOwn.never rfl (pi_range1 rfl mr (pa_cons (pv 2) pa_nil)) (pg_name (i := 3) scHang.nd rfl (.inl rfl))
          (pss_cons (ps_set (i := 4) scHang.nd rfl (.inl rfl) (pe_call GW hr (by rfl) gW kW bW .nil pass0 (pa_cons (pe_ix ix_tup (pv 0) (pv 3) (fun _ _ => rfl)) (pa_cons (pe_ix ix_tup (pv 0) (pv 2) (fun _ _ => rfl)) pa_nil))))
            (pss_one (ps_if (pt_cmpR op_notN (pv 4) pe_non (nomark _)) (pss_one (ps_expr (pe_bm PySem.F.plainAttrs_list PySem.F.slot_list_append PySem.F.type_list_append mt_append (pv 1) (pa_cons (pe_tup (pa_cons (pv 3) (pa_cons (pv 2) (pa_cons (pv 4) pa_nil)))) pa_nil)))) pss_nil))))))
      (pss_one (ps_ret (pe_tupleOf (by rfl) mt (pe_callB (cr_sortT (d := 3) (B := 100) (by decide)) (by rfl) ms (by decide +kernel) (pa_cons (pv 1) pa_nil)))))), ?_⟩
    refine q_asgPL (K := K) (el_tup eps_nil (by decide)) fun lf vs H1 hlf e1 hl1 pl => ?_
    cases pl
    have elen : steps.length = (steps.map Stp.d).length := by rw [List.length_map]
    refine q_forR1 (n := (steps.length : Int)) (ea_cons (by rw [elen]; exact ev_lenT (ep_var rfl (pv1.ex e1))) ea_nil) (by omega)
      (fun i σ' H' => ∃ y2 y3 y4 vs, σ' = [some v, some (.ref lf), y2, y3, y4] ∧ Ex H H' ∧ H' lf = some (.lst vs) ∧ PVs K H' vs ((hangL steps i).map tripD))
      (fun H2 e2 => ⟨none, none, none, [], rfl, e1.trans e2, e2 _ _ hl1, .nil⟩) ?_ ?_
    · rintro j σ' H' hj ⟨y2, y3, y4, vs, rfl, ex, hv, pv⟩
      have hj9 : j < steps.length := by omega
      obtain ⟨t, ht⟩ : ∃ t, steps[j]? = some t := ⟨_, List.getElem?_eq_getElem hj9⟩
      refine s_forR1 (n := (j : Int)) (ea_cons (ev_var rfl) ea_nil) (by omega)
        (fun i σ' H' => ∃ y3 y4 vs, σ' = [some v, some (.ref lf), some (.int (j : Int)), y3, y4] ∧ Ex H H' ∧ H' lf = some (.lst vs) ∧ PVs K H' vs ((hangL steps j ++ hangRow steps j i).map tripD))
        (fun H2 e2 => ⟨y3, y4, vs, rfl, ex.trans e2, e2 _ _ hv, by rw [show hangRow steps j 0 = [] from rfl, List.append_nil]; exact pv.ex e2⟩) ?_ ?_
      · rintro i σ' H' hi ⟨y3, y4, vs, rfl, ex, hv, pv⟩
        have hi9 : i < j := by omega
        obtain ⟨s, hs⟩ : ∃ s, steps[i]? = some s := ⟨_, List.getElem?_eq_getElem (by omega)⟩
        have hat : hangAt steps i j = match waitsL s t with
            | [] => []
            | l => [(i, j, maxL l)] := by
          unfold hangAt
          rw [hs, ht]
        have hlen : vs.length < 100000 := by
          have h1 := pv.length
          rw [List.length_map, List.length_append] at h1
          have h2 := hangL_len steps j (by omega)
          have h3 := hangRow_len steps j i
          omega
        refine q_asgP (d := waitD s t) (ep_call (eps_cons (ep_ixT (i := i) (ep_var rfl (pv1.ex ex)) (ev_var rfl) (by rw [List.getElem?_map, hs]; rfl)) (eps_cons (ep_ixT (i := j) (ep_var rfl (pv1.ex ex)) (ev_var rfl) (by rw [List.getElem?_map, ht]; rfl)) eps_nil)) ⟨s, t, rfl, rfl⟩) fun w4 H2 e2 p4 => ?_
        refine s_when (et_test (et_notN (ep_var rfl p4))) (fun e H3 e3 => ?_) (fun e H3 e3 => ?_)
        · have hne : waitsL s t ≠ [] := fun z => by
            unfold waitD at e
            rw [z] at e
            cases e
          have hd : waitD s t = .int (maxL (waitsL s t)) := by
            unfold waitD
            cases hh : waitsL s t with
            | nil => exact absurd hh hne
            | cons x r => rfl
          have hat2 : hangAt steps i j = [(i, j, maxL (waitsL s t))] := by
            rw [hat]
            cases hh : waitsL s t with
            | nil => exact absurd hh hne
            | cons x r => rfl
          rw [hd] at p4
          have e23 := e2.trans e3
          refine s_appF (d := tripD (i, j, maxL (waitsL s t))) (e23 _ _ hv) (ev_var rfl) (ep_tup (eps_cons (ep_ev (ev_var rfl) (.int _)) (eps_cons (ep_ev (ev_var rfl) (.int _)) (eps_cons (ep_var rfl (p4.ex e3)) eps_nil))) (by simp)) hlen fun u H4 e4 pu => ?_
          have e24 := e23.trans e4
          have hlf2 : H4 lf = some (.lst vs) := e24 _ _ hv
          refine ⟨_, _, vs ++ [u], rfl, Ex.mut (ex.trans e24) hlf, upd_same, ?_⟩
          rw [hangRow_succ, hat2, ← List.append_assoc, List.map_append]
          exact ((pv.ex e24).append (PVs.one pu)).tx (Tx.updL hlf2)
        · have hnil : waitsL s t = [] := by
            cases hh : waitsL s t with
            | nil => rfl
            | cons x r =>
              unfold waitD at e
              rw [hh] at e
              cases e
          refine ⟨_, _, vs, rfl, ex.trans (e2.trans e3), (e2.trans e3) _ _ hv, ?_⟩
          rw [hangRow_succ, hat, hnil]
          show PVs K H3 vs ((hangL steps j ++ (hangRow steps j i ++ [])).map tripD)
          rw [List.append_nil]
          exact pv.ex (e2.trans e3)
      · rintro σ' H' ⟨y3, y4, vs, rfl, ex, hv, pv⟩
        refine ⟨_, _, _, vs, rfl, ex, hv, ?_⟩
        rw [hangL_succ]
        exact pv
    · rintro σ' H' ⟨y2, y3, y4, vs, rfl, ex, hv, pv⟩
      have hv1 := pv.length
      rw [List.length_map] at hv1
      have h2 := hangL_len steps steps.length hl
      have e0 : ((steps.length : Int)).toNat = steps.length := rfl
      rw [e0] at hv1 pv
      refine ⟨.ref lf, rfl, lf, vs, rfl, SqL.of hv, by omega, fun x hx => ?_, fun ys p hp _ hpn => .inl ⟨p, ys, rfl, SqL.of upd_same, fun c hc => ?_⟩⟩
      · obtain ⟨i, hi⟩ := List.mem_iff_getElem?.mp hx
        obtain ⟨d, hd, px⟩ := pv.get hi
        obtain ⟨tr, htr, rfl⟩ := map_at hd
        obtain ⟨i', j', h1, h2', h3⟩ := hangL_mem (List.mem_of_getElem? htr)
        obtain ⟨b1, b2, b3, b4⟩ := hangAt_bd _ h3
        obtain ⟨a, xs, rfl, hx', px'⟩ := pv_tup px
        have hxs : xs = [Int.ofNat tr.1, Int.ofNat tr.2.1, tr.2.2].map V.int := PVs.of_ints (ns := [Int.ofNat tr.1, Int.ofNat tr.2.1, tr.2.2]) px'
        refine ⟨_, ⟨a, rfl, by rw [← hxs]; exact hx'.sq⟩, rfl, fun m hm => ?_⟩
        simp only [List.mem_cons, List.not_mem_nil, or_false] at hm
        rcases hm with rfl | rfl | rfl
        · show 0 ≤ (tr.1 : Int) ∧ (tr.1 : Int) < 100
          omega
        · show 0 ≤ (tr.2.1 : Int) ∧ (tr.2.1 : Int) < 100
          omega
        · omega
      · have e3 : Ex H' (upd (upd H' p (.lst ys)) c (.tup ys)) := (Ex.new hpn).trans (Ex.new hc)
        obtain ⟨es, h1, h2⟩ := PVs.perm hp.symm (pv.ex e3)
        obtain ⟨m, rfl, hm⟩ := map_perm h2
        exact q m _ _ hm (ex.trans e3) (.tup (.inl upd_same) h1)
end
end K36

/-! Dicts as sets: keys texts or numbers, each with True. -/
namespace Gd
open PySem PySem.Spec PyProof.Rows L2 Evl Pd
instance decMemKey (k : Key) (L : List Key) : Decidable (k ∈ L) := decidable_of_iff ((L.any fun x => decide (x = k)) = true) (by simp)
def wo (M : List Key) (k : Key) : List Key := M.filter fun x => !decide (x = k)
theorem wo_mem {M : List Key} {k x : Key} : x ∈ wo M k ↔ x ∈ M ∧ ¬ x = k := by simp [wo]
theorem wo_len {M : List Key} {k : Key} (h : k ∈ M) : (wo M k).length < M.length := List.length_filter_lt_length_iff_exists.mpr ⟨k, h, by simp⟩
def setK (L : List Key) : List (Key × V) := L.map fun k => (k, V.bl true)
def kdS (L : List Key) : KD := L.map fun k => (k, PyData.bool true)
def addK (L : List Key) (k : Key) : List Key := if k ∈ L then L else L ++ [k]
def uniK (L M : List Key) : List Key := M.foldl addK L
theorem setK_len (L : List Key) : (setK L).length = L.length := by simp [setK]
theorem any_setK (k : Key) (L : List Key) : ((setK L).any fun kv => decide (kv.1 = k)) = decide (k ∈ L) := by
  unfold setK
  rw [List.any_map, Bool.eq_iff_iff, List.any_eq_true, decide_eq_true_iff]
  exact ⟨fun ⟨x, h1, h2⟩ => by
    have h3 : x = k := of_decide_eq_true h2
    rw [← h3]
    exact h1, fun h => ⟨k, h, decide_eq_true rfl⟩⟩
theorem putK_set (L : List Key) (k : Key) : putK (setK L) k (.bl true) = setK (addK L k) := by
  unfold putK addK
  rw [any_setK]
  by_cases h : k ∈ L
  · rw [if_pos (decide_eq_true h), if_pos h]
    unfold setK
    rw [List.map_map]
    refine List.map_congr_left fun x _ => ?_
    show (if x = k then _ else _) = _
    split <;> rfl
  · rw [if_neg (by rw [decide_eq_false h]; decide), if_neg h]
    unfold setK
    rw [List.map_append]
    rfl
theorem mergeK_set : ∀ (M L : List Key), mergeK (setK L) (setK M) = setK (uniK L M)
  | [], _ => rfl
  | k :: M, L => by
    show mergeK (putK (setK L) k (.bl true)) (setK M) = _
    rw [putK_set, mergeK_set M]
    rfl
theorem mem_addK {L : List Key} {k x : Key} : x ∈ addK L k ↔ x ∈ L ∨ x = k := by
  unfold addK
  by_cases h : k ∈ L
  · rw [if_pos h]
    exact ⟨.inl, fun z => z.elim id fun e => e ▸ h⟩
  · rw [if_neg h]
    simp
theorem mem_uniK {x : Key} : ∀ {M L : List Key}, x ∈ uniK L M ↔ x ∈ L ∨ x ∈ M
  | [], L => by simp [uniK]
  | k :: M, L => by
    show x ∈ uniK (addK L k) M ↔ _
    rw [mem_uniK (M := M), mem_addK, List.mem_cons]
    exact or_assoc
theorem nodup_addK {L : List Key} {k : Key} (h : L.Nodup) : (addK L k).Nodup := by
  unfold addK
  by_cases hk : k ∈ L
  · rw [if_pos hk]
    exact h
  · rw [if_neg hk]
    exact List.nodup_append.mpr ⟨h, List.nodup_cons.mpr ⟨List.not_mem_nil, List.nodup_nil⟩, fun a ha b hb e => by
      rw [List.mem_singleton.mp hb] at e
      exact hk (e ▸ ha)⟩
theorem nodup_uniK : ∀ {M L : List Key}, L.Nodup → (uniK L M).Nodup
  | [], _, h => h
  | _ :: M, _, h => nodup_uniK (M := M) (nodup_addK h)
theorem uniK_snoc (L M : List Key) (k : Key) : uniK L (M ++ [k]) = addK (uniK L M) k := by
  unfold uniK
  rw [List.foldl_append]
  rfl
theorem addK_len (L : List Key) (k : Key) : (addK L k).length ≤ L.length + 1 := by
  unfold addK
  split <;> simp
theorem uniK_len : ∀ (M L : List Key), (uniK L M).length ≤ L.length + M.length
  | [], L => by simp [uniK]
  | k :: M, L => by
    have h1 := uniK_len M (addK L k)
    have h2 := addK_len L k
    show (uniK (addK L k) M).length ≤ _
    rw [List.length_cons]
    omega
theorem valV_setK (k : Key) (L : List Key) : valV (setK L) k = if k ∈ L then some (.bl true) else none := by
  induction L with
  | nil => rfl
  | cons x L ih =>
    show valV ((x, V.bl true) :: setK L) k = _
    by_cases h : x = k
    · rw [valV_pos (p := (x, V.bl true)) h, if_pos (by rw [h]; exact List.mem_cons_self)]
    · rw [valV_neg (p := (x, V.bl true)) h, ih]
      by_cases h2 : k ∈ L
      · rw [if_pos h2, if_pos (List.mem_cons_of_mem _ h2)]
      · rw [if_neg h2, if_neg fun z => (List.mem_cons.mp z).elim (fun e => h e.symm) h2]
theorem valD_kdS (k : Key) (L : List Key) : valD (kdS L) k = if k ∈ L then some (.bool true) else none := by
  induction L with
  | nil => rfl
  | cons x L ih =>
    show valD ((x, PyData.bool true) :: kdS L) k = _
    rw [valD_cons, ih]
    by_cases h : x = k
    · rw [if_pos h, if_pos (by rw [h]; exact List.mem_cons_self)]
    · rw [if_neg h]
      by_cases h2 : k ∈ L
      · rw [if_pos h2, if_pos (List.mem_cons_of_mem _ h2)]
      · rw [if_neg h2, if_neg fun z => (List.mem_cons.mp z).elim (fun e => h e.symm) h2]
/-- a dict that is a set -/
structure SetAt (H : Hp) (a : Addr) (L : List Key) : Prop where
  at_ : H a = some (.dK (setK L))
  nd : L.Nodup
theorem SetAt.ex {H H' : Hp} {a : Addr} {L : List Key} (h : SetAt H a L) (e : Ex H H') : SetAt H' a L := ⟨e _ _ h.at_, h.nd⟩
theorem kdat_set {K : PySem.W.Frag} {H : Hp} : ∀ L : List Key, KDat K H (setK L) (kdS L)
  | [] => trivial
  | _ :: L => ⟨rfl, .bl true, kdat_set L⟩
theorem SetAt.d {K : PySem.W.Frag} {H : Hp} {a : Addr} {L : List Key} (h : SetAt H a L) : DAt K H a (kdS L) := ⟨_, h.at_, kdat_set L⟩
theorem kdS_shaped (L : List Key) : ∀ p ∈ kdS L, SeqAt.shaped p.2 = true := fun p hp => by
  obtain ⟨k, _, rfl⟩ := List.mem_map.mp hp
  show SeqAt.shaped (.bool true) = true
  decide +kernel
theorem nodup_sub_len : ∀ {L M : List Key}, L.Nodup → (∀ k ∈ L, k ∈ M) → L.length ≤ M.length
  | [], _, _, _ => Nat.zero_le _
  | a :: L, M, hn, h => by
    obtain ⟨h1, h2⟩ := List.nodup_cons.mp hn
    have hm : a ∈ M := h a List.mem_cons_self
    have := nodup_sub_len (M := wo M a) h2 fun k hk => wo_mem.mpr ⟨h k (List.mem_cons_of_mem _ hk), fun z => h1 (z ▸ hk)⟩
    have := wo_len hm
    rw [List.length_cons]
    omega
theorem nodup_sub_eq {L M : List Key} (hM : M.Nodup) (h : ∀ k ∈ L, k ∈ M) (hl : M.length ≤ L.length) (hL : L.Nodup) : ∀ k ∈ M, k ∈ L := fun k hk => by
  by_cases hc : k ∈ L
  · exact hc
  · have := nodup_sub_len (L := L) (M := wo M k) hL fun x hx => wo_mem.mpr ⟨h x hx, fun z => hc (z ▸ hx)⟩
    have := wo_len hk
    omega
/-- whether two sets are one -/
theorem eqKD_set {L M : List Key} (hL : L.Nodup) (hM : M.Nodup) : eqKD (kdS L) (kdS M) = true ↔ ∀ k, k ∈ L ↔ k ∈ M := by
  have hall : eqKD (kdS L) (kdS M) = (((kdS L).length == (kdS M).length) && L.all fun k => decide (k ∈ M)) := by
    unfold eqKD
    congr 1
    rw [show kdS L = L.map fun k => (k, PyData.bool true) from rfl, List.all_map]
    congr 1
    funext k
    simp only [Function.comp]
    rw [valD_kdS]
    by_cases h : k ∈ M
    · rw [if_pos h, decide_eq_true h]
      decide +kernel
    · rw [if_neg h, decide_eq_false h]
  have hlen : ((kdS L).length == (kdS M).length) = decide (L.length = M.length) := by simp [kdS]; rfl
  rw [hall, hlen, Bool.and_eq_true, decide_eq_true_iff, List.all_eq_true]
  constructor
  · rintro ⟨h1, h2⟩ k
    have h2' : ∀ k ∈ L, k ∈ M := fun k hk => of_decide_eq_true (h2 k hk)
    exact ⟨h2' k, nodup_sub_eq hM h2' (by omega) hL k⟩
  · intro h
    have l1 := nodup_sub_len hL fun k hk => (h k).mp hk
    have l2 := nodup_sub_len hM fun k hk => (h k).mpr hk
    exact ⟨by omega, fun k hk => decide_eq_true ((h k).mp hk)⟩
/-! ### what evaluates to a new set -/
def EvS (te : TE) (σ : L2.St) (H : Hp) (L : List Key) : Prop := ∀ H1, Ex H H1 → ∀ Q : VK, (∀ p H2, H1 p = none → Ex H1 H2 → SetAt H2 p L → Q (.ref p) H2) → te σ H1 Q
section
variable {K : PySem.W.Frag} {H H' : Hp} {σ : L2.St} {D : Ends} {tz : L2.TS} {ta tb te : TE}
theorem EvS.mono {L : List Key} (h : EvS te σ H L) (e : Ex H H') : EvS te σ H' L := fun H1 a Q q => h H1 (e.trans a) Q q
theorem es_new : EvS tDNewK σ H [] := fun H1 e Q q d hd => q d _ hd (Ex.new hd) ⟨upd_same, List.nodup_nil⟩
theorem s_asgS {i : Nat} {L : List Key} (h : EvS te σ H L) (k : ∀ p H1, H p = none → Ex H H1 → SetAt H1 p L → D.nx (σ.set i (some (.ref p))) H1) : tAsg te (gName i) D σ H := h H (Ex.refl H) _ k
theorem q_asgS {i : Nat} {L : List Key} (h : EvS te σ H L) (k : ∀ p H1, H p = none → Ex H H1 → SetAt H1 p L → tz D (σ.set i (some (.ref p))) H1) : tSeq (tAsg te (gName i)) tz D σ H := s_asgS (D := { D with nx := tz D }) h k
theorem s_retS {L : List Key} (h : EvS te σ H L) (k : ∀ p H1, H p = none → Ex H H1 → SetAt H1 p L → D.rt (.ref p) H1) : tRet te D σ H := h H (Ex.refl H) _ k
/-- dict(d) -/
def rDictD : List V → Hp → VK → Prop := fun xs H Q => ∃ (a : Addr) (kvs : List (Key × V)), xs = [.ref a] ∧ Rd H a (.dK kvs) ∧ ∀ p, H p = none → Q (.ref p) (upd H p (.dK kvs))
theorem es_copy {a : Addr} {L : List Key} (h : Ev te σ H (.ref a)) (hs : SetAt H a L) : EvS (tCB rDictD (tCons te tNil)) σ H L := fun H1 e Q q =>
  h H1 e _ fun H2 e2 => ⟨a, _, rfl, .inl (e2 _ _ (e _ _ hs.at_)), fun p hp => q p _ (fresh_back e2 hp) (e2.trans (Ex.new hp)) ⟨upd_same, hs.nd⟩⟩
/-- d.update(a new set) -/
theorem s_updS {a : Addr} {L M : List Key} (hs : SetAt H a L) (ha : Ev ta σ H (.ref a)) (h : EvS te σ H M) (hz : L.length + M.length ≤ 100000) (k : ∀ H1, Ex H H1 → SetAt (upd H1 a (.dK (setK (uniK L M)))) a (uniK L M) → D.nx σ (upd H1 a (.dK (setK (uniK L M))))) :
    tDrop (tBM K "dict" rUpd ta (tCons te tNil)) D σ H := ha H (Ex.refl H) _ fun H1 e1 =>
  ⟨.inr (.inr (.inl ⟨rfl, .inl ⟨_, e1 _ _ hs.at_⟩⟩)), h H1 e1 _ fun p H2 hp e2 h2 => ⟨a, p, setK L, setK M, rfl, rfl, ne_of_none (e1 _ _ hs.at_) hp, e2 _ _ (e1 _ _ hs.at_), h2.at_, by rw [setK_len, setK_len]; exact sz_of hz, by
    rw [mergeK_set]
    exact k H2 (e1.trans e2) ⟨upd_same, nodup_uniK hs.nd⟩⟩⟩
theorem q_updS {a : Addr} {L M : List Key} (hs : SetAt H a L) (ha : Ev ta σ H (.ref a)) (h : EvS te σ H M) (hz : L.length + M.length ≤ 100000) (k : ∀ H1, Ex H H1 → SetAt (upd H1 a (.dK (setK (uniK L M)))) a (uniK L M) → tz D σ (upd H1 a (.dK (setK (uniK L M))))) :
    tSeq (tDrop (tBM K "dict" rUpd ta (tCons te tNil))) tz D σ H := s_updS (D := { D with nx := tz D }) hs ha h hz k
/-- d[k] = True -/
theorem s_addS {a : Addr} {L : List Key} {ty : TE} {k : Key} (hs : SetAt H a L) (ha : ∀ H1, Ex H H1 → Ev ta σ H1 (.ref a)) (hy : ∀ H1, Ex H H1 → Ev ty σ H1 (kV k)) (hl : L.length < 100000) (q : ∀ H1, Ex H H1 → SetAt (upd H1 a (.dK (setK (addK L k)))) a (addK L k) → D.nx σ (upd H1 a (.dK (setK (addK L k))))) : sDPut ta ty (tC (.bl true)) D σ H :=
  ha H (Ex.refl H) H (Ex.refl H) _ fun H2 e2 => hy H2 e2 H2 (Ex.refl H2) _ fun H3 e3 =>
    ⟨a, upd H3 a (.dK (putK (setK L) k (.bl true))), rfl, by
      have h1 : H3 a = some (.dK (setK L)) := (e2.trans e3) _ _ hs.at_
      cases k with
      | inl i => exact DPut.k (k := (Sum.inl i : Key)) h1 (by rw [setK_len]; exact sz_lt hl)
      | inr x => exact DPut.k (k := (Sum.inr x : Key)) h1 (by rw [setK_len]; exact sz_lt hl), by
      rw [putK_set]
      exact q H3 (e2.trans e3) ⟨upd_same, nodup_addK hs.nd⟩⟩
/-- two sets compared -/
theorem et_neS {a b : Addr} {L M : List Key} (ha : Ev ta σ H (.ref a)) (hb : Ev tb σ H (.ref b)) (h1 : SetAt H a L) (h2 : SetAt H b M) : Ev (tOp (rNeKD K) ta tb) σ H (.bl (!eqKD (kdS L) (kdS M))) := fun H1 e Q q =>
  ha H1 e _ fun H2 e2 => hb H2 (e.trans e2) _ fun H3 e3 => ⟨a, b, _, _, rfl, rfl, (h1.ex ((e.trans e2).trans e3)).d, (h2.ex ((e.trans e2).trans e3)).d, kdS_shaped L, kdS_shaped M, q H3 (e2.trans e3)⟩
/-! ### comprehensions -/
def Cs (H : Hp) (L : List Key) (P : Nat → Bool) (ks : Nat → Key) (Dl : Addr) (i : Nat) (H' : Hp) : Prop := H Dl = none ∧ Ex H H' ∧ SetAt H' Dl (uniK L (((List.range i).filter P).map ks))
theorem cs0 {P : Nat → Bool} {ks : Nat → Key} {Dl : Addr} (h : H Dl = none) : Cs H [] P ks Dl 0 (upd H Dl (.dK [])) := ⟨h, Ex.new h, upd_same, List.nodup_nil⟩
theorem cs_turn {P : Nat → Bool} {ks : Nat → Key} {Dl : Addr} {i : Nat} {t : TT} {tk : TE} {σ2 : L2.St} (p : Cs H [] P ks Dl i H') (hi : i < 50000) (ht : EvT t σ2 H' (P i)) (hk : P i = true → ∀ H3, Ex H' H3 → Ev tk σ2 H3 (kV (ks i))) :
    t σ2 H' fun b H3 => if b = true then tk σ2 H3 fun y H4 => tC (.bl true) σ2 H4 fun z H5 => ∃ kvs k, y = kV k ∧ H5 Dl = some (.dK kvs) ∧ kvs.length < sizeLine ∧ Cs H [] P ks Dl (i + 1) (upd H5 Dl (.dK (putK kvs k z))) else Cs H [] P ks Dl (i + 1) H3 := by
  obtain ⟨p1, p2, p3⟩ := p
  refine ht H' (Ex.refl H') _ fun H3 e3 => ?_
  cases hf : P i with
  | true =>
    show tk σ2 H3 fun y H4 => tC (.bl true) σ2 H4 fun z H5 => ∃ kvs k, y = kV k ∧ H5 Dl = some (.dK kvs) ∧ kvs.length < sizeLine ∧ Cs H [] P ks Dl (i + 1) (upd H5 Dl (.dK (putK kvs k z)))
    refine hk hf H3 e3 H3 (Ex.refl H3) _ fun H4 e4 => ⟨_, ks i, rfl, e4 _ _ (e3 _ _ p3.at_), ?_, p1, Ex.mut ((p2.trans e3).trans e4) p1, ?_⟩
    · rw [setK_len]
      have h1 := uniK_len (((List.range i).filter P).map ks) []
      have h2 := List.length_filter_le P (List.range i)
      rw [List.length_map] at h1
      rw [List.length_range] at h2
      exact sz_lt (by simp only [List.length_nil] at h1; omega)
    · rw [List.range_succ, List.filter_append, List.map_append, putK_set]
      have : ((List.filter P [i]).map ks) = [ks i] := by simp [hf]
      rw [this, uniK_snoc]
      exact ⟨upd_same, nodup_addK p3.nd⟩
  | false =>
    show Cs H [] P ks Dl (i + 1) H3
    refine ⟨p1, p2.trans e3, ?_⟩
    rw [List.range_succ, List.filter_append, List.map_append]
    have : ((List.filter P [i]).map ks) = [] := by simp [hf]
    rw [this, List.append_nil]
    exact p3.ex e3
def keyAt (L : List Key) (i : Nat) : Key := L.getD i (.inl 0)
theorem range_keys (P : Key → Bool) (L : List Key) : ((List.range L.length).filter fun i => P (keyAt L i)).map (keyAt L) = L.filter P := by
  have h : (List.range L.length).map (keyAt L) = L := by
    refine List.ext_getElem (by simp) fun i h1 h2 => ?_
    simp [keyAt, h2]
  conv => rhs; rw [← h, List.filter_map]
  rfl
/-- all but one thing stay -/
def Exo (a : Addr) (H H' : Hp) : Prop := ∀ b o, H b = some o → b ≠ a → H' b = some o
theorem Exo.tx {H H' : Hp} {a : Addr} {ks : List (Key × V)} (e : Exo a H H') (ha : H a = some (.dK ks)) : Tx H H' := fun b xs h => e b _ h fun z => by
  rw [z, ha] at h
  cases h
theorem exo_of {H H' : Hp} {a : Addr} (e : Ex H H') : Exo a H H' := fun b o h _ => e b o h
theorem Exo.trans {H H' H2 : Hp} {a : Addr} (e : Exo a H H') (f : Exo a H' H2) : Exo a H H2 := fun b o h n => f b o (e b o h n) n
theorem Exo.upd {H : Hp} {a : Addr} {o : HO} : Exo a H (upd H a o) := fun b u h n => by rw [upd_ne n]; exact h
/-- {k: True for k in d if ..}, d a set -/
theorem es_keys {a : Addr} {A : List Key} {j : Nat} {vs : List Nat} {tl : TE} {t : TT} (P : Key → Bool) (h : ∀ H1, Ev tl σ H1 (.ref a)) (hs : SetAt H a A) (hz : A.length ≤ 40000) (hj : j < (wipe σ vs).length) (hw : ∀ x, wipe ((wipe σ vs).set j (some x)) vs = wipe σ vs)
    (ht : ∀ (k : Key) H1, Exo a H H1 → k ∈ A → EvT t ((wipe σ vs).set j (some (kV k))) H1 (P k)) : EvS (tLockE (tDc (iKeys tl) (gName j) t (tVar j) (tC (.bl true)) vs)) σ H (uniK [] (A.filter P)) := fun H1 e Q q => by
  have ha := e _ _ hs.at_
  refine ⟨a, _, ha, True.intro, fun od => ?_⟩
  refine h _ _ (Ex.refl _) _ fun H2 e2 => ⟨a, od, rfl, .inl ⟨_, e2 _ _ upd_same, fun Dl hD => ?_⟩⟩
  have hfr : H2 a = some (.frz od (.dK (setK A))) := e2 _ _ upd_same
  refine ⟨fun i m H' => m = A.length - i ∧ i ≤ A.length ∧ Cs H2 [] (fun i => P (keyAt A i)) (keyAt A) Dl i H', ⟨A.length, by simp, Nat.zero_le _, cs0 hD⟩, ?_⟩
  rintro i m H' ⟨rfl, hi, p⟩
  have hfr' : H' a = some (.frz od (.dK (setK A))) := p.2.1 _ _ hfr
  by_cases hlt : i < A.length
  · refine .inr ⟨⟨hfr', by rw [setK_len]; exact hlt⟩, Cs H2 [] (fun i => P (keyAt A i)) (keyAt A) Dl (i + 1), fun H3 p' => ⟨A.length - (i + 1), by omega, rfl, hlt, p'⟩, ?_⟩
    rintro x H3 ⟨rfl, k, v, hk, rfl⟩
    have hka : keyAt A i = k := by
      unfold setK at hk
      rw [List.getElem?_map, List.getElem?_eq_getElem hlt] at hk
      simp only [Option.map_some, Option.some.injEq, Prod.mk.injEq] at hk
      unfold keyAt
      simp [hlt, hk.1]
    have hkm : k ∈ A := by
      rw [← hka]
      unfold keyAt
      simp [hlt]
    refine ⟨hw _, ?_⟩
    have tx : Exo a H H3 := (exo_of e).trans (Exo.upd.trans ((exo_of e2).trans (exo_of p.2.1)))
    exact cs_turn p (by omega) (by rw [hka]; exact ht k _ tx hkm) fun _ H4 e4 => by
      rw [hka]
      exact ev_var (by simp [hj])
  · have ei : i = A.length := by omega
    subst ei
    refine .inl ⟨⟨hfr', by rw [setK_len]; exact Nat.le_refl _⟩, hfr', ?_⟩
    obtain ⟨p1, p2, p3⟩ := p
    rw [range_keys] at p3
    have hne : Dl ≠ a := fun z => by
      rw [z, hfr] at hD
      cases hD
    have hD1 : H1 Dl = none := by
      cases hh : H1 Dl with
      | none => rfl
      | some o =>
        have := e2 Dl o (by rw [upd_ne hne]; exact hh)
        rw [hD] at this
        cases this
    refine q Dl _ hD1 (fun b o hb => ?_) ⟨by rw [upd_ne hne]; exact p3.at_, p3.nd⟩
    by_cases hba : b = a
    · subst hba
      rw [ha] at hb
      cases hb
      exact upd_same
    · rw [upd_ne hba]
      exact p2 _ _ (e2 _ _ (by rw [upd_ne hba]; exact hb))
/-- {k: True for k in t if ..}, t a tuple of data: KF its keys -/
theorem es_tup {ds : List PyData} {j : Nat} {vs : List Nat} {tl : TE} {t : TT} (P : Nat → Bool) (ks : Nat → Key) (h : EvP K tl σ H (.tuple ds)) (hz : ds.length ≤ 40000) (hj : j < (wipe σ vs).length) (hw : ∀ x, wipe ((wipe σ vs).set j (some x)) vs = wipe σ vs)
    (ht : ∀ (i : Nat) (x : V) (d : PyData) H1, Ex H H1 → ds[i]? = some d → PV K H1 x d → EvT t ((wipe σ vs).set j (some x)) H1 (P i) ∧ (P i = true → x = kV (ks i))) : EvS (tDc (iTup K tl) (gName j) t (tVar j) (tC (.bl true)) vs) σ H (uniK [] (((List.range ds.length).filter P).map ks)) := fun H0 e Q q => h H0 e _ fun v H1 e1 pv => by
  obtain ⟨a, xs, rfl, hx, px⟩ := pv_tup pv
  have hl := px.length
  refine ⟨a, rfl, ⟨xs, hx.sq⟩, fun Dl hD => dc_tup (xs := xs) (Cs H1 [] P ks Dl) (cs0 hD) (fun i H' _ p => (hx.tx (tx_of p.2.1)).sq) (fun i x H' hi p => ?_) (fun H' p => ?_)⟩
  · obtain ⟨c, hc, pc⟩ := px.get hi
    refine ⟨hw _, ?_⟩
    obtain ⟨t1, t2⟩ := ht i x c H' ((e.trans e1).trans p.2.1) hc (pc.ex p.2.1)
    exact cs_turn p (by have := (List.getElem?_eq_some_iff.mp hi).1; omega) t1 fun hp H4 e4 => by
      rw [← t2 hp]
      exact ev_var (by simp [hj])
  · obtain ⟨p1, p2, p3⟩ := p
    rw [hl] at p3
    exact q Dl H' (fresh_back e1 p1) (e1.trans p2) p3
end
end Gd

/-! y = {k: v for ..} as a statement of its own. -/
namespace Gd
open PySem PySem.Spec PyProof.Rows L2 Evl Pd
section
variable {X : Cx}
theorem ps_setDc {i : Nat} {y : Str} {py : Pos} {kx vx tg iter : Expr} {ifs : List Expr} {scope : Scope} {own : List (Str × Nat)} {pos spos : Pos} {wi : TI} {g : TG} {tt : TT} {tk tv : TE} (hc : X.calm = true) (hN : X.N.Nodup) (hy : X.N[i]? = some y) (hyl : X.env.scope.names.lookup y = some .local)
    (hsw : swapsWith (.DictComp kx vx [⟨tg, iter, ifs, 0⟩] scope pos) (some (.Name y py)) spos.line X.env = pure true) (hi : PI X tg iter wi) (ok : BlkOk X.N X.env.scope scope own)
    (hg : ∀ (s : Shared) (H : Hp) (C : Addr) (cl : List (Str × Addr)) (fp : List Addr), PG (X.blk s H scope (compEnvC scope cl C X.env) fp) tg g) (ht : ∀ (s : Shared) (H : Hp) (C : Addr) (cl : List (Str × Addr)) (fp : List Addr), PTs (X.blk s H scope (compEnvC scope cl C X.env) fp) ifs tt)
    (hk : ∀ (s : Shared) (H : Hp) (C : Addr) (cl : List (Str × Addr)) (fp : List Addr), PE (X.blk s H scope (compEnvC scope cl C X.env) fp) kx tk)
    (he : ∀ (s : Shared) (H : Hp) (C : Addr) (cl : List (Str × Addr)) (fp : List Addr), PE (X.blk s H scope (compEnvC scope cl C X.env) fp) vx tv) (hs : ∀ x, foldedSetIterable iter X.env x = pure x := by intro _; rfl) :
    PS X (.Assign [.Name y py] (.DictComp kx vx [⟨tg, iter, ifs, 0⟩] scope pos) spos) (tAsg (tDc wi g tt tk tv (own.map (·.2))) (gName i)) := by
  refine ⟨fun pins s σ H D I h => ?_⟩
  rw [exec_Assign_Name_used _ _ _ _ hsw]
  refine wpAny_bind (wpAny_standAt (wpAny_bind ?_))
  show wpAny _ X.A (do let _ ← comprehension (.DictComp kx vx [⟨tg, iter, ifs, 0⟩] scope pos) scope X.env (firstIterPos [⟨tg, iter, ifs, 0⟩] pos) newDict false (eval iter X.env) (some (assign (.Name y py) X.env))) _ _ s
  have h : tDc wi g tt tk tv (own.map (·.2)) σ H (fun x H1 => gName i x σ H1 D.nx) := h
  refine wpAny_bind (thn (dc_core (Qf := fun _ s' => SP X pins D .next s') hc hN I hi ok hg ht hk he hs h fun L C s' m H' I' q hn f => ?_) fun _ s' hq => wpAny_pure (wpAny_pure hq))
  show wpAny _ _ (assign (.Name y py) X.env (.ref L)) _ _ _
  refine wpAny_assign_Name (store_ok2 (v := V.ref L) I' hN hy (.inl hyl) rfl (fun s2 I2 ⟨a, sb, ha⟩ => ?_) (.inr hyl))
  obtain ⟨f0, f1, f2, f3, f4, f5⟩ := f
  have haC : C ≠ a := by
    rcases ha with z | z
    · rw [z]; exact f1
    · exact fun e => f4 y a z e.symm
  refine ⟨m, hn.sameBut sb haC, fun h3 sb3 => ?_⟩
  exact ⟨_, H', I2.turned (t' := s2.toks) (fun b o hb e => (sb3.2 b hb).trans e) f0 f1 f3 f4 f5, q⟩
theorem swd_true {kx vx : Expr} {gs : List Comprehension} {scope : Scope} {pos py : Pos} {y : Str} {l : Nat} {env : Env} (hk : env.scope.kind = .function) (hy : env.scope.names.lookup y = some .local) (hl : (py.line == pos.line) = true)
    (ha : (scope.names.any fun (n, k) => n == y && (k == .local || k == .cell)) = false) : swapsWith (.DictComp kx vx gs scope pos) (some (.Name y py)) l env = pure true := by
  have ky : env.kindOf y = some .local := hy
  have hb : env.blockKind = .function := by unfold Env.blockKind; rw [hk]; rfl
  unfold swapsWith
  simp only [hb, ky, ha, Expr.pos, hl]
  rfl
end
section
variable {K : PySem.W.Frag} {H H' : Hp} {σ : L2.St} {D : Ends} {tz : L2.TS}
/-- y = {k: True for k in d if ..} under the lock of d -/
theorem s_lockS {i : Nat} {te : TE} {L : List Key} (h : EvS (tLockE te) σ H L) (k : ∀ p H1, H p = none → Ex H H1 → SetAt H1 p L → D.nx (σ.set i (some (.ref p))) H1) : tLock (tAsg te (gName i)) D σ H := by
  obtain ⟨d, u, h1, h2, h3⟩ := h H (Ex.refl H) (fun v H1 => gName i v σ H1 D.nx) k
  exact ⟨d, u, h1, h2, fun od => h3 od⟩
theorem q_lockS {i : Nat} {te : TE} {L : List Key} (h : EvS (tLockE te) σ H L) (k : ∀ p H1, H p = none → Ex H H1 → SetAt H1 p L → tz D (σ.set i (some (.ref p))) H1) : tSeq (tLock (tAsg te (gName i))) tz D σ H := s_lockS (D := { D with nx := tz D }) h k
theorem uniK_nodup : ∀ {M L : List Key}, (L ++ M).Nodup → uniK L M = L ++ M
  | [], L, _ => by simp [uniK]
  | k :: M, L, h => by
    show uniK (addK L k) M = _
    have hk : k ∉ L := fun z => (List.nodup_append.mp h).2.2 k z k List.mem_cons_self rfl
    have : addK L k = L ++ [k] := by unfold addK; rw [if_neg hk]
    rw [this, uniK_nodup (by rw [List.append_assoc]; exact h), List.append_assoc]
    rfl
theorem uniK_nil {L : List Key} (h : L.Nodup) : uniK [] L = L := uniK_nodup (L := []) h
end
end Gd

/-! t[::-1], t a tuple: always a new one. -/
namespace HT
open PySem PySem.Spec PyProof.Rows L2
section
variable {prog : Program} {w : World} {A : Around} {E : Value → Shared → Prop} {s : Shared}
theorem fm_congr {α β : Type} {f g : α → Option β} : ∀ {l : List α}, (∀ k ∈ l, f k = g k) → l.filterMap f = l.filterMap g
  | [], _ => rfl
  | a :: l, h => by
    rw [List.filterMap_cons, List.filterMap_cons, h a List.mem_cons_self, fm_congr fun k hk => h k (List.mem_cons_of_mem _ hk)]
theorem pick_rev (xs : Array Value) : ((List.range xs.size).filterMap fun (k : Nat) => xs[((xs.size : Int) - 1 + (k : Int) * -1).toNat]?).toArray = xs.toList.reverse.toArray := by
  have h : (List.range xs.size).filterMap (fun (k : Nat) => xs[((xs.size : Int) - 1 + (k : Int) * -1).toNat]?) = ((List.range xs.size).map fun k => xs.size - 1 - k).filterMap (xs[·]?) := by
    rw [List.filterMap_map]
    refine fm_congr fun k hk => ?_
    have hk := List.mem_range.mp hk
    show xs[((xs.size : Int) - 1 + (k : Int) * -1).toNat]? = xs[xs.size - 1 - k]?
    congr 1
    omega
  rw [h, PySem.W.krv_range, List.filterMap_reverse, PySem.W.krv_all]
theorem getItem_tuple_rev {t sl : Addr} {items : Array Value} {vs : Value} {Q : Value → Shared → Prop} (ht : IsTup s.heap t items) (hs : s.heap.IsSliceOf sl .none .none vs) (ps : IsPart vs (some (-1)))
    (h : Q (.ref s.heap.objs.size) { s with heap := s.heap.push { cls := .type "tuple", data := .seq items.toList.reverse.toArray } }) (hsz : items.size ≤ sizeLine) : wpAny (model prog w) A (getItem (.ref t) (.ref sl)) Q E s := by
  have htake : sizeOk (.seq items.toList.reverse.toArray) := by
    show items.toList.reverse.toArray.size ≤ sizeLine
    simpa using hsz
  obtain ⟨os, hos, hcs, hds⟩ := id hs
  have hTs : s.TypeIs (.ref sl) "slice" := ⟨os, hos, hcs⟩
  unfold getItem
  try with_reducible refine wpAny_holding ?_
  first | refine wpAny_bind (wpAny_pure ?_) | skip
  refine wpAny_bind (wpAny_sequenceKey ht.typeIs (by decide) ?_)
  refine wpAny_bind (wpAny_callSpecial?_slot (name := Str.ofString "__getitem__") ht.typeIs PyProof.Rows.slot_tuple_getitem
    (wpAny_call_entry PyProof.Rows.slot_tuple_getitem ht.typeIs entry_tuple_getitem ?_ (args_tuple_getitem _ _)))
  show wpAny _ _ (Builtin.Tuple.tupleItemsOf (.ref t) >>= _) _ _ s
  refine wpAny_bind (tupleItemsOf_ ht ?_)
  refine wpAny_bind (wpAny_typeOf hTs ?_)
  rw [if_pos (by decide)]
  refine wpAny_bind ?_
  unfold Builtin.Slice.sliceApplied Builtin.Slice.sliceFields
  refine wpAny_bind (wpAny_bind (wpAny_field hos hds (x := .none) rfl (wpAny_bind (wpAny_field hos hds (x := .none) rfl (wpAny_bind (wpAny_field hos hds (x := vs) rfl (wpAny_pure ?_)))))))
  refine wpAny_bind (slicePart_ ps ?_)
  show wpAny _ _ (if ((-1 : Int) == 0) = true then _ else _) _ _ s
  rw [if_neg (by decide)]
  refine wpAny_bind (slicePart_none (wpAny_bind (slicePart_none (wpAny_bind (wpAny_pure ?_)))))
  have adj : Builtin.Slice.sliceAdjust none none (-1) (items.size : Int) = ((items.size : Int) - 1, -1) := by
    unfold Builtin.Slice.sliceAdjust
    simp
  have pl : Builtin.Slice.slicePlaces ((items.size : Int) - 1) (-1) (-1) = items.size := by
    unfold Builtin.Slice.slicePlaces
    simp
    try (split <;> omega)
  show wpAny _ _ (match Builtin.Slice.sliceAdjust none none (-1) (items.size : Int) with | (lo, hi) => pure (lo, (-1 : Int), Builtin.Slice.slicePlaces lo hi (-1))) _ _ s
  rw [adj]
  show wpAny _ _ (pure ((items.size : Int) - 1, (-1 : Int), Builtin.Slice.slicePlaces ((items.size : Int) - 1) (-1) (-1))) _ _ s
  rw [pl]
  refine wpAny_pure ?_
  show wpAny _ _ (if (((items.size : Int) - 1) == 0 && (-1 : Int) == 1 && items.size == items.size) = true then _ else _) _ _ s
  rw [if_neg (by simp), pick_rev]
  first
    | exact wpAny_bind (m := Builtin.Tuple.tupleExact _) (wpAny_newObj_type (wpAny_pure ⟨_, rfl, wpAny_pure h⟩) htake)
    | exact wpAny_bind (m := Builtin.Tuple.tupleExact _) (wpAny_newObj_type (wpAny_bind (wpAny_pure (wpAny_pure ⟨_, rfl, wpAny_pure h⟩))) htake)
    | exact wpAny_bind (wpAny_bind (m := Builtin.Tuple.tupleExact _) (wpAny_newObj_type (wpAny_pure (wpAny_pure ⟨_, rfl, wpAny_pure h⟩)) htake))
    | exact wpAny_bind (wpAny_bind (m := Builtin.Tuple.tupleExact _) (wpAny_newObj_type (wpAny_pure ⟨_, rfl, wpAny_pure h⟩) htake))
end
end HT
namespace Gd
open PySem PySem.Spec PyProof.Rows L2 Evl Pd
def tRevT (K : PySem.W.Frag) (te : TE) : TE := fun σ H Q => te σ H fun x H1 => ∃ a xs, x = .ref a ∧ SqT K H1 a xs ∧ ∀ p, H1 p = none → Q (.ref p) (upd H1 p (.tup xs.reverse))
theorem pe_revT {X : Cx} {e : Expr} {te : TE} {k : Nat} {p1 p2 p3 pos : Pos} (he : PE X e te) : PE X (.Subscript e (.Slice none none (some (.UnaryOp .USub (.Constant (.int 1) k p1) p2)) p3) pos) (tRevT X.K te) := by
  refine ⟨fun pins s σ H Q I h => ?_⟩
  refine Subscript_ (thn (he.run pins s σ H _ I h) fun v s1 ⟨x, H1, I1, r1, q1⟩ => ?_)
  obtain ⟨a, xs, ex, hx, q⟩ := q1
  subst ex
  cases r1
  have hst : PO X (some (.UnaryOp .USub (.Constant (.int 1) k p1) p2)) (tPart (tUn (rU fun i => .int (-i)) (tC (.int 1)))) := po_some (pe_un un_neg pe_int)
  refine wpAny_Slice (thn (po_none.run pins s1 σ H1 (fun o H2 => o = none ∧ H2 = H1) I1 ⟨rfl, rfl⟩) fun vl s2 ⟨l, H2, I2, pl, el, e2⟩ => ?_)
  subst el e2
  refine thn (po_none.run pins s2 σ H2 (fun o H3 => o = none ∧ H3 = H2) I2 ⟨rfl, rfl⟩) fun vu s3 ⟨u, H3, I3, pu, eu, e3⟩ => ?_
  subst eu e3
  refine thn (hst.run pins s3 σ H3 (fun o H4 => o = some (-1) ∧ H4 = H3) I3 ⟨1, rfl, -1, rfl, rfl, rfl⟩) fun vs s4 ⟨o, H4, I4, ps, eo, e4⟩ => ?_
  subst eo e4
  have I5 : Inv X pins σ H4 { s4 with heap := s4.heap.push { cls := .type "slice", data := .fields #[vl, vu, vs] } } := I4.kept (t' := s4.toks) fun b ob q => Heap.get?_push_of_some _ q
  obtain ⟨its, r, ht, hz⟩ := I5.tuple hx
  have hlen := r.length
  cases pl
  cases pu
  show wpAny (model X.prog X.w) X.A (subscriptTail e (.Slice none none (some (.UnaryOp .USub (.Constant (.int 1) k p1) p2)) p3) (.ref a) (.ref s4.heap.objs.size)) (EP X pins σ Q) X.xe { s4 with heap := s4.heap.push { cls := .type "slice", data := .fields #[.none, .none, vs] } }
  refine tail_any (ops := [.ref a, .ref s4.heap.objs.size]) ht.typeIs (PyProof.Rows.slot_tuple_getitem.lookup) ?_ (by with_unfolding_all rfl)
  refine HT.getItem_tuple_rev ht (Heap.IsSliceOf.new _ .none .none vs) ps ?_ (by rw [List.size_toArray]; omega)
  refine ⟨.ref _, _, I5.laid (t' := s4.toks) (o := .tup xs.reverse) (fun b ob q => Heap.get?_push_of_some _ q) (Nat.le_refl _) ?_, rfl, q _ (I5.hok.fresh (Nat.le_refl _))⟩
  exact ⟨by rw [List.length_reverse]; exact hz, _, r.reverse, IsTup.new _ _⟩
theorem PVs.rev {K : PySem.W.Frag} {H : Hp} : ∀ {ds : List PyData} {vs : List V}, PVs K H vs ds → PVs K H vs.reverse ds.reverse
  | [], _, h => by cases h; exact .nil
  | d :: ds, _, h => by
    cases h with
    | cons a b =>
      rw [List.reverse_cons, List.reverse_cons]
      exact (PVs.rev b).append (PVs.one a)
theorem ep_revT {K : PySem.W.Frag} {σ : L2.St} {H : Hp} {te : TE} {ds : List PyData} (h : EvP K te σ H (.tuple ds)) : EvP K (tRevT K te) σ H (.tuple ds.reverse) := fun H1 e Q q =>
  h H1 e _ fun v H2 e2 p => by
    obtain ⟨a, xs, rfl, hx, px⟩ := pv_tup p
    exact ⟨a, xs, rfl, hx.sq, fun c hc => q _ _ (e2.trans (Ex.new hc)) (.tup (.inl upd_same) (PVs.rev (px.ex (Ex.new hc))))⟩
end Gd

/-! What lives where, as sets of keys. Plain Lean. -/
namespace K36
open PySem PySem.Spec L2 Pd Gd
def nk (n : Nm) : Key := Sum.inr n.s
theorem nk_inj {a b : Nm} (h : nk a = nk b) : a = b := Nm.s_inj (Sum.inr.inj h)
def okey : Opd → Key
  | .nm n => nk n
  | .num _ => Sum.inl 0
def Nms (L : List Key) : Prop := ∀ k ∈ L, ∃ n, k = nk n
def rdK (l : List Opd) : List Key := uniK [] ((l.filter isNm).map okey)
theorem mem_rdK {n : Nm} {l : List Opd} : nk n ∈ rdK l ↔ Opd.nm n ∈ l := by
  unfold rdK
  rw [mem_uniK]
  constructor
  · rintro (h | h)
    · cases h
    · obtain ⟨o, h1, h2⟩ := List.mem_map.mp h
      obtain ⟨h3, h4⟩ := List.mem_filter.mp h1
      cases o with
      | nm m =>
        have := nk_inj h2
        rw [← this]
        exact h3
      | num i => cases h4
  · exact fun h => .inr (List.mem_map.mpr ⟨.nm n, List.mem_filter.mpr ⟨h, rfl⟩, rfl⟩)
theorem nms_uni {L M : List Key} (h1 : Nms L) (h2 : Nms M) : Nms (uniK L M) := fun k hk => (mem_uniK.mp hk).elim (h1 k) (h2 k)
theorem nms_nil : Nms [] := fun k h => by cases h
theorem nms_rd (l : List Opd) : Nms (rdK l) := nms_uni nms_nil fun k hk => by
  obtain ⟨o, h1, h2⟩ := List.mem_map.mp hk
  obtain ⟨h3, h4⟩ := List.mem_filter.mp h1
  cases o with
  | nm m => exact ⟨m, h2.symm⟩
  | num i => cases h4
theorem nodup_rd (l : List Opd) : (rdK l).Nodup := nodup_uniK List.nodup_nil
theorem nms_filter {L : List Key} (P : Key → Bool) (h : Nms L) : Nms (L.filter P) := fun k hk => h k (List.mem_filter.mp hk).1
def wkey (s : Stp) : Option Key := s.writes.map nk
def befK (s : Stp) (A : List Key) : List Key := uniK (uniK [] (A.filter fun k => !decide (wkey s = some k))) (rdK s.reads)
theorem mem_befK {s : Stp} {A : List Key} {n : Nm} : nk n ∈ befK s A ↔ (nk n ∈ A ∧ s.writes ≠ some n) ∨ Opd.nm n ∈ s.reads := by
  unfold befK
  rw [mem_uniK, mem_uniK, mem_rdK, List.mem_filter]
  have hw : (!decide (wkey s = some (nk n))) = true ↔ s.writes ≠ some n := by
    unfold wkey
    cases s.writes with
    | none => simp
    | some m =>
      rw [Option.map_some]
      simp only [Bool.not_eq_true', decide_eq_false_iff_not, Option.some.injEq, ne_eq]
      exact not_congr ⟨nk_inj, fun h => by rw [h]⟩
  rw [hw]
  constructor
  · rintro ((h | h) | h)
    · cases h
    · exact .inl h
    · exact .inr h
  · rintro (h | h)
    · exact .inl (.inr h)
    · exact .inr h
theorem nms_bef {s : Stp} {A : List Key} (h : Nms A) : Nms (befK s A) := nms_uni (nms_uni nms_nil (nms_filter _ h)) (nms_rd _)
theorem nodup_bef (s : Stp) (A : List Key) : (befK s A).Nodup := nodup_uniK (nodup_uniK List.nodup_nil)
def begK (b : Blk) (O : List Key) : List Key := b.steps.reverse.foldl (fun A s => befK s A) (uniK O (rdK b.fin.reads))
theorem begK_live (b : Blk) (O : List Key) (n : Nm) : nk n ∈ begK b O ↔ liveIn b.steps (fun n => nk n ∈ O ∨ Opd.nm n ∈ b.fin.reads) n := by
  unfold begK liveIn
  rw [List.foldl_reverse]
  generalize b.steps = steps
  induction steps generalizing n with
  | nil =>
    show nk n ∈ uniK O (rdK b.fin.reads) ↔ _
    rw [mem_uniK, mem_rdK]
    rfl
  | cons s rest ih =>
    show nk n ∈ befK s _ ↔ before s _ n
    rw [mem_befK, ih]
    rfl
theorem fold_ok : ∀ (steps : List Stp) (A : List Key), Nms A → A.Nodup → Nms (steps.foldl (fun A s => befK s A) A) ∧ (steps.foldl (fun A s => befK s A) A).Nodup
  | [], _, h1, h2 => ⟨h1, h2⟩
  | s :: rest, A, h1, _ => fold_ok rest (befK s A) (nms_bef h1) (nodup_bef s A)
theorem beg_ok (b : Blk) {O : List Key} (h1 : Nms O) (h2 : O.Nodup) : Nms (begK b O) ∧ (begK b O).Nodup := fold_ok _ _ (nms_uni h1 (nms_rd _)) (nodup_uniK h2)
theorem live_mono {steps : List Stp} {A B : NSet} (h : ∀ n, A n → B n) : ∀ n, liveIn steps A n → liveIn steps B n := by
  unfold liveIn
  induction steps with
  | nil => exact h
  | cons s rest ih => exact fun n hn => hn.elim (fun z => .inl ⟨ih n z.1, z.2⟩) .inr
theorem beg_mono (b : Blk) {O O' : List Key} (h : ∀ k ∈ O, k ∈ O') (h1 : Nms O) (hd : O.Nodup) : ∀ k ∈ begK b O, k ∈ begK b O' := fun k hk => by
  obtain ⟨n, rfl⟩ := (beg_ok b h1 hd).1 k hk
  rw [begK_live] at hk ⊢
  exact live_mono (fun n hn => hn.imp (h _) id) n hk
def outK (B : List (List Key)) (gs : List Nat) : List Key := gs.foldl (fun o j => uniK o (B.getD j [])) []
theorem mem_fold {B : List (List Key)} {k : Key} : ∀ {gs : List Nat} {o : List Key}, k ∈ gs.foldl (fun o j => uniK o (B.getD j [])) o ↔ k ∈ o ∨ ∃ j ∈ gs, k ∈ B.getD j []
  | [], o => by simp
  | j :: gs, o => by
    show k ∈ gs.foldl _ (uniK o (B.getD j [])) ↔ _
    rw [mem_fold (gs := gs), mem_uniK]
    constructor
    · rintro ((h | h) | ⟨i, h1, h2⟩)
      · exact .inl h
      · exact .inr ⟨j, List.mem_cons_self, h⟩
      · exact .inr ⟨i, List.mem_cons_of_mem _ h1, h2⟩
    · rintro (h | ⟨i, h1, h2⟩)
      · exact .inl (.inl h)
      · rcases List.mem_cons.mp h1 with rfl | h1
        · exact .inl (.inr h2)
        · exact .inr ⟨i, h1, h2⟩
theorem mem_outK {B : List (List Key)} {gs : List Nat} {k : Key} : k ∈ outK B gs ↔ ∃ j ∈ gs, k ∈ B.getD j [] := by
  unfold outK
  rw [mem_fold]
  exact ⟨fun h => h.elim (fun z => by cases z) id, .inr⟩
theorem nodup_foldU {B : List (List Key)} : ∀ {gs : List Nat} {o : List Key}, o.Nodup → (gs.foldl (fun o j => uniK o (B.getD j [])) o).Nodup
  | [], _, h => h
  | _ :: gs, _, h => nodup_foldU (gs := gs) (nodup_uniK h)
theorem nodup_out (B : List (List Key)) (gs : List Nat) : (outK B gs).Nodup := nodup_foldU List.nodup_nil
theorem nms_out {B : List (List Key)} {gs : List Nat} (h : ∀ L ∈ B, Nms L) : Nms (outK B gs) := fun k hk => by
  obtain ⟨j, _, h2⟩ := mem_outK.mp hk
  rw [List.getD_eq_getElem?_getD] at h2
  cases e : B[j]? with
  | none => rw [e] at h2; cases h2
  | some L => rw [e] at h2; exact h L (List.mem_of_getElem? e) k h2
theorem nms_len {L : List Key} (h : Nms L) (hn : L.Nodup) : L.length ≤ 5 := by
  have := nodup_sub_len (M := Nm.all.map nk) hn fun k hk => by
    obtain ⟨n, rfl⟩ := h k hk
    exact List.mem_map.mpr ⟨n, Nm.mem n, rfl⟩
  exact this
/-- what is known while ways are gone round -/
structure LInv (g : Gr) (B E : List (List Key)) : Prop where
  lb : B.length = g.length
  le : E.length = g.length
  nb : ∀ L ∈ B, Nms L ∧ L.Nodup
  ne : ∀ L ∈ E, Nms L ∧ L.Nodup
  mb : ∀ (k : Nat) (b : Blk) (L : List Key), g[k]? = some b → B[k]? = some L → ∀ x ∈ L, x ∈ begK b (outK B b.fin.goals)
  me : ∀ (k : Nat) (b : Blk) (L : List Key), g[k]? = some b → E[k]? = some L → ∀ x ∈ L, x ∈ outK B b.fin.goals
def Same (L M : List Key) : Prop := ∀ k, k ∈ L ↔ k ∈ M
def Stable (g : Gr) (B E : List (List Key)) (k : Nat) : Prop := ∀ (b : Blk) (L M : List Key), g[k]? = some b → B[k]? = some L → E[k]? = some M → Same (begK b (outK B b.fin.goals)) L ∧ Same (outK B b.fin.goals) M
def mu (B : List (List Key)) : Nat := (B.map fun L => 5 - L.length).sum
theorem mu_set {W : List Key} : ∀ {B : List (List Key)} {k : Nat} {L : List Key}, B[k]? = some L → mu (B.set k W) + (5 - L.length) = mu B + (5 - W.length)
  | [], k, L, h => by cases h
  | M :: B, 0, L, h => by
    cases h
    show (5 - W.length + mu B) + (5 - M.length) = (5 - M.length + mu B) + (5 - W.length)
    omega
  | M :: B, k + 1, L, h => by
    have := mu_set (W := W) (B := B) (k := k) h
    show (5 - M.length + mu (B.set k W)) + (5 - L.length) = (5 - M.length + mu B) + (5 - W.length)
    omega
theorem get_set {α : Type} {l : List α} {k j : Nat} {x y : α} (h : (l.set k x)[j]? = some y) : (j = k ∧ y = x) ∨ (j ≠ k ∧ l[j]? = some y) := by
  by_cases e : k = j
  · subst e
    rw [List.getElem?_set_self'] at h
    cases hl : l[k]? with
    | none => rw [hl] at h; cases h
    | some z =>
      rw [hl] at h
      cases h
      exact .inl ⟨rfl, rfl⟩
  · rw [List.getElem?_set_ne e] at h
    exact .inr ⟨Ne.symm e, h⟩
/-- a block's sets put anew: nothing is lost, something is won -/
theorem linv_set {g : Gr} {B E : List (List Key)} (I : LInv g B E) {k : Nat} {b : Blk} {L M : List Key} (hb : g[k]? = some b) (hL : B[k]? = some L) (hM : E[k]? = some M)
    (hc : ¬ (Same (begK b (outK B b.fin.goals)) L ∧ Same (outK B b.fin.goals) M)) :
    LInv g (B.set k (begK b (outK B b.fin.goals))) (E.set k (outK B b.fin.goals)) ∧ mu (B.set k (begK b (outK B b.fin.goals))) + mu (E.set k (outK B b.fin.goals)) < mu B + mu E := by
  have nO : Nms (outK B b.fin.goals) := nms_out fun L hL => (I.nb L hL).1
  have dO := nodup_out B b.fin.goals
  obtain ⟨nW, dW⟩ := beg_ok b nO dO
  have hk := (List.getElem?_eq_some_iff.mp hL).1
  have sub : ∀ j k' : Nat, ∀ x ∈ B.getD j [], x ∈ (B.set k (begK b (outK B b.fin.goals))).getD j [] := fun j _ x hx => by
    rw [List.getD_eq_getElem?_getD] at hx ⊢
    by_cases e : k = j
    · subst e
      rw [hL] at hx
      rw [List.getElem?_set_self hk]
      exact I.mb k b L hb hL x hx
    · rw [List.getElem?_set_ne e]
      exact hx
  have subO : ∀ gs : List Nat, ∀ x ∈ outK B gs, x ∈ outK (B.set k (begK b (outK B b.fin.goals))) gs := fun gs x hx => by
    obtain ⟨j, h1, h2⟩ := mem_outK.mp hx
    exact mem_outK.mpr ⟨j, h1, sub j 0 x h2⟩
  have subW : ∀ c : Blk, ∀ x ∈ begK c (outK B c.fin.goals), x ∈ begK c (outK (B.set k (begK b (outK B b.fin.goals))) c.fin.goals) := fun c => beg_mono c (subO _) (nms_out fun L hL => (I.nb L hL).1) (nodup_out _ _)
  refine ⟨⟨by rw [List.length_set]; exact I.lb, by rw [List.length_set]; exact I.le, fun L' h => ?_, fun L' h => ?_, fun j c L' hc' hL' => ?_, fun j c L' hc' hL' => ?_⟩, ?_⟩
  · rcases List.mem_or_eq_of_mem_set h with h | h
    · exact I.nb L' h
    · rw [h]; exact ⟨nW, dW⟩
  · rcases List.mem_or_eq_of_mem_set h with h | h
    · exact I.ne L' h
    · rw [h]; exact ⟨nO, dO⟩
  · rcases get_set hL' with ⟨rfl, rfl⟩ | ⟨_, h⟩
    · rw [hb] at hc'
      cases hc'
      exact subW b
    · exact fun x hx => subW c x (I.mb j c L' hc' h x hx)
  · rcases get_set hL' with ⟨rfl, rfl⟩ | ⟨_, h⟩
    · rw [hb] at hc'
      cases hc'
      exact subO _
    · exact fun x hx => subO _ x (I.me j c L' hc' h x hx)
  · have h1 := mu_set (W := begK b (outK B b.fin.goals)) hL
    have h2 := mu_set (W := outK B b.fin.goals) hM
    have dL := (I.nb L (List.mem_of_getElem? hL)).2
    have dM := (I.ne M (List.mem_of_getElem? hM)).2
    have l1 := nodup_sub_len dL (I.mb k b L hb hL)
    have l2 := nodup_sub_len dM (I.me k b M hb hM)
    have l3 := nms_len nW dW
    have l4 := nms_len nO dO
    have : L.length < (begK b (outK B b.fin.goals)).length ∨ M.length < (outK B b.fin.goals).length := by
      by_cases c1 : L.length < (begK b (outK B b.fin.goals)).length
      · exact .inl c1
      · by_cases c2 : M.length < (outK B b.fin.goals).length
        · exact .inr c2
        · refine absurd ⟨fun x => ⟨fun hx => ?_, I.mb k b L hb hL x⟩, fun x => ⟨fun hx => ?_, I.me k b M hb hM x⟩⟩ hc
          · exact nodup_sub_eq dW (I.mb k b L hb hL) (by omega) dL x hx
          · exact nodup_sub_eq dO (I.me k b M hb hM) (by omega) dM x hx
    omega
theorem getD_rep {n j : Nat} : (List.replicate n ([] : List Key)).getD j [] = [] := by
  rw [List.getD_eq_getElem?_getD]
  cases e : (List.replicate n ([] : List Key))[j]? with
  | none => rfl
  | some L => exact (List.mem_replicate.mp (List.mem_of_getElem? e)).2
theorem linv0 (g : Gr) : LInv g (List.replicate g.length []) (List.replicate g.length []) where
  lb := by simp
  le := by simp
  nb := fun L h => by rw [(List.mem_replicate.mp h).2]; exact ⟨nms_nil, List.nodup_nil⟩
  ne := fun L h => by rw [(List.mem_replicate.mp h).2]; exact ⟨nms_nil, List.nodup_nil⟩
  mb := fun k b L _ h x hx => by
    rw [(List.mem_replicate.mp (List.mem_of_getElem? h)).2] at hx
    cases hx
  me := fun k b L _ h x hx => by
    rw [(List.mem_replicate.mp (List.mem_of_getElem? h)).2] at hx
    cases hx
/-- what lives behind blocks, told -/
structure Sol (g : Gr) (outs : List (List Nm)) : Prop where
  len : outs.length = g.length
  small : ∀ o ∈ outs, o.length ≤ 100
  sets : ∃ B : Nat → NSet, (∀ (k : Nat) (b : Blk), g[k]? = some b → ∀ n, liveIn b.steps (needs b (outs.getD k [])) n → B k n) ∧ ∀ (k : Nat) (b : Blk), g[k]? = some b → ∀ j ∈ b.fin.goals, ∀ n, B j n → n ∈ outs.getD k []
theorem sol_of {g : Gr} {B E : List (List Key)} {outs : List (List Nm)} (I : LInv g B E) (st : ∀ k, k < g.length → Stable g B E k) (hl : outs.length = g.length) (ho : ∀ (k : Nat) (o : List Nm) (M : List Key), outs[k]? = some o → E[k]? = some M → (o.map nk).Perm M) : Sol g outs := by
  have E2 : ∀ k, k < g.length → ∃ o M, outs[k]? = some o ∧ E[k]? = some M ∧ (o.map nk).Perm M := fun k hk => by
    have h1 : outs[k]? = some outs[k] := List.getElem?_eq_getElem (by omega)
    have h2 : E[k]? = some (E[k]'(by have := I.le; omega)) := List.getElem?_eq_getElem (by have := I.le; omega)
    exact ⟨_, _, h1, h2, ho k _ _ h1 h2⟩
  refine ⟨hl, fun o h => ?_, fun k n => nk n ∈ B.getD k [], fun k b hb n hn => ?_, fun k b hb j hj n hn => ?_⟩
  · obtain ⟨k, hk⟩ := List.mem_iff_getElem?.mp h
    obtain ⟨o', M, h1, h2, h3⟩ := E2 k (by have := (List.getElem?_eq_some_iff.mp hk).1; omega)
    rw [hk] at h1
    cases h1
    have := h3.length_eq
    rw [List.length_map] at this
    have h4 := I.ne M (List.mem_of_getElem? h2)
    have := nms_len h4.1 h4.2
    omega
  · have hk := (List.getElem?_eq_some_iff.mp hb).1
    obtain ⟨o, M, h1, h2, h3⟩ := E2 k hk
    have hB : B[k]? = some (B[k]'(by have := I.lb; omega)) := List.getElem?_eq_getElem (by have := I.lb; omega)
    have S := st k hk b _ M hb hB h2
    show nk n ∈ B.getD k []
    rw [List.getD_eq_getElem?_getD, hB]
    refine (S.1 (nk n)).mp ((begK_live b _ n).mpr (live_mono (fun m hm => ?_) n hn))
    rcases hm with hm | hm
    · rw [List.getD_eq_getElem?_getD, h1] at hm
      exact .inl ((S.2 (nk m)).mpr (h3.mem_iff.mp (List.mem_map.mpr ⟨m, hm, rfl⟩)))
    · exact .inr hm
  · have hk := (List.getElem?_eq_some_iff.mp hb).1
    obtain ⟨o, M, h1, h2, h3⟩ := E2 k hk
    have hB : B[k]? = some (B[k]'(by have := I.lb; omega)) := List.getElem?_eq_getElem (by have := I.lb; omega)
    have S := st k hk b _ M hb hB h2
    rw [List.getD_eq_getElem?_getD, h1]
    have := (S.2 (nk n)).mp (mem_outK.mpr ⟨j, hj, hn⟩)
    obtain ⟨m, hm, e⟩ := List.mem_map.mp (h3.mem_iff.mpr this)
    rw [← nk_inj e]
    exact hm
end K36

namespace K36
open PySem PySem.Spec PyProof.Rows L2 Evl Pd Gd
abbrev sArms : Stmt := topS 18
abbrev sBefore : Stmt := topS 19
abbrev sAtBegin : Stmt := topS 20
abbrev sWithout : Stmt := topS 21
theorem scArms : FnScope ["graph", "number", "found", "goal", "step", "block", "own"] ["graph", "number"] (defScope sArms) := ⟨rfl, rfl, rfl, by decide +kernel, rfl, by decide +kernel, by decide +kernel⟩
theorem scBefore : FnScope ["step", "alive", "found", "own"] ["step", "alive"] (defScope sBefore) := ⟨rfl, rfl, rfl, by decide +kernel, rfl, by decide +kernel, by decide +kernel⟩
theorem scAtBegin : FnScope ["graph", "number", "alive", "steps", "end", "found", "own", "step"] ["graph", "number", "alive"] (defScope sAtBegin) := ⟨rfl, rfl, rfl, by decide +kernel, rfl, by decide +kernel, by decide +kernel⟩
theorem scWithout : FnScope ["graph", "number", "alive", "written", "step", "own"] ["graph", "number", "alive"] (defScope sWithout) := ⟨rfl, rfl, rfl, by decide +kernel, rfl, by decide +kernel, by decide +kernel⟩
/-- a set of names -/
structure SN (H : Hp) (a : Addr) (A : List Key) : Prop where
  s : SetAt H a A
  n : Nms A
theorem SN.ex {H H' : Hp} {a : Addr} {A : List Key} (h : SN H a A) (e : Ex H H') : SN H' a A := ⟨h.s.ex e, h.n⟩
theorem SN.len {H : Hp} {a : Addr} {A : List Key} (h : SN H a A) : A.length ≤ 5 := nms_len h.n h.s.nd
def RetS (L : List Key) (H : Hp) (Q : VK) : Prop := ∀ p H', H p = none → Ex H H' → SetAt H' p L → Q (.ref p) H'
def spArms (K : PySem.W.Frag) : Sp := fun vs H Q _ => ∃ (v : V) (ps : List Nm) (g : Gr) (k : Nat) (b : Blk), vs = [v, .int (k : Int)] ∧ PV K H v (gD ps g) ∧ g[k]? = some b ∧ (∀ j ∈ b.fin.goals, j < g.length) ∧ RetS [] H Q
def spBefore (K : PySem.W.Frag) : Sp := fun vs H Q _ => ∃ (v : V) (s : Stp) (a : Addr) (A : List Key), vs = [v, .ref a] ∧ PV K H v s.d ∧ SN H a A ∧ RetS (befK s A) H Q
def spAtBegin (K : PySem.W.Frag) : Sp := fun vs H Q _ => ∃ (v : V) (ps : List Nm) (g : Gr) (k : Nat) (b : Blk) (a : Addr) (A : List Key), vs = [v, .int (k : Int), .ref a] ∧ PV K H v (gD ps g) ∧ g[k]? = some b ∧ SN H a A ∧ RetS (begK b A) H Q
def spWithout (K : PySem.W.Frag) : Sp := fun vs H Q _ => ∃ (v : V) (ps : List Nm) (g : Gr) (k : Nat) (b : Blk) (a : Addr) (A : List Key), vs = [v, .int (k : Int), .ref a] ∧ PV K H v (gD ps g) ∧ g[k]? = some b ∧ b.steps.length ≤ 1000 ∧ SN H a A ∧ RetS A H Q
section
variable {K : PySem.W.Frag} {H : Hp} {σ : L2.St} {D : Ends} {tz : L2.TS}
/-- graph[1][k], its steps, its end -/
theorem ep_blk {v : V} {ps : List Nm} {g : Gr} {k : Nat} {b : Blk} {ti : TE} (h0 : σ[0]? = some (some v)) (pv : PV K H v (gD ps g)) (hi : Ev ti σ H (.int (k : Int))) (hb : g[k]? = some b) : EvP K (tOp (rIxT K) (tOp (rIxT K) (tVar 0) (tC (.int 1))) ti) σ H b.d :=
  ep_ixT (i := k) (ep_ixT (i := 1) (ep_var h0 pv) ev_c rfl) hi (by rw [List.getElem?_map, hb]; rfl)
theorem ep_stps {te : TE} {b : Blk} (h : EvP K te σ H b.d) : EvP K (tOp (rIxT K) te (tC (.int 0))) σ H (rowD b.steps) := ep_ixT (i := 0) h ev_c rfl
theorem ep_fin {te : TE} {b : Blk} (h : EvP K te σ H b.d) : EvP K (tOp (rIxT K) te (tC (.int 1))) σ H b.fin.d := ep_ixT (i := 1) h ev_c rfl
theorem ev_kind {te : TE} {s : Stp} (h : EvP K te σ H s.d) : Ev (tOp (rIxT K) te (tC (.int 0))) σ H (.str s.kind) := by
  rw [s.d_ds] at h
  exact ev_epS (ep_ixT (i := 0) h ev_c s.at0)
/-- {own: True for own in operands if is_value(own)} -/
theorem es_reads {l : List Opd} {j : Nat} {vs : List Nat} {tl : TE} (h : EvP K tl σ H (opdsD l)) (hz : l.length ≤ 40000) (hj : j < (wipe σ vs).length) (hw : ∀ x, wipe ((wipe σ vs).set j (some x)) vs = wipe σ vs) :
    EvS (tDc (iTup K tl) (gName j) (tB (tCall (spIsValue K) [] E0 (tCons (tVar j) tNil))) (tVar j) (tC (.bl true)) vs) σ H (rdK l) := by
  have h1 := es_tup (K := K) (t := tB (tCall (spIsValue K) [] E0 (tCons (tVar j) tNil))) (fun i => isNm (l.getD i (.num 0))) (fun i => okey (l.getD i (.num 0))) h (by rw [List.length_map]; exact hz) hj hw fun i x d H1 e1 hd pd => by
    obtain ⟨o, ho, rfl⟩ := map_at hd
    have hg : l.getD i (.num 0) = o := by rw [List.getD_eq_getElem?_getD, ho]; rfl
    rw [hg]
    refine ⟨et_B (ev_epB (K := K) (ep_call (eps_cons (ep_var (by simp [hj]) pd) eps_nil) ⟨o, rfl, rfl⟩)), fun hp => ?_⟩
    cases o with
    | nm n => exact pv_str pd
    | num i => cases hp
  rw [List.length_map] at h1
  have e : ((List.range l.length).filter fun i => isNm (l.getD i (.num 0))).map (fun i => okey (l.getD i (.num 0))) = (l.filter isNm).map okey := by
    have h : (List.range l.length).map (fun i => l.getD i (.num 0)) = l := by
      refine List.ext_getElem (by simp) fun i h1 h2 => ?_
      simp [h2]
    conv => rhs; rw [← h, List.filter_map, List.map_map]
    rfl
  rw [e] at h1
  exact h1
theorem scal_key {k : Key} {v : Option Nm} (h : ∃ n, k = nk n) : ∃ u, (∀ {H : Hp} {w : V}, PV K H w (optNm v) → w = u) ∧ scal (kV k) u = true ∧ (!decide (kV k = u)) = !decide (v.map nk = some k) := by
  obtain ⟨n, rfl⟩ := h
  cases v with
  | none => exact ⟨.non, fun p => pv_non p, rfl, rfl⟩
  | some m =>
    refine ⟨.str m.s, fun p => pv_str p, rfl, ?_⟩
    congr 1
    refine decide_eq_decide.mpr ⟨fun h => ?_, fun h => ?_⟩
    · have : n.s = m.s := V.str.inj h
      rw [Nm.s_inj this]
      rfl
    · have := nk_inj (Option.some.inj h)
      rw [this]
      rfl
end
section
variable {P : Program} {w : World} {K : PySem.W.Frag} {mg : Str → Option Value} {base : Heap}
theorem ok_arms {f fG : Addr} {fd fdG : FuncData} (F : Fun K "arms_from" "arms_from" sArms f fd) (C : Consts K mg)
    (GG : FnOk P w K mg base CX0 1 fG fdG ["end"] (spGoalsOf K)) (kG : PySem.W.keepIn K (.ref fG) = true) (bG : Binds K fdG ["end"] []) (gG : mg "goals_of" = some (.ref fG)) : FnOk P w K mg base CX0 2 f fd ["graph", "number"] (spArms K) := by
  refine F.ok scArms (fun vs H Q E h => ?_) (fun cdv A outer s H vs Q E hr h => ?_)
  · obtain ⟨v, ps, g, k, b, rfl, _⟩ := h
    rfl
  · obtain ⟨v, ps, g, k, b, rfl, pv1, hb, hg, q⟩ := h
    refine ⟨_, pss_cons (ps_set (i := 2) scArms.nd rfl (.inl rfl) pe_dnewK)
      (pss_cons (ps_for PassesOwn.never rfl (pi_tup (pe_call GG hr (by rfl) gG kG bG .nil pass0 (pa_cons (pe_ix ix_tup (pe_ix ix_tup (pe_ix ix_tup (pv 0) pe_int (fun _ _ => rfl)) (pv 1) (fun _ _ => rfl)) pe_int (fun _ _ => rfl)) pa_nil))) (pg_name (i := 3) scArms.nd rfl (.inl rfl))
        (pss_one (ps_for PassesOwn.never rfl (pi_tup (pe_ix ix_tup (pe_ix ix_tup (pe_ix ix_tup (pv 0) pe_int (fun _ _ => rfl)) (pv 3) (fun _ _ => rfl)) pe_int (fun _ _ => rfl))) (pg_name (i := 4) scArms.nd rfl (.inl rfl))
          (pss_one (ps_if (pt_cmpR op_eq (pe_ix ix_tup (pv 4) pe_int (fun _ _ => rfl)) (pe_glob (v := .str "phi") (by rfl) C.gP ⟨_, rfl⟩) (nomark _)) (pss_one ps_never) pss_nil)))))
      (pss_one (ps_ret (pv 2)))), ?_⟩
    refine q_asgS es_new fun p H1 hp e1 s1 => ?_
    refine q_forTP (ds := b.fin.goals.map natD) (ep_call (eps_cons (ep_fin (ep_blk (K := K) rfl (pv1.ex e1) (ev_var rfl) hb)) eps_nil) ⟨b.fin, rfl, rfl⟩) (fun H2 i σ' H' => ∃ y3 y4, σ' = [some v, some (.int (k : Int)), some (.ref p), y3, y4, none, none] ∧ Ex H2 H')
      (fun H2 e2 => ⟨none, none, rfl, Ex.refl _⟩) (fun H2 i σ' H' ⟨_, _, _, e⟩ => tx_of e) ?_ ?_
    · rintro H2 i x d σ' H' e2 hd pd ⟨y3, y4, rfl, ex⟩
      obtain ⟨j, hj, rfl⟩ := map_at hd
      cases pv_int pd
      obtain ⟨b', hb'⟩ : ∃ b', g[j]? = some b' := ⟨_, List.getElem?_eq_getElem (hg j (List.mem_of_getElem? hj))⟩
      have eH := (e1.trans e2).trans ex
      refine s_forTP (ds := b'.steps.map Stp.d) (ep_stps (ep_blk (K := K) rfl (pv1.ex eH) (ev_var rfl) hb')) (fun H3 i σ' H' => ∃ y4, σ' = [some v, some (.int (k : Int)), some (.ref p), some (.int (j : Int)), y4, none, none] ∧ Ex H3 H')
        (fun H3 e3 => ⟨y4, rfl, Ex.refl _⟩) (fun H3 i σ' H' ⟨_, _, e⟩ => tx_of e) ?_ ?_
      · rintro H3 i' x d σ' H4 e3 hd pd ⟨y4, rfl, ex3⟩
        obtain ⟨st, hst, rfl⟩ := map_at hd
        refine s_when (et_test (ev_is (et_eqS (ev_kind (ep_var rfl pd)) ev_c) (congrArg V.bl (kind_phi st)))) (fun e => by cases e) (fun _ H5 e5 => ⟨_, rfl, ex3.trans e5⟩)
      · rintro H3 σ' H4 e3 ⟨y4, rfl, ex3⟩
        exact ⟨_, _, rfl, (ex.trans e3).trans ex3⟩
    · rintro H2 σ' H' e2 ⟨y3, y4, rfl, ex⟩
      exact s_ret (ev_var rfl) fun H3 e3 => q p H3 hp (((e1.trans e2).trans ex).trans e3) (s1.ex ((e2.trans ex).trans e3))
theorem ok_before {f fW fR fI : Addr} {fd fdW fdR fdI : FuncData} (F : Fun K "before" "before" sBefore f fd) (C : Consts K mg)
    (GW : FnOk P w K mg base CX0 1 fW fdW ["step"] (spWritesOf K)) (kW : PySem.W.keepIn K (.ref fW) = true) (bW : Binds K fdW ["step"] []) (gW : mg "writes_of" = some (.ref fW))
    (GR : FnOk P w K mg base CX0 1 fR fdR ["step"] (spReadsOf K)) (kR : PySem.W.keepIn K (.ref fR) = true) (bR : Binds K fdR ["step"] []) (gR : mg "reads_of" = some (.ref fR))
    (GI : FnOk P w K mg base CX0 1 fI fdI ["operand"] (spIsValue K)) (kI : PySem.W.keepIn K (.ref fI) = true) (bI : Binds K fdI ["operand"] []) (gI : mg "is_value" = some (.ref fI)) : FnOk P w K mg base CX0 2 f fd ["step", "alive"] (spBefore K) := by
  refine F.ok scBefore (fun vs H Q E h => ?_) (fun cdv A outer s H vs Q E hr h => ?_)
  · obtain ⟨v, st, a, A, rfl, _⟩ := h
    rfl
  · obtain ⟨v, st, a, As, rfl, pv1, hA, q⟩ := h
    refine ⟨_, pss_cons (ps_lock (ps_setDc (i := 2) (own := [("own", 3)]) (g := gName 3) (tt := tTest (tOp rNe (tVar 3) (tCall (spWritesOf K) [] E0 (tCons (tVar 0) tNil)))) (tk := tVar 3) (tv := tC (.bl true)) rfl scBefore.nd rfl rfl (swd_true rfl rfl rfl (by decide +kernel)) (pi_keys (pv 1)) (blkOk_by (N := ["step", "alive", "found", "own"]) (sc := defScope sBefore) (by decide +kernel))
        (fun _ _ _ _ _ => pg_name (i := 3) scBefore.nd rfl (Or.inl rfl)) (fun _ _ _ _ _ => pts_one (pt_cmpR op_ne (pv 3) (pe_call GW hr (by rfl) gW kW bW .nil pass0 (pa_cons (pv 0) pa_nil)) (nomark _))) (fun _ _ _ _ _ => pv 3) (fun _ _ _ _ _ => pe_bl)))
      (pss_cons (ps_if (pt_cmpR op_ne (pe_ix ix_tup (pv 0) pe_int (fun _ _ => rfl)) (pe_glob (v := .str "phi") (by rfl) C.gP ⟨_, rfl⟩) (nomark _))
        (pss_one (ps_expr (pe_bm PySem.F.plainAttrs_dict PySem.F.slot_dict_update PySem.F.type_dict_update mt_update (pv 2) (pa_cons (pe_dc (own := [("own", 3)]) (g := gName 3) (tt := tB (tCall (spIsValue K) [] E0 (tCons (tVar 3) tNil))) (tk := tVar 3) (tv := tC (.bl true)) rfl scBefore.nd (pi_tup (pe_call GR hr (by rfl) gR kR bR .nil pass0 (pa_cons (pv 0) pa_nil))) (blkOk_by (N := ["step", "alive", "found", "own"]) (sc := defScope sBefore) (by decide +kernel))
          (fun _ _ _ _ _ => pg_name (i := 3) scBefore.nd rfl (Or.inl rfl)) (fun _ _ _ _ _ => pts_one (pt_val (pe_call GI hr (by rfl) gI kI bI .nil pass0 (pa_cons (pv 3) pa_nil)))) (fun _ _ _ _ _ => pv 3) (fun _ _ _ _ _ => pe_bl)) pa_nil)))) pss_nil)
      (pss_one (ps_ret (pv 2)))), ?_⟩
    have l5 := hA.len
    refine q_lockS (L := uniK [] (As.filter fun k => !decide (wkey st = some k))) (es_keys (σ := [some v, some (.ref a), none, none]) (j := 3) (vs := [3]) (fun k => !decide (wkey st = some k)) (fun H1 => ev_var rfl) hA.s (by omega) (by simp [wipe]) (fun x => rfl) fun k H1 ex hk => ?_) fun p H1 hp e1 s1 => ?_
    · have tx := ex.tx hA.s.at_
      obtain ⟨u, hu1, hu2, hu3⟩ := scal_key (K := K) (k := k) (v := st.writes) (hA.n k hk)
      refine et_test fun H2 e2 Q2 q2 => ev_var rfl H2 e2 _ fun H3 e3 => ep_call (K := K) (σ := [some v, some (.ref a), none, some (kV k)]) (eps_cons (ep_var rfl (pv1.tx tx)) eps_nil) ⟨st, rfl, rfl⟩ H3 (e2.trans e3) _ fun y H4 e4 p4 => ?_
      rw [hu1 p4]
      refine ⟨hu2, ?_⟩
      rw [hu3]
      exact q2 H4 (e3.trans e4)
    · refine q_when (et_test (ev_is (ev_op (ev_kind (ep_var rfl (pv1.ex e1))) ev_c (rv_ne rfl)) (congrArg V.bl (show _ = true from ?_)))) (fun _ H2 e2 => ?_) (fun e => by cases e)
      · have := kind_phi st
        have h2 : decide (V.str st.kind = V.str "phi") = decide (st.kind = "phi") := decide_eq_decide.mpr ⟨fun h => V.str.inj h, fun h => by rw [h]⟩
        rw [h2, this]
        rfl
      · have rl : st.reads.length ≤ 2 := by cases st <;> simp [Stp.reads]
        have s2 := s1.ex e2
        refine s_updS s2 (ev_var rfl) (es_reads (σ := [some v, some (.ref a), some (.ref p), none]) (ep_call (eps_cons (ep_var rfl (pv1.ex (e1.trans e2))) eps_nil) ⟨st, rfl, rfl⟩) (by omega) (by simp [wipe]) (fun x => rfl)) ?_ fun H3 e3 s3 => ?_
        · have h1 := nms_len (nms_uni nms_nil (nms_filter (fun k => !decide (wkey st = some k)) hA.n)) s1.nd
          have h2 := nms_len (nms_rd st.reads) (nodup_rd st.reads)
          omega
        · exact s_ret (ev_var rfl) fun H4 e4 => q p H4 hp ((Ex.mut ((e1.trans e2).trans e3) hp).trans e4) (s3.ex e4)
theorem ok_at_begin {f fB fE fI : Addr} {fd fdB fdE fdI : FuncData} (F : Fun K "at_begin" "at_begin" sAtBegin f fd) (C : Consts K mg)
    (GB : FnOk P w K mg base CX0 2 fB fdB ["step", "alive"] (spBefore K)) (kB : PySem.W.keepIn K (.ref fB) = true) (bB : Binds K fdB ["step", "alive"] []) (gB : mg "before" = some (.ref fB))
    (GE : FnOk P w K mg base CX0 1 fE fdE ["end"] (spReadsEnd K)) (kE : PySem.W.keepIn K (.ref fE) = true) (bE : Binds K fdE ["end"] []) (gE : mg "reads_of_end" = some (.ref fE))
    (GI : FnOk P w K mg base CX0 1 fI fdI ["operand"] (spIsValue K)) (kI : PySem.W.keepIn K (.ref fI) = true) (bI : Binds K fdI ["operand"] []) (gI : mg "is_value" = some (.ref fI)) (md : mg "dict" = none) : FnOk P w K mg base CX0 3 f fd ["graph", "number", "alive"] (spAtBegin K) := by
  refine F.ok scAtBegin (fun vs H Q E h => ?_) (fun cdv A outer s H vs Q E hr h => ?_)
  · obtain ⟨v, ps, g, k, b, a, A, rfl, _⟩ := h
    rfl
  · obtain ⟨v, ps, g, k, b, a, As, rfl, pv1, hb, hA, q⟩ := h
    have hr1 : Room 1 _ := hr.mono (by decide)
    refine ⟨_, pss_cons (ps_asg (pe_ix ix_tup (pe_ix ix_tup (pv 0) pe_int (fun _ _ => rfl)) (pv 1) (fun _ _ => rfl)) (pg_tup rfl (pgs_cons (pg_name (i := 3) scAtBegin.nd rfl (.inl rfl)) (pgs_cons (pg_name (i := 4) scAtBegin.nd rfl (.inl rfl)) pgs_nil))))
      (pss_cons (ps_set (i := 5) scAtBegin.nd rfl (.inl rfl) (pe_callTy call_dictD (by rfl) md (by decide +kernel) (pa_cons (pv 2) pa_nil)))
      (pss_cons (ps_expr (pe_bm PySem.F.plainAttrs_dict PySem.F.slot_dict_update PySem.F.type_dict_update mt_update (pv 5) (pa_cons (pe_dc (own := [("own", 6)]) (g := gName 6) (tt := tB (tCall (spIsValue K) [] E0 (tCons (tVar 6) tNil))) (tk := tVar 6) (tv := tC (.bl true)) rfl scAtBegin.nd (pi_tup (pe_call GE hr1 (by rfl) gE kE bE .nil pass0 (pa_cons (pv 4) pa_nil))) (blkOk_by (N := ["graph", "number", "alive", "steps", "end", "found", "own", "step"]) (sc := defScope sAtBegin) (by decide +kernel))
          (fun _ _ _ _ _ => pg_name (i := 6) scAtBegin.nd rfl (Or.inl rfl)) (fun _ _ _ _ _ => pts_one (pt_val (pe_call GI hr1 (by rfl) gI kI bI .nil pass0 (pa_cons (pv 6) pa_nil)))) (fun _ _ _ _ _ => pv 6) (fun _ _ _ _ _ => pe_bl)) pa_nil)))
      (pss_cons (ps_for PassesOwn.never rfl (pi_tup (pe_revT (pv 3))) (pg_name (i := 7) scAtBegin.nd rfl (.inl rfl))
        (pss_one (ps_if (pt_cmpR op_ne (pe_ix ix_tup (pv 7) pe_int (fun _ _ => rfl)) (pe_glob (v := .str "phi") (by rfl) C.gP ⟨_, rfl⟩) (nomark _))
          (pss_one (ps_set (i := 5) scAtBegin.nd rfl (.inl rfl) (pe_call GB hr (by rfl) gB kB bB .nil pass0 (pa_cons (pv 7) (pa_cons (pv 5) pa_nil))))) pss_nil)))
      (pss_one (ps_ret (pv 5)))))), ?_⟩
    have l5 := hA.len
    refine ep_blk (K := K) (σ := [some v, some (.int (k : Int)), some (.ref a), none, none, none, none, none]) rfl pv1 (ev_var rfl) hb H (Ex.refl H) _ fun u H1 e1 pu => ?_
    refine g_tup2 (d1 := rowD b.steps) (d2 := b.fin.d) pu fun v3 v4 p3 p4 => ?_
    refine q_asgS (es_copy (ev_var rfl) (hA.s.ex e1)) fun p H2 hp e2 s2 => ?_
    have rl : b.fin.reads.length ≤ 1 := by cases b.fin <;> simp [End.reads]
    refine q_updS s2 (ev_var rfl) (es_reads (σ := [some v, some (.int (k : Int)), some (.ref a), some v3, some v4, some (.ref p), none, none]) (ep_call (eps_cons (ep_var rfl (p4.ex e2)) eps_nil) ⟨b.fin, rfl, rfl⟩) (by omega) (by simp [wipe]) (fun x => rfl)) ?_ fun H3 e3 s3 => ?_
    · have h2 := nms_len (nms_rd b.fin.reads) (nodup_rd b.fin.reads)
      omega
    · have x3 : Ex H1 (upd H3 p (.dK (setK (uniK As (rdK b.fin.reads))))) := Ex.mut (e2.trans e3) hp
      have n3 : Nms (uniK As (rdK b.fin.reads)) := nms_uni hA.n (nms_rd _)
      refine q_forTP (ds := (b.steps.map Stp.d).reverse) (ep_revT (ep_var rfl (p3.ex x3))) (fun H4 i σ' H' => ∃ (y7 : Option V) (p' : Addr), σ' = [some v, some (.int (k : Int)), some (.ref a), some v3, some v4, some (.ref p'), none, y7] ∧ H1 p' = none ∧ SN H' p' ((b.steps.reverse.take i).foldl (fun A s => befK s A) (uniK As (rdK b.fin.reads))) ∧ Ex H4 H')
        (fun H4 e4 => ⟨none, p, rfl, hp, ⟨s3.ex e4, n3⟩, Ex.refl _⟩) (fun H4 i σ' H' ⟨_, _, _, _, _, e⟩ => tx_of e) ?_ ?_
      · rintro H4 i x d σ' H' e4 hd pd ⟨y7, p', rfl, hp', sn, ex⟩
        rw [← List.map_reverse] at hd
        obtain ⟨st, hst, rfl⟩ := map_at hd
        refine s_when (et_test (ev_is (ev_op (ev_kind (ep_var rfl pd)) ev_c (rv_ne rfl)) (congrArg V.bl (show _ = true from ?_)))) (fun _ H5 e5 => ?_) (fun e => by cases e)
        · have := kind_phi st
          have h2 : decide (V.str st.kind = V.str "phi") = decide (st.kind = "phi") := decide_eq_decide.mpr ⟨fun h => V.str.inj h, fun h => by rw [h]⟩
          rw [h2, this]
          rfl
        · have x5 : Ex H1 H5 := ((x3.trans e4).trans ex).trans e5
          refine ⟨_, rfl, _, rfl, x, st, p', _, rfl, pd.ex e5, sn.ex e5, fun p2 H6 hp2 e6 s6 => ⟨_, p2, rfl, fresh_back x5 hp2, ⟨?_, ?_⟩, (ex.trans e5).trans e6⟩⟩
          · rw [List.take_add_one, hst, List.foldl_append]
            exact s6
          · rw [List.take_add_one, hst, List.foldl_append]
            exact nms_bef sn.n
      · rintro H4 σ' H' e4 ⟨y7, p', rfl, hp', sn, ex⟩
        rw [List.length_reverse, List.length_map, List.take_of_length_le (by simp)] at sn
        exact s_ret (ev_var rfl) fun H5 e5 => q p' H5 (fresh_back e1 hp') ((e1.trans x3).trans ((e4.trans ex).trans e5)) (sn.s.ex e5)
end
end K36

namespace K36
open PySem PySem.Spec PyProof.Rows L2 Evl Pd Gd
abbrev sSolved : Stmt := topS 22
abbrev sLivesOut : Stmt := topS 23
theorem scSolved : FnScope ["graph", "many", "begins", "_", "ends", "changed", "number", "out", "goal", "own"] ["graph"] (defScope sSolved) := ⟨rfl, rfl, rfl, by decide +kernel, rfl, by decide +kernel, by decide +kernel⟩
theorem scLivesOut : FnScope ["graph", "own"] ["graph"] (defScope sLivesOut) := ⟨rfl, rfl, rfl, by decide +kernel, rfl, by decide +kernel, by decide +kernel⟩
/-- a list of sets -/
def LS (H : Hp) (l : Addr) (B : List (List Key)) : Prop := ∃ as : List Addr, H l = some (.lst (as.map V.ref)) ∧ as.length = B.length ∧ ∀ (i : Nat) (a : Addr) (L : List Key), as[i]? = some a → B[i]? = some L → SetAt H a L
theorem LS.ex {H H' : Hp} {l : Addr} {B : List (List Key)} (h : LS H l B) (e : Ex H H') : LS H' l B := let ⟨as, h1, h2, h3⟩ := h; ⟨as, e _ _ h1, h2, fun i a L x y => (h3 i a L x y).ex e⟩
theorem LS.at {H : Hp} {l : Addr} {B : List (List Key)} {k : Nat} {L : List Key} (h : LS H l B) (hk : B[k]? = some L) : ∃ a xs, H l = some (.lst xs) ∧ xs[k]? = some (.ref a) ∧ SetAt H a L := by
  obtain ⟨as, h1, h2, h3⟩ := h
  have hlt := (List.getElem?_eq_some_iff.mp hk).1
  have ha : as[k]? = some (as[k]'(by omega)) := List.getElem?_eq_getElem (by omega)
  exact ⟨_, _, h1, by rw [List.getElem?_map, ha]; rfl, h3 k _ L ha hk⟩
theorem set_other {H : Hp} {l a : Addr} {L : List Key} {xs : List V} {o : HO} (hl : H l = some (.lst xs)) (h : SetAt H a L) : SetAt (upd H l o) a L := by
  refine ⟨?_, h.nd⟩
  rw [upd_ne]
  · exact h.at_
  · intro z
    have := h.at_
    rw [z, hl] at this
    cases this
theorem LS.set {H : Hp} {l p : Addr} {B : List (List Key)} {k : Nat} {W : List Key} (h : LS H l B) (hp : SetAt H p W) : ∃ xs, H l = some (.lst xs) ∧ xs.length = B.length ∧ LS (upd H l (.lst (xs.set k (.ref p)))) l (B.set k W) := by
  obtain ⟨as, h1, h2, h3⟩ := h
  refine ⟨_, h1, by rw [List.length_map]; exact h2, as.set k p, by rw [upd_same, List.map_set], by rw [List.length_set, List.length_set]; exact h2, fun i a L x y => ?_⟩
  rcases get_set x with ⟨e1, e2⟩ | ⟨n1, x'⟩
  · rcases get_set y with ⟨_, e3⟩ | ⟨n2, _⟩
    · rw [e2, e3]
      exact set_other h1 hp
    · exact absurd e1 n2
  · rcases get_set y with ⟨e, _⟩ | ⟨_, y'⟩
    · exact absurd e n1
    · exact set_other h1 (h3 i a L x' y')
theorem LS.other {H : Hp} {l m : Addr} {B : List (List Key)} {xs : List V} {o : HO} (h : LS H m B) (hl : H l = some (.lst xs)) (hne : l ≠ m) : LS (upd H l o) m B := by
  obtain ⟨as, h1, h2, h3⟩ := h
  exact ⟨as, by rw [upd_ne (Ne.symm hne)]; exact h1, h2, fun i a L x y => set_other hl (h3 i a L x y)⟩
structure GGood (g : Gr) : Prop where
  len : g.length ≤ 100
  st : ∀ b ∈ g, b.steps.length ≤ 9
  gl : ∀ b ∈ g, ∀ j ∈ b.fin.goals, j < g.length
def spSolved (K : PySem.W.Frag) : Sp := fun vs H Q _ => ∃ (v : V) (ps : List Nm) (g : Gr), vs = [v] ∧ PV K H v (gD ps g) ∧ GGood g ∧
  ∀ t lb le B E H', Ex H H' → H' t = some (.tup [.ref lb, .ref le]) → LS H' lb B → LS H' le E → LInv g B E → (∀ k, k < g.length → Stable g B E k) → Q (.ref t) H'
def spLivesOut (K : PySem.W.Frag) : Sp := fun vs H Q _ => ∃ (v : V) (ps : List Nm) (g : Gr), vs = [v] ∧ PV K H v (gD ps g) ∧ GGood g ∧ ∀ outs u H', Sol g outs → Ex H H' → PV K H' u (outsD outs) → Q u H'
section
variable {K : PySem.W.Frag} {H : Hp} {σ : L2.St} {D : Ends} {tz : L2.TS} {ta tb tc te : TE} {E : XK}
/-- a walk over a tuple of which nothing is kept -/
theorem el_lcNo {ds : List PyData} {j : Nat} {vs : List Nat} {tl : TE} {t : TT} (h : EvP K tl σ H (.tuple ds)) (hz : ds.length ≤ 40000) (hw : ∀ x, wipe ((wipe σ vs).set j (some x)) vs = wipe σ vs)
    (ht : ∀ (i : Nat) (x : V) (d : PyData) H1, Ex H H1 → ds[i]? = some d → PV K H1 x d → EvT t ((wipe σ vs).set j (some x)) H1 false) : EvL (tLc (iTup K tl) (gName j) t te vs) σ H [] := fun H0 e Q q => h H0 e _ fun v H1 e1 pv => by
  obtain ⟨a, xs, rfl, hx, px⟩ := pv_tup pv
  refine ⟨a, rfl, ⟨xs, hx.sq⟩, fun Dl hD => lc_tup (xs := xs) (fun i H' => Ex H1 H' ∧ H' Dl = some (.lst [])) ⟨Ex.new hD, upd_same⟩ (fun i H' _ p => (hx.tx (tx_of p.1)).sq) (fun i x H' hi p => ?_) (fun H' p => q Dl H' (fresh_back e1 hD) (e1.trans p.1) p.2)⟩
  obtain ⟨c, hc, pc⟩ := px.get hi
  exact ⟨hw _, ht i x c H' ((e.trans e1).trans p.1) hc (pc.ex p.1) H' (Ex.refl H') _ fun H3 e3 => ⟨p.1.trans e3, e3 _ _ p.2⟩⟩
/-- xs = [{} for _ in range(n)] -/
theorem q_newSets {i j n : Nat} {ta : TA} {vs : List Nat} (h : EvA ta σ H [.int (n : Int)]) (hn : n ≤ 40000) (hw : ∀ x, wipe ((wipe σ vs).set j (some x)) vs = wipe σ vs) (k : ∀ l H', H l = none → Ex H H' → LS H' l (List.replicate n []) → tz D (σ.set i (some (.ref l))) H') :
    tSeq (tAsg (tLc (iRng1 ta) (gName j) tYes tDNewK vs) (gName i)) tz D σ H := h H (Ex.refl H) _ fun H1 e1 => by
  refine ⟨(n : Int), rfl, by omega, by omega, fun Dl hD => ?_⟩
  refine lc_range (lo := 0) (n := n) (fun i H' => ∃ as : List Addr, as.length = i ∧ H' Dl = some (.lst (as.map V.ref)) ∧ (∀ a ∈ as, SetAt H' a []) ∧ Ex H1 H') ⟨[], rfl, upd_same, (fun a h => by cases h), Ex.new hD⟩ (fun i H' hi p => ?_) (fun H' p => ?_)
  · obtain ⟨as, h1, h2, h3, h4⟩ := p
    refine ⟨hw _, fun d hd => ⟨_, (Ex.new hd) _ _ h2, by rw [List.length_map, h1]; exact sz_lt (by omega), as ++ [d], by simp [h1], by rw [upd_same]; simp, fun a ha => ?_, Ex.mut (h4.trans (Ex.new hd)) hD⟩⟩
    have hne : d ≠ Dl := fun z => by rw [z, h2] at hd; cases hd
    rcases List.mem_append.mp ha with ha | ha
    · exact set_other ((Ex.new hd) _ _ h2) ((h3 a ha).ex (Ex.new hd))
    · rw [List.mem_singleton.mp ha]
      exact ⟨by rw [upd_ne hne, upd_same]; rfl, List.nodup_nil⟩
  · obtain ⟨as, h1, h2, h3, h4⟩ := p
    refine k Dl H' (fresh_back e1 hD) (e1.trans h4) ⟨as, h2, by simp [h1], fun i a L x y => ?_⟩
    rw [(List.mem_replicate.mp (List.mem_of_getElem? y)).2]
    exact h3 a (List.mem_of_getElem? x)
theorem s_retU {xs : List V} (h : EvU te σ H xs) (k : ∀ p H1, H p = none → Ex H H1 → H1 p = some (.tup xs) → D.rt (.ref p) H1) : tRet te D σ H := h H (Ex.refl H) _ k
theorem q_asgTG {g : TG} {xs : List V} (h : EvU te σ H xs) (k : ∀ p H1, H p = none → Ex H H1 → H1 p = some (.tup xs) → g (.ref p) σ H1 fun σ2 H2 => tz D σ2 H2) : tSeq (tAsg te g) tz D σ H := h H (Ex.refl H) _ k
/-- for k in range(n - 1, -1, -1) -/
theorem s_forDown {ta : TA} {tu : L2.TS} {j n : Nat} (h : EvA ta σ H [.int ((n : Int) - 1), .int (-1), .int (-1)]) (hn : n ≤ 100000) (Pv : Nat → L2.St → Hp → Prop) (h0 : ∀ H1, Ex H H1 → Pv 0 σ H1)
    (hs : ∀ (i k : Nat) σ' H', k + i + 1 = n → Pv i σ' H' → tu { D with nx := Pv (i + 1), ct := Pv (i + 1), bk := D.nx } (σ'.set j (some (.int (k : Int)))) H') (hd : ∀ σ' H', Pv n σ' H' → D.nx σ' H') : tFor (iRng3 ta) (gName j) tu D σ H := h H (Ex.refl H) _ fun H1 e1 => by
  have hrg : RgC ((n : Int) - 1) (-1) (-1) n := by
    have := RgC.neg (i := (n : Int) - 1) (j := -1) (by omega) (by omega) (by omega) (by omega)
    rw [show ((n : Int) - 1 - -1).toNat = n by omega] at this
    exact this
  refine ⟨_, _, _, n, rfl, hrg, for_rangeC (lo := (n : Int) - 1) (c := -1) (n := n) Pv (h0 H1 e1) (fun i σ' H' hi p => ?_) hd⟩
  have ek : (n : Int) - 1 + (i : Nat) * (-1) = ((n - 1 - i : Nat) : Int) := by omega
  rw [ek]
  exact hs i _ σ' H' (by omega) p
/-- l[k] = a set, within a target -/
theorem g_setS {l p : Addr} {B : List (List Key)} {k : Nat} {W : List Key} {Q : L2.St → Hp → Prop} (h : LS H l B) (hp : SetAt H p W) (hk : k < B.length) (ho : Ev ta σ H (.ref l)) (hi : Ev tb σ H (.int (k : Int))) (q : ∀ H1 xs, Ex H H1 → H1 l = some (.lst xs) → LS (upd H1 l (.lst (xs.set k (.ref p)))) l (B.set k W) → Q σ (upd H1 l (.lst (xs.set k (.ref p))))) : gSub ta tb rSetL (.ref p) σ H Q :=
  ho H (Ex.refl H) _ fun H1 e1 => hi H1 e1 _ fun H2 e2 => by
    obtain ⟨xs, h1, h2, h3⟩ := (h.ex (e1.trans e2)).set (k := k) (hp.ex (e1.trans e2))
    exact ⟨l, xs, (k : Int), k, rfl, rfl, h1, ixN_nat (by rw [h2]; exact hk), q H2 xs (e1.trans e2) h1 h3⟩
theorem es_arms {tg : TE} {v : V} {ps : List Nm} {g : Gr} {k : Nat} {b : Blk} (h0 : Ev tg σ H v) (pv : PV K H v (gD ps g)) (hb : Ev tb σ H (.int (k : Int))) (hk : g[k]? = some b) (hg : GGood g) : EvS (tCall (spArms K) [] E (tCons tg (tCons tb tNil))) σ H [] := fun H1 e Q q =>
  h0 H1 e _ fun H2 e2 => hb H2 (e.trans e2) _ fun H3 e3 => ⟨v, ps, g, k, b, rfl, pv.ex ((e.trans e2).trans e3), hk, hg.gl b (List.mem_of_getElem? hk), fun p H4 hp e4 s => q p H4 (fresh_back (e2.trans e3) hp) ((e2.trans e3).trans e4) s⟩
theorem es_beg {tg : TE} {v : V} {ps : List Nm} {g : Gr} {k : Nat} {b : Blk} {a : Addr} {As : List Key} (h0 : Ev tg σ H v) (pv : PV K H v (gD ps g)) (hb : Ev tb σ H (.int (k : Int))) (hk : g[k]? = some b) (ha : Ev tc σ H (.ref a)) (hA : SN H a As) : EvS (tCall (spAtBegin K) [] E (tCons tg (tCons tb (tCons tc tNil)))) σ H (begK b As) := fun H1 e Q q =>
  h0 H1 e _ fun H2 e2 => hb H2 (e.trans e2) _ fun H3 e3 => ha H3 ((e.trans e2).trans e3) _ fun H4 e4 =>
    have x := (e2.trans e3).trans e4
    ⟨v, ps, g, k, b, a, As, rfl, pv.ex (e.trans x), hk, hA.ex (e.trans x), fun p H5 hp e5 s => q p H5 (fresh_back x hp) (x.trans e5) s⟩
theorem es_wo {tg : TE} {v : V} {ps : List Nm} {g : Gr} {k : Nat} {b : Blk} {a : Addr} {As : List Key} (h0 : Ev tg σ H v) (pv : PV K H v (gD ps g)) (hb : Ev tb σ H (.int (k : Int))) (hk : g[k]? = some b) (hg : GGood g) (ha : Ev tc σ H (.ref a)) (hA : SN H a As) : EvS (tCall (spWithout K) [] E (tCons tg (tCons tb (tCons tc tNil)))) σ H As := fun H1 e Q q =>
  h0 H1 e _ fun H2 e2 => hb H2 (e.trans e2) _ fun H3 e3 => ha H3 ((e.trans e2).trans e3) _ fun H4 e4 =>
    have x := (e2.trans e3).trans e4
    ⟨v, ps, g, k, b, a, As, rfl, pv.ex (e.trans x), hk, by have := hg.st b (List.mem_of_getElem? hk); omega, hA.ex (e.trans x), fun p H5 hp e5 s => q p H5 (fresh_back x hp) (x.trans e5) s⟩
end
section
variable {P : Program} {w : World} {K : PySem.W.Frag} {mg : Str → Option Value} {base : Heap}
theorem ok_without {f fW : Addr} {fd fdW : FuncData} (F : Fun K "without_phis" "without_phis" sWithout f fd) (C : Consts K mg)
    (GW : FnOk P w K mg base CX0 1 fW fdW ["step"] (spWritesOf K)) (kW : PySem.W.keepIn K (.ref fW) = true) (bW : Binds K fdW ["step"] []) (gW : mg "writes_of" = some (.ref fW)) : FnOk P w K mg base CX0 2 f fd ["graph", "number", "alive"] (spWithout K) := by
  refine F.ok scWithout (fun vs H Q E h => ?_) (fun cdv A outer s H vs Q E hr h => ?_)
  · obtain ⟨v, ps, g, k, b, a, A, rfl, _⟩ := h
    rfl
  · obtain ⟨v, ps, g, k, b, a, As, rfl, pv1, hb, hs, hA, q⟩ := h
    refine ⟨_, pss_cons (ps_set (i := 3) scWithout.nd rfl (.inr rfl) (pe_lc (own := [("step", 4)]) (g := gName 4) (tt := tTest (tOp rEq (tOp (rIxT K) (tVar 4) (tC (.int 0))) (tC (.str "phi")))) (te := tCall (spWritesOf K) [] E0 (tCons (tVar 4) tNil)) rfl scWithout.nd (pi_tup (pe_ix ix_tup (pe_ix ix_tup (pe_ix ix_tup (pv 0) pe_int (fun _ _ => rfl)) (pv 1) (fun _ _ => rfl)) pe_int (fun _ _ => rfl))) (blkOk_by (N := ["graph", "number", "alive", "written", "step", "own"]) (sc := defScope sWithout) (by decide +kernel))
        (fun _ _ _ _ _ => pg_name (i := 4) scWithout.nd rfl (Or.inl rfl)) (fun _ _ _ _ _ => pts_one (pt_cmpR op_eq (pe_ix ix_tup (pv 4) pe_int (fun _ _ => rfl)) (pe_glob (v := .str "phi") (by rfl) C.gP ⟨_, rfl⟩) (nomark _))) (fun _ _ _ _ _ => pe_call GW hr (by rfl) gW kW bW .nil pass0 (pa_cons (pv 4) pa_nil))))
      (pss_one (ps_ret (pe_lock (pe_dc (own := [("own", 5)]) (g := gName 5) (tt := tTest (tOp (rIn K true) (tVar 5) (tVar 3))) (tk := tVar 5) (tv := tC (.bl true)) rfl scWithout.nd (pi_keys (pv 2)) (blkOk_by (N := ["graph", "number", "alive", "written", "step", "own"]) (sc := defScope sWithout) (by decide +kernel))
        (fun _ _ _ _ _ => pg_name (i := 5) scWithout.nd rfl (Or.inl rfl)) (fun _ _ _ _ _ => pts_one (pt_cmpR op_notIn_seq (pv 5) (pv 3) (by rfl))) (fun _ _ _ _ _ => pv 5) (fun _ _ _ _ _ => pe_bl))))), ?_⟩
    refine q_asgL (el_lcNo (K := K) (σ := [some v, some (.int (k : Int)), some (.ref a), none, none, none]) (j := 4) (vs := [4]) (ds := b.steps.map Stp.d) (ep_stps (ep_blk (K := K) rfl pv1 (ev_var rfl) hb)) (by rw [List.length_map]; omega) (fun x => rfl) fun i x d H1 e1 hd pd => ?_) fun p H1 hp e1 hp1 => ?_
    · obtain ⟨st, hst, rfl⟩ := map_at hd
      exact et_test (ev_is (et_eqS (ev_kind (ep_var rfl pd)) ev_c) (congrArg V.bl (kind_phi st)))
    · have hs1 := hA.ex e1
      have l5 := hA.len
      have h := es_keys (σ := [some v, some (.int (k : Int)), some (.ref a), some (.ref p), none, none]) (j := 5) (vs := [5]) (tl := tVar 2) (t := tTest (tOp (rIn K true) (tVar 5) (tVar 3))) (fun _ => true) (fun H1 => ev_var rfl) hs1.s (by omega) (by simp [wipe]) (fun x => rfl) fun k' H2 ex hk => by
        have hne : p ≠ a := fun z => by
          have := hs1.s.at_
          rw [← z, hp1] at this
          cases this
        have hp2 := ex p _ hp1 hne
        exact et_test (ev_is (ev_op (ev_var rfl) (ev_var rfl) (rv_niL (SqL.of hp2) (by cases k' <;> rfl) rfl)) rfl)
      rw [show As.filter (fun _ => true) = As from List.filter_eq_self.mpr fun _ _ => rfl, uniK_nil hA.s.nd] at h
      exact s_retS h fun p2 H2 hp2 e2 s2 => q p2 H2 (fresh_back e1 hp2) (e1.trans e2) s2
theorem ok_solved {f fA fB fO fG : Addr} {fd fdA fdB fdO fdG : FuncData} (F : Fun K "solved" "solved" sSolved f fd)
    (GA : FnOk P w K mg base CX0 2 fA fdA ["graph", "number"] (spArms K)) (kA : PySem.W.keepIn K (.ref fA) = true) (bA : Binds K fdA ["graph", "number"] []) (gA : mg "arms_from" = some (.ref fA))
    (GB : FnOk P w K mg base CX0 3 fB fdB ["graph", "number", "alive"] (spAtBegin K)) (kB : PySem.W.keepIn K (.ref fB) = true) (bB : Binds K fdB ["graph", "number", "alive"] []) (gB : mg "at_begin" = some (.ref fB))
    (GO : FnOk P w K mg base CX0 2 fO fdO ["graph", "number", "alive"] (spWithout K)) (kO : PySem.W.keepIn K (.ref fO) = true) (bO : Binds K fdO ["graph", "number", "alive"] []) (gO : mg "without_phis" = some (.ref fO))
    (GG : FnOk P w K mg base CX0 1 fG fdG ["end"] (spGoalsOf K)) (kG : PySem.W.keepIn K (.ref fG) = true) (bG : Binds K fdG ["end"] []) (gG : mg "goals_of" = some (.ref fG)) (ml : mg "len" = none) (mr : mg "range" = none) : FnOk P w K mg base CX0 4 f fd ["graph"] (spSolved K) := by
  refine F.ok scSolved (fun vs H Q E h => ?_) (fun cdv A outer s H vs Q E hr h => ?_)
  · obtain ⟨v, ps, g, rfl, _⟩ := h
    rfl
  · obtain ⟨v, ps, g, rfl, pv0, hg, q⟩ := h
    have hr2 : Room 2 _ := hr.mono (by decide)
    have hr1 : Room 1 _ := hr.mono (by decide)
    refine ⟨_, pss_cons (ps_set (i := 1) scSolved.nd rfl (.inl rfl) (pe_callB call_len_seq (by rfl) ml PySem.boot_len (pa_cons (pe_ix ix_tup (pv 0) pe_int (fun _ _ => rfl)) pa_nil)))
      (pss_cons (ps_setLc (i := 2) (own := [("_", 3)]) (g := gName 3) (tt := tYes) (te := tDNewK) rfl scSolved.nd rfl rfl (sw_true rfl rfl rfl (by decide +kernel)) (pi_range1 rfl mr (pa_cons (pv 1) pa_nil)) (blkOk_by (N := ["graph", "many", "begins", "_", "ends", "changed", "number", "out", "goal", "own"]) (sc := defScope sSolved) (by decide +kernel))
        (fun _ _ _ _ _ => pg_name (i := 3) scSolved.nd rfl (Or.inl rfl)) (fun _ _ _ _ _ => pts_nil) (fun _ _ _ _ _ => pe_dnewK))
      (pss_cons (ps_setLc (i := 4) (own := [("_", 3)]) (g := gName 3) (tt := tYes) (te := tDNewK) rfl scSolved.nd rfl rfl (sw_true rfl rfl rfl (by decide +kernel)) (pi_range1 rfl mr (pa_cons (pv 1) pa_nil)) (blkOk_by (N := ["graph", "many", "begins", "_", "ends", "changed", "number", "out", "goal", "own"]) (sc := defScope sSolved) (by decide +kernel))
        (fun _ _ _ _ _ => pg_name (i := 3) scSolved.nd rfl (Or.inl rfl)) (fun _ _ _ _ _ => pts_nil) (fun _ _ _ _ _ => pe_dnewK))
      (pss_cons (ps_set (i := 5) scSolved.nd rfl (.inl rfl) pe_bl)
      (pss_cons (ps_while PassesOwn.never (pt_val (pv 5))
        (pss_cons (ps_set (i := 5) scSolved.nd rfl (.inl rfl) pe_bl)
        (pss_one (ps_for PassesOwn.never rfl (pi_range3 rfl mr (pa_cons (pe_op op_sub (pv 1) pe_int) (pa_cons (pe_un un_neg pe_int) (pa_cons (pe_un un_neg pe_int) pa_nil)))) (pg_name (i := 6) scSolved.nd rfl (.inl rfl))
          (pss_cons (ps_set (i := 7) scSolved.nd rfl (.inl rfl) (pe_call GA hr2 (by rfl) gA kA bA .nil pass0 (pa_cons (pv 0) (pa_cons (pv 6) pa_nil))))
          (pss_cons (ps_for PassesOwn.never rfl (pi_tup (pe_call GG hr1 (by rfl) gG kG bG .nil pass0 (pa_cons (pe_ix ix_tup (pe_ix ix_tup (pe_ix ix_tup (pv 0) pe_int (fun _ _ => rfl)) (pv 6) (fun _ _ => rfl)) pe_int (fun _ _ => rfl)) pa_nil))) (pg_name (i := 8) scSolved.nd rfl (.inl rfl))
            (pss_one (ps_expr (pe_bm PySem.F.plainAttrs_dict PySem.F.slot_dict_update PySem.F.type_dict_update mt_update (pv 7) (pa_cons (pe_call GO hr2 (by rfl) gO kO bO .nil pass0 (pa_cons (pv 0) (pa_cons (pv 8) (pa_cons (pe_ix ix_list (pv 2) (pv 8) (fun _ _ => rfl)) pa_nil)))) pa_nil)))))
          (pss_cons (ps_set (i := 9) scSolved.nd rfl (.inl rfl) (pe_call GB hr (by rfl) gB kB bB .nil pass0 (pa_cons (pv 0) (pa_cons (pv 6) (pa_cons (pv 7) pa_nil)))))
          (pss_one (ps_if (PW.pt (pw_or (pt_cmpR (op_neKD (room100 hr)) (pv 9) (pe_ix ix_list (pv 2) (pv 6) (fun _ _ => rfl)) (nomark _)) (pw_or1 (pt_cmpR (op_neKD (room100 hr)) (pv 7) (pe_ix ix_list (pv 4) (pv 6) (fun _ _ => rfl)) (nomark _)))))
            (pss_cons (ps_asg (pe_tup (pa_cons (pv 9) (pa_cons (pv 7) pa_nil))) (pg_tup rfl (pgs_cons (pg_sub (pv 2) (pv 6) set_list) (pgs_cons (pg_sub (pv 4) (pv 6) set_list) pgs_nil))))
            (pss_one (ps_set (i := 5) scSolved.nd rfl (.inl rfl) pe_bl))) pss_nil)))))))))
      (pss_one (ps_ret (pe_tup (pa_cons (pv 2) (pa_cons (pv 4) pa_nil))))))))), ?_⟩
    have egl : (g.length : Int) = ((g.map Blk.d).length : Int) := by rw [List.length_map]
    have hlen := hg.len
    refine q_asg (v := .int (g.length : Int)) (by rw [egl]; exact ev_lenT (K := K) (ep_ixT (i := 1) (ep_var rfl pv0) ev_c rfl)) fun H1 e1 => ?_
    refine q_newSets (n := g.length) (ea_cons (ev_var rfl) ea_nil) (by omega) (fun x => rfl) fun lb H2 hlb2 e2 sb2 => ?_
    refine q_newSets (n := g.length) (ea_cons (ev_var rfl) ea_nil) (by omega) (fun x => rfl) fun le H3 hle2 e3 se3 => ?_
    refine q_asg ev_c fun H4 e4 => ?_
    have e14 := ((e1.trans e2).trans e3).trans e4
    have hlb : H lb = none := fresh_back e1 hlb2
    have hle : H le = none := fresh_back (e1.trans e2) hle2
    have hne : lb ≠ le := fun z => by
      obtain ⟨as, h, _⟩ := sb2
      rw [← z, h] at hle2
      cases hle2
    refine q_while (fun m σ' H' => ∃ c y6 y7 y8 y9 B E, σ' = [some v, some (.int (g.length : Int)), some (.ref lb), none, some (.ref le), some (.bl c), y6, y7, y8, y9] ∧ LS H' lb B ∧ LS H' le E ∧ LInv g B E ∧ Ex H H' ∧ m = (if c = true then mu B + mu E + 1 else 0) ∧ (c = false → ∀ k, k < g.length → Stable g B E k))
      _ ⟨true, none, none, none, none, _, _, rfl, sb2.ex (e3.trans e4), se3.ex e4, linv0 g, e14, rfl, fun z => by cases z⟩ ?_
    rintro m σ' H' ⟨c, y6, y7, y8, y9, B, Es, rfl, sb, se, I, ex, rfl, hst⟩
    refine ⟨c, et_B (ev_var rfl), fun hc H5 e5 => ?_, fun hc H5 e5 => ?_⟩
    · subst hc
      refine ⟨fun σ2 H2 => ∃ c y6 y7 y8 y9 B' E', σ2 = [some v, some (.int (g.length : Int)), some (.ref lb), none, some (.ref le), some (.bl c), y6, y7, y8, y9] ∧ LS H2 lb B' ∧ LS H2 le E' ∧ LInv g B' E' ∧ Ex H H2 ∧ (c = true → mu B' + mu E' < mu B + mu Es) ∧ (c = false → ∀ k, k < g.length → Stable g B' E' k), ?_, ?_⟩
      · rintro σ2 H2 ⟨c, y6, y7, y8, y9, B', E', rfl, sb', se', I', ex', hm, hs'⟩
        refine ⟨_, ?_, c, y6, y7, y8, y9, B', E', rfl, sb', se', I', ex', rfl, hs'⟩
        cases c with
        | true =>
          have := hm rfl
          simp only [if_true]
          omega
        | false => simp
      · refine q_asg ev_c fun H6 e6 => ?_
        have e56 := e5.trans e6
        refine s_forDown (n := g.length) (ea_cons (ev_op (ev_var rfl) ev_c (rv_I0 (g := fun i j => .int (i - j)))) (ea_cons (x := .int (-1)) (ev_un ev_c ru_neg) (ea_cons (x := .int (-1)) (ev_un ev_c ru_neg) ea_nil))) (by omega) (fun i σ2 H2 => ∃ c y6 y7 y8 y9 B' E', σ2 = [some v, some (.int (g.length : Int)), some (.ref lb), none, some (.ref le), some (.bl c), y6, y7, y8, y9] ∧ LS H2 lb B' ∧ LS H2 le E' ∧ LInv g B' E' ∧ Ex H H2 ∧ (c = true → mu B' + mu E' < mu B + mu Es) ∧ (c = false → mu B' + mu E' ≤ mu B + mu Es ∧ ∀ k, k < g.length → g.length ≤ k + i → Stable g B' E' k))
          (fun H7 e7 => ⟨false, y6, y7, y8, y9, B, Es, rfl, sb.ex (e56.trans e7), se.ex (e56.trans e7), I, ex.trans (e56.trans e7), (fun z => by cases z), fun _ => ⟨Nat.le_refl _, fun k h1 h2 => by omega⟩⟩) ?_ ?_
        · rintro i k σ2 H8 hk ⟨c, y6, y7, y8, y9, B', E', rfl, sb8, se8, I8, ex8, hct, hcf⟩
          obtain ⟨b, hb⟩ : ∃ b, g[k]? = some b := ⟨_, List.getElem?_eq_getElem (by omega)⟩
          obtain ⟨L, hL⟩ : ∃ L, B'[k]? = some L := ⟨_, List.getElem?_eq_getElem (by have := I8.lb; omega)⟩
          obtain ⟨M, hM⟩ : ∃ M, E'[k]? = some M := ⟨_, List.getElem?_eq_getElem (by have := I8.le; omega)⟩
          have pv8 := pv0.ex ex8
          refine q_asgS (es_arms (K := K) (σ := [some v, some (.int (g.length : Int)), some (.ref lb), none, some (.ref le), some (.bl c), some (.int (k : Int)), y7, y8, y9]) (ev_var rfl) pv8 (ev_var rfl) hb hg) fun po H9 hpo e9 s9 => ?_
          refine q_forTP (ds := b.fin.goals.map natD) (ep_call (eps_cons (ep_fin (ep_blk (K := K) rfl (pv8.ex e9) (ev_var rfl) hb)) eps_nil) ⟨b.fin, rfl, rfl⟩) (fun H10 j σ' H' => ∃ y8, σ' = [some v, some (.int (g.length : Int)), some (.ref lb), none, some (.ref le), some (.bl c), some (.int (k : Int)), some (.ref po), y8, y9] ∧ SN H' po (outK B' (b.fin.goals.take j)) ∧ Ex H8 H' ∧ Tx H10 H')
            (fun H10 e10 => ⟨y8, rfl, ⟨s9.ex e10, nms_nil⟩, e9.trans e10, Tx.refl _⟩) (fun H10 j σ' H' ⟨_, _, _, _, t⟩ => t) ?_ ?_
          · rintro H10 j x d σ' H' e10 hd pd ⟨y8', rfl, sn, ex', tx'⟩
            obtain ⟨j', hj', rfl⟩ := map_at hd
            cases pv_int pd
            have hjg : j' < g.length := hg.gl b (List.mem_of_getElem? hb) j' (List.mem_of_getElem? hj')
            obtain ⟨b', hb'⟩ : ∃ b', g[j']? = some b' := ⟨_, List.getElem?_eq_getElem hjg⟩
            obtain ⟨Lj, hLj⟩ : ∃ L, B'[j']? = some L := ⟨_, List.getElem?_eq_getElem (by have := I8.lb; omega)⟩
            obtain ⟨aj, xs, hx1, hx2, hx3⟩ := (sb8.ex ex').at hLj
            have snj : SN H' aj Lj := ⟨hx3, (I8.nb Lj (List.mem_of_getElem? hLj)).1⟩
            have lj := snj.len
            have ln := sn.len
            refine s_updS sn.s (ev_var rfl) (es_wo (K := K) (k := j') (b := b') (ev_var rfl) (pv8.ex ex') (ev_var rfl) hb' hg (ev_op (ev_var rfl) (ev_var rfl) (rv_ixL (SqL.of hx1) (atI_nat hx2))) snj) (by omega) fun H11 e11 s11 => ⟨_, rfl, ?_, Ex.mut (ex'.trans e11) hpo, (tx'.trans (tx_of e11)).trans (Tx.updD (e11 _ _ sn.s.at_))⟩
            have eo : outK B' (b.fin.goals.take (j + 1)) = uniK (outK B' (b.fin.goals.take j)) Lj := by
              unfold outK
              rw [List.take_add_one, hj', List.foldl_append]
              show uniK _ (B'.getD j' []) = _
              rw [List.getD_eq_getElem?_getD, hLj]
              rfl
            rw [eo]
            exact ⟨s11, nms_uni sn.n snj.n⟩
          · rintro H10 σ' H11 e10 ⟨y8', rfl, sn, ex', tx'⟩
            rw [List.length_map, List.take_length] at sn
            refine q_asgS (es_beg (K := K) (ev_var rfl) (pv8.ex ex') (ev_var rfl) hb (ev_var rfl) sn) fun pw H12 hpw e12 s12 => ?_
            have ex12 := ex'.trans e12
            have sb12 := sb8.ex ex12
            have se12 := se8.ex ex12
            obtain ⟨aL, xs, hx1, hx2, hx3⟩ := sb12.at hL
            obtain ⟨aM, xs', hy1, hy2, hy3⟩ := se12.at hM
            have dL := (I8.nb L (List.mem_of_getElem? hL)).2
            have dM := (I8.ne M (List.mem_of_getElem? hM)).2
            refine s_when (b := !eqKD (kdS (begK b (outK B' b.fin.goals))) (kdS L) || !eqKD (kdS (outK B' b.fin.goals)) (kdS M)) (et_or (et_test (et_neS (K := K) (ev_var rfl) (ev_op (ev_var rfl) (ev_var rfl) (rv_ixL (SqL.of hx1) (atI_nat hx2))) s12 hx3)) fun _ => et_test (et_neS (K := K) (ev_var rfl) (ev_op (ev_var rfl) (ev_var rfl) (rv_ixL (SqL.of hy1) (atI_nat hy2))) (sn.s.ex e12) hy3)) (fun he H13 e13 => ?_) (fun he H13 e13 => ?_)
            · have hc : ¬ (Same (begK b (outK B' b.fin.goals)) L ∧ Same (outK B' b.fin.goals) M) := fun ⟨h1, h2⟩ => by
                rw [(eqKD_set s12.nd dL).mpr h1, (eqKD_set sn.s.nd dM).mpr h2] at he
                cases he
              obtain ⟨I', hmu⟩ := linv_set I8 hb hL hM hc
              refine q_asgTG (eu_tup (ea_cons (ev_var rfl) (ea_cons (ev_var rfl) ea_nil)) (by simp)) fun t H14 _ e14 ht => ?_
              have e15 : Ex H12 H14 := e13.trans e14
              have kB : k < B'.length := by have := I8.lb; omega
              have kE : k < E'.length := by have := I8.le; omega
              refine ⟨t, _, rfl, SqT.of ht, rfl, _, _, rfl, g_setS (sb12.ex e15) (s12.ex e15) kB (ev_var rfl) (ev_var rfl) fun H16 xs1 e16 hx16 sb16 => ?_⟩
              have e126 := e15.trans e16
              have se16 := (se12.ex e126).other (o := .lst (xs1.set k (.ref pw))) hx16 hne
              have so16 := set_other (o := .lst (xs1.set k (.ref pw))) hx16 (sn.s.ex (e12.trans e126))
              refine ⟨_, _, rfl, g_setS se16 so16 kE (ev_var rfl) (ev_var rfl) fun H17 xs2 e17 hx17 se17 => ⟨rfl, ?_⟩⟩
              have sb17 := (sb16.ex e17).other (o := .lst (xs2.set k (.ref po))) hx17 (Ne.symm hne)
              have x17 : Ex H (upd H17 le (.lst (xs2.set k (.ref po)))) := Ex.mut ((Ex.mut (ex8.trans (ex12.trans e126)) hlb).trans e17) hle
              exact s_asg ev_c fun H18 e18 => ⟨_, _, _, _, _, _, _, rfl, sb17.ex e18, se17.ex e18, I', x17.trans e18, (fun _ => by
                cases c with
                | true => have := hct rfl; omega
                | false => have := (hcf rfl).1; omega), fun z => by cases z⟩
            · have hs1 : eqKD (kdS (begK b (outK B' b.fin.goals))) (kdS L) = true := by
                cases h1 : eqKD (kdS (begK b (outK B' b.fin.goals))) (kdS L) with
                | true => rfl
                | false => rw [h1] at he; cases he
              have hs2 : eqKD (kdS (outK B' b.fin.goals)) (kdS M) = true := by
                cases h1 : eqKD (kdS (outK B' b.fin.goals)) (kdS M) with
                | true => rfl
                | false => rw [h1, hs1] at he; cases he
              have stk : Stable g B' E' k := fun b2 L2 M2 h1 h2 h3 => by
                rw [hb] at h1
                rw [hL] at h2
                rw [hM] at h3
                cases h1
                cases h2
                cases h3
                exact ⟨(eqKD_set s12.nd dL).mp hs1, (eqKD_set sn.s.nd dM).mp hs2⟩
              refine ⟨_, _, _, _, _, _, _, rfl, sb12.ex e13, se12.ex e13, I8, (ex8.trans ex12).trans e13, hct, fun hc => ⟨(hcf hc).1, fun k2 h1 h2 => ?_⟩⟩
              by_cases e : k2 = k
              · rw [e]
                exact stk
              · exact (hcf hc).2 k2 h1 (by omega)
        · rintro σ2 H8 ⟨c, y6, y7, y8, y9, B', E', rfl, sb8, se8, I8, ex8, hct, hcf⟩
          exact ⟨c, y6, y7, y8, y9, B', E', rfl, sb8, se8, I8, ex8, hct, fun hc k hk => (hcf hc).2 k hk (by omega)⟩
    · refine s_retU (eu_tup (ea_cons (ev_var rfl) (ea_cons (ev_var rfl) ea_nil)) (by simp)) fun t H6 _ e6 ht => ?_
      have e57 := e5.trans e6
      exact q t lb le B Es _ (ex.trans e57) ht (sb.ex e57) (se.ex e57) I (hst hc)
def rSrtD : List V → Hp → VK → Prop := fun xs H Q => ∃ (a : Addr) (kvs : List (Key × V)) (ks : List Str), xs = [.ref a] ∧ Rd H a (.dK kvs) ∧ kvs.map (·.1) = ks.map Sum.inr ∧ ks.length < 64 ∧ ∀ ys p, ys.Perm ks → sortedS ys = true → H p = none → Q (.ref p) (upd H p (.lst (ys.map V.str)))
theorem ok_lives_out {f fS : Addr} {fd fdS : FuncData} (F : Fun K "lives_out" "lives_out" sLivesOut f fd)
    (GS : FnOk P w K mg base CX0 4 fS fdS ["graph"] (spSolved K)) (kS : PySem.W.keepIn K (.ref fS) = true) (bS : Binds K fdS ["graph"] []) (gS : mg "solved" = some (.ref fS)) (mt : mg "tuple" = none) (ms : mg "sorted" = none) : FnOk P w K mg base CX0 5 f fd ["graph"] (spLivesOut K) := by
  refine F.ok scLivesOut (fun vs H Q E h => ?_) (fun cdv A outer s H vs Q E hr h => ?_)
  · obtain ⟨v, ps, g, rfl, _⟩ := h
    rfl
  · obtain ⟨v, ps, g, rfl, pv0, hg, q⟩ := h
    refine ⟨_, pss_one (ps_ret (pe_tupleOf (by rfl) mt (pe_lc (own := [("own", 1)]) (g := gName 1) (tt := tYes) (te := tThen (tCB rSrtD (tCons (tVar 1) tNil)) (kTup K)) rfl scLivesOut.nd (pi_list (pe_ix ix_tup (pe_call GS hr (by rfl) gS kS bS .nil pass0 (pa_cons (pv 0) pa_nil)) pe_int (fun _ _ => rfl))) (blkOk_by (N := ["graph", "own"]) (sc := defScope sLivesOut) (by decide +kernel))
        (fun _ _ _ _ _ => pg_name (i := 1) scLivesOut.nd rfl (Or.inl rfl)) (fun _ _ _ _ _ => pts_nil) (fun _ _ _ _ _ => pe_tupleOf (by rfl) mt (pe_callB (call_sortedD rfl) (by rfl) ms (by decide +kernel) (pa_cons (pv 1) pa_nil)))))), ?_⟩
    refine ev_var rfl H (Ex.refl H) _ fun H0 e0 => ⟨v, ps, g, rfl, pv0.ex e0, hg, fun t lb le B E H1 e1 ht sb se I st => ?_⟩
    refine ⟨t, _, 1, .ref le, rfl, rfl, SqT.of ht, rfl, le, rfl, ?_⟩
    obtain ⟨as, h1, h2, h3⟩ := se
    refine ⟨⟨_, SqL.of h1⟩, fun Dl hD => lc_list (xs := as.map V.ref) (fun i H' => ∃ (outs : List (List Nm)) (ws : List V), outs.length = i ∧ H' Dl = some (.lst ws) ∧ PVs K H' ws (outs.map fun l => .tuple (l.map Nm.d)) ∧ (∀ (k : Nat) (o : List Nm) (M : List Key), outs[k]? = some o → E[k]? = some M → (o.map nk).Perm M) ∧ Ex H1 H') ⟨[], [], rfl, upd_same, .nil, (fun k o M h => by cases h), Ex.new hD⟩ (fun i H' _ ⟨_, _, _, _, _, _, x⟩ => SqL.of (x _ _ h1)) (fun i x H' hi p => ?_) (fun H' p => ?_)⟩
    · obtain ⟨outs, ws, p1, p2, p3, p4, p5⟩ := p
      obtain ⟨a, ha, rfl⟩ := map_at hi
      have hlt := (List.getElem?_eq_some_iff.mp ha).1
      have hE : E[i]? = some (E[i]'(by omega)) := List.getElem?_eq_getElem (by omega)
      have sM := (h3 i a _ ha hE).ex p5
      have nM := (I.ne _ (List.mem_of_getElem? hE)).1
      generalize hM : E[i]'(by omega) = M at hE sM nM
      have lM := nms_len nM sM.nd
      obtain ⟨N, hN⟩ : ∃ N : List Nm, M = N.map nk := by
        clear hM hE sM lM
        induction M with
        | nil => exact ⟨[], rfl⟩
        | cons k M ih =>
          obtain ⟨N, hN⟩ := ih fun k hk => nM k (List.mem_cons_of_mem _ hk)
          obtain ⟨n, hn⟩ := nM k List.mem_cons_self
          exact ⟨n :: N, by rw [hN, hn]; rfl⟩
      refine ⟨rfl, _, rfl, a, setK M, N.map Nm.s, rfl, .inl sM.at_, ?_, ?_, fun ys p hp _ hpn => .inl ⟨p, _, rfl, SqL.of upd_same, fun c hc => ?_⟩⟩
      · rw [hN]
        unfold setK
        rw [List.map_map, List.map_map, List.map_map]
        rfl
      · rw [hN, List.length_map] at lM
        rw [List.length_map]
        omega
      · have e3 : Ex H' (upd (upd H' p (.lst (ys.map V.str))) c (.tup (ys.map V.str))) := (Ex.new hpn).trans (Ex.new hc)
        obtain ⟨o, ho1, ho2⟩ : ∃ o : List Nm, ys = o.map Nm.s ∧ o.Perm N := by
          clear hM hE sM lM hN
          suffices ∀ {ys zs : List Str}, ys.Perm zs → ∀ N : List Nm, zs = N.map Nm.s → ∃ o : List Nm, ys = o.map Nm.s ∧ o.Perm N from this hp N rfl
          intro ys zs h
          induction h with
          | nil => exact fun l e => ⟨l, e, .refl _⟩
          | cons x _ ih =>
            intro l e
            cases l with
            | nil => cases e
            | cons a l =>
              rw [List.map_cons] at e
              obtain ⟨e1, e2⟩ := List.cons.inj e
              obtain ⟨m, h1, h2⟩ := ih l e2
              exact ⟨a :: m, by rw [List.map_cons, ← h1, e1], h2.cons _⟩
          | swap x y l0 =>
            intro l e
            cases l with
            | nil => cases e
            | cons a l => cases l with
              | nil => cases (List.cons.inj e).2
              | cons b l =>
                rw [List.map_cons, List.map_cons] at e
                obtain ⟨e1, e2⟩ := List.cons.inj e
                obtain ⟨e2, e3⟩ := List.cons.inj e2
                exact ⟨b :: a :: l, by rw [List.map_cons, List.map_cons, ← e1, ← e2, ← e3], .swap _ _ _⟩
          | trans _ _ ih1 ih2 =>
            intro l e
            obtain ⟨m, h1, h2⟩ := ih2 l e
            obtain ⟨m2, h3, h4⟩ := ih1 m h1
            exact ⟨m2, h3, h4.trans h2⟩
        have hws : ws.length = outs.length := by have := p3.length; rwa [List.length_map] at this
        have glen := hg.len
        have iE := I.le
        refine ⟨ws, e3 _ _ p2, sz_lt (by omega), outs ++ [o], ws ++ [.ref c], by simp [p1], upd_same, ?_, fun k o' M' x y => ?_, Ex.mut (p5.trans e3) hD⟩
        · rw [List.map_append]
          have pc : PV K (upd (upd H' p (.lst (ys.map V.str))) c (.tup (ys.map V.str))) (.ref c) (.tuple (o.map Nm.d)) := by
            refine .tup (.inl upd_same) ?_
            rw [ho1]
            clear ho1 ho2
            have : ∀ (G : Hp) (o : List Nm), PVs K G ((o.map Nm.s).map V.str) (o.map Nm.d) := fun G o => by
              induction o with
              | nil => exact .nil
              | cons a o ih => exact .cons (.str _) ih
            exact this _ o
          exact ((p3.ex e3).append (PVs.one pc)).tx (Tx.updL (e3 _ _ p2))
        · by_cases hk : k < outs.length
          · rw [List.getElem?_append_left hk] at x
            exact p4 k o' M' x y
          · rw [List.getElem?_append_right (by omega)] at x
            have ek : k = outs.length := by
              by_cases e : k - outs.length = 0
              · omega
              · rw [List.getElem?_eq_none (by simp; omega)] at x
                cases x
            subst ek
            rw [p1] at y
            simp only [Nat.sub_self, List.getElem?_cons_zero, Option.some.injEq] at x
            rw [hE] at y
            cases y
            rw [← x, hN]
            exact ho2.map nk
    · obtain ⟨outs, ws, p1, p2, p3, p4, p5⟩ := p
      refine .inl ⟨Dl, ws, rfl, SqL.of p2, fun c hc => q outs _ _ (sol_of I st (by rw [p1, List.length_map, h2, I.le]) p4) ((e0.trans e1).trans (p5.trans (Ex.new hc))) (.tup (.inl upd_same) (p3.ex (Ex.new hc)))⟩
end
end K36

/-! The deck of a law: a list [script, place, left, seed]; what draws from it changes it alone. -/
namespace Dk
open PySem PySem.Spec PyProof.Rows L2 Evl Pd Gd
def Exl (l : Addr) (H H' : Hp) : Prop := ∀ a o, H a = some o → a ≠ l → H' a = some o
theorem Exl.refl {l : Addr} (H : Hp) : Exl l H H := fun _ _ h _ => h
theorem Exl.trans {l : Addr} {H H1 H2 : Hp} (a : Exl l H H1) (b : Exl l H1 H2) : Exl l H H2 := fun x o h n => b x o (a x o h n) n
theorem exl_of {l : Addr} {H H' : Hp} (e : Ex H H') : Exl l H H' := fun a o h _ => e a o h
theorem Exl.upd {l : Addr} {H : Hp} {o : HO} : Exl l H (L2.upd H l o) := fun a u h n => by rw [upd_ne n]; exact h
theorem Exl.tx {l : Addr} {H H' : Hp} (e : Exl l H H') {xs : List V} (h : H l = some (.lst xs)) : Tx H H' := fun a ys ha => e a _ ha fun z => by
  subst z
  rw [h] at ha
  cases ha
theorem Exl.ex {l : Addr} {H H' : Hp} (e : Exl l H H') (h : H l = none) : Ex H H' := fun a o ha => e a o ha fun z => by
  subst z
  rw [h] at ha
  cases ha
theorem Ex.exl {l : Addr} {H H1 H2 : Hp} (e : Ex H H1) (h : H l = none) (x : Exl l H1 H2) : Ex H H2 := fun a o ha => x a o (e a o ha) fun z => by
  subst z
  rw [h] at ha
  cases ha
theorem Exl.mut {l p : Addr} {H H' : Hp} {o : HO} (e : Exl l H H') (h : H p = none) : Exl l H (L2.upd H' p o) := fun a u ha hl => by
  rw [upd_ne (ne_of_none ha h)]
  exact e a u ha hl
/-- fresh ahead of a step that keeps all but one thing -/
theorem fresh_backl {d : Addr} {H H' : Hp} {p : Addr} (e : Exl d H H') (hd : ∃ o, H' d = some o) (h : H' p = none) : H p = none := by
  cases h1 : H p with
  | none => rfl
  | some o =>
    have hne : p ≠ d := fun z => by
      obtain ⟨o', ho⟩ := hd
      rw [z, ho] at h
      cases h
    rw [e p o h1 hne] at h
    cases h
structure Deck (H : Hp) (d ls : Addr) (ns : List Int) : Prop where
  ne : ls ≠ d
  li : H ls = some (.lst (ns.map V.int))
  dk : ∃ i : Nat, ∃ b s : Int, H d = some (.lst [.ref ls, .int (i : Int), .int b, .int s]) ∧ 0 ≤ b ∧ 0 ≤ s ∧ s < 2147483647
theorem Deck.ex {H H' : Hp} {d ls : Addr} {ns : List Int} (D : Deck H d ls ns) (e : Ex H H') : Deck H' d ls ns :=
  ⟨D.ne, e _ _ D.li, let ⟨i, b, s, h, r⟩ := D.dk; ⟨i, b, s, e _ _ h, r⟩⟩
theorem Deck.tx {H : Hp} {d ls : Addr} {ns : List Int} (D : Deck H d ls ns) {H' : Hp} (e : Exl d H H') : Tx H H' := let ⟨_, _, _, h, _⟩ := D.dk; e.tx h
theorem Deck.some {H : Hp} {d ls : Addr} {ns : List Int} (D : Deck H d ls ns) : ∃ o, H d = some o := let ⟨_, _, _, h, _⟩ := D.dk; ⟨_, h⟩
/-- a new thing, or a change of a thing that is not the deck's -/
theorem Deck.upd {H : Hp} {d ls p : Addr} {ns : List Int} {o : HO} (D : Deck H d ls ns) (h1 : p ≠ d) (h2 : p ≠ ls) : Deck (L2.upd H p o) d ls ns :=
  ⟨D.ne, by rw [upd_ne (Ne.symm h2)]; exact D.li, let ⟨i, b, s, h, r⟩ := D.dk; ⟨i, b, s, by rw [upd_ne (Ne.symm h1)]; exact h, r⟩⟩
theorem Deck.nes {H : Hp} {d ls p : Addr} {ns : List Int} (D : Deck H d ls ns) (hp : H p = none) : p ≠ d ∧ p ≠ ls := by
  refine ⟨fun z => ?_, fun z => ?_⟩
  · obtain ⟨_, _, _, h, _⟩ := D.dk
    rw [z, h] at hp
    cases hp
  · have h := D.li
    rw [z, h] at hp
    cases hp
def spBegin (K : PySem.W.Frag) : Sp := fun vs H Q _ => ∃ (a : Addr) (ns : List Int), vs = [.ref a] ∧ SqL K H a (ns.map V.int) ∧ ns.length ≤ 63 ∧ ∀ d ls H', H d = none → H ls = none → Ex H H' → Deck H' d ls ns → Q (.ref d) H'
def spTake : Sp := fun vs H Q _ => ∃ (d ls : Addr) (ns : List Int) (m : Nat), vs = [.ref d, .int (m : Int)] ∧ Deck H d ls ns ∧ 0 < m ∧ m ≤ 1000000 ∧ ns.length ≤ 63 ∧ ∀ (r : Nat) H', r < m → Exl d H H' → Deck H' d ls ns → Q (.int (r : Int)) H'
def MenuAt (K : PySem.W.Frag) (H : Hp) (d m : Addr) (ds : List PyData) : Prop := (∃ xs, H m = some (.lst xs) ∧ m ≠ d ∧ PVs K H xs ds) ∨ PV K H (.ref m) (.tuple ds)
theorem MenuAt.exl {K : PySem.W.Frag} {H H' : Hp} {d m : Addr} {ds : List PyData} (h : MenuAt K H d m ds) (e : Exl d H H') (t : Tx H H') : MenuAt K H' d m ds := by
  rcases h with ⟨xs, h1, h2, h3⟩ | h
  · exact .inl ⟨xs, e _ _ h1 h2, h2, h3.tx t⟩
  · exact .inr (h.tx t)
def spPick (K : PySem.W.Frag) : Sp := fun vs H Q _ => ∃ (d ls m : Addr) (ns : List Int) (ds : List PyData), vs = [.ref d, .ref m] ∧ Deck H d ls ns ∧ ns.length ≤ 63 ∧ MenuAt K H d m ds ∧ ds ≠ [] ∧ ds.length ≤ 1000000 ∧
  ∀ (i : Nat) (dd : PyData) (v : V) (H' : Hp), ds[i]? = some dd → Exl d H H' → Deck H' d ls ns → PV K H' v dd → Q v H'
/-! ### what draws -/
/-- te gives some data of S, and changes the deck alone -/
def EvX (K : PySem.W.Frag) (d ls : Addr) (ns : List Int) (te : TE) (σ : L2.St) (H : Hp) (S : PyData → Prop) : Prop := ∀ H1, Exl d H H1 → Deck H1 d ls ns → ∀ Q : VK, (∀ v e H2, S e → Exl d H1 H2 → Deck H2 d ls ns → PV K H2 v e → Q v H2) → te σ H1 Q
def EvXs (K : PySem.W.Frag) (d ls : Addr) (ns : List Int) (ta : TA) (σ : L2.St) (H : Hp) (S : List PyData → Prop) : Prop := ∀ H1, Exl d H H1 → Deck H1 d ls ns → ∀ Q : List V → Hp → Prop, (∀ vs es H2, S es → Exl d H1 H2 → Deck H2 d ls ns → PVs K H2 vs es → Q vs H2) → ta σ H1 Q
/-- a new list of such -/
def EvXL (K : PySem.W.Frag) (d ls : Addr) (ns : List Int) (te : TE) (σ : L2.St) (H : Hp) (S : List PyData → Prop) : Prop := ∀ H1, Exl d H H1 → Deck H1 d ls ns → ∀ Q : VK, (∀ p vs es H2, H1 p = none → S es → Exl d H1 H2 → Deck H2 d ls ns → H2 p = some (.lst vs) → PVs K H2 vs es → Q (.ref p) H2) → te σ H1 Q
section
variable {K : PySem.W.Frag} {H H' : Hp} {σ : L2.St} {D : Ends} {tz tu : L2.TS} {ta : TA} {te tb td tm : TE} {d ls : Addr} {ns : List Int} {S T : PyData → Prop} {E : XK}
theorem EvX.mono (h : EvX K d ls ns te σ H S) (e : Exl d H H') : EvX K d ls ns te σ H' S := fun H1 a D Q q => h H1 (e.trans a) D Q q
theorem EvX.imp (h : EvX K d ls ns te σ H S) (i : ∀ e, S e → T e) : EvX K d ls ns te σ H T := fun H1 a D Q q => h H1 a D Q fun v e H2 s => q v e H2 (i e s)
/-- what draws nothing, whatever the deck -/
theorem ex_ep {e : PyData} (h : ∀ H1, Exl d H H1 → EvP K te σ H1 e) (s : S e) : EvX K d ls ns te σ H S := fun H1 a D Q q => h H1 a H1 (Ex.refl H1) Q fun v H2 e2 p => q v e H2 s (exl_of e2) (D.ex e2) p
theorem ex_var {v : V} {e : PyData} {i : Nat} (h : σ[i]? = some (some v)) (p : PV K H v e) (D : Deck H d ls ns) (s : S e) : EvX K d ls ns (tVar i) σ H S := ex_ep (fun H1 a => ep_var h (p.tx (D.tx a))) s
theorem ex_str {x : Str} (s : S (.str x)) : EvX K d ls ns (tC (.str x)) σ H S := ex_ep (fun _ _ => ep_str) s
theorem ex_int {i : Int} (s : S (.int i)) : EvX K d ls ns (tC (.int i)) σ H S := ex_ep (fun _ _ => ep_int) s
theorem exs_nil : EvXs K d ls ns tNil σ H (fun es => es = []) := fun H1 _ D Q q => q [] [] H1 rfl (Exl.refl H1) D .nil
theorem exs_cons {S : PyData → Prop} {R : List PyData → Prop} {tr : TA} (h : EvX K d ls ns te σ H S) (hr : EvXs K d ls ns tr σ H R) : EvXs K d ls ns (tCons te tr) σ H (fun es => ∃ e r, es = e :: r ∧ S e ∧ R r) := fun H1 a D Q q =>
  h H1 a D _ fun v e H2 s a2 D2 p => hr H2 (a.trans a2) D2 _ fun vs es H3 s3 a3 D3 ps => q _ _ H3 ⟨e, es, rfl, s, s3⟩ (a2.trans a3) D3 (.cons (p.tx (D2.tx a3)) ps)
theorem ex_tup {R : List PyData → Prop} (h : EvXs K d ls ns ta σ H R) (hl : ∀ es, R es → es.length ≤ 1000) (i : ∀ es, R es → S (.tuple es)) : EvX K d ls ns (tTup ta) σ H S := fun H1 a D Q q =>
  h H1 a D _ fun vs es H2 s a2 D2 ps => ⟨by rw [ps.length]; have := hl es s; exact sz_of (by omega), fun p hp => q _ _ _ (i es s) (a2.trans (exl_of (Ex.new hp))) (D2.ex (Ex.new hp)) (.tup (.inl upd_same) (ps.ex (Ex.new hp)))⟩
theorem exl_lst {R : List PyData → Prop} (h : EvXs K d ls ns ta σ H R) (hl : ∀ es, R es → es.length ≤ 1000) : EvXL K d ls ns (tLst ta) σ H R := fun H1 a D Q q =>
  h H1 a D _ fun vs es H2 s a2 D2 ps => ⟨by rw [ps.length]; have := hl es s; exact sz_of (by omega), fun p hp => q p vs es _ (fresh_backl a2 D2.some hp) s (a2.trans (exl_of (Ex.new hp))) (D2.ex (Ex.new hp)) upd_same (ps.ex (Ex.new hp))⟩
/-- a draw -/
theorem ex_take {m : Nat} (hd : ∀ H1, Exl d H H1 → Ev td σ H1 (.ref d)) (h : ∀ H1, Exl d H H1 → Ev tm σ H1 (.int (m : Int))) (h0 : 0 < m) (h1 : m ≤ 1000000) (hl : ns.length ≤ 63) : EvX K d ls ns (tCall spTake [] E (tCons td (tCons tm tNil))) σ H (fun e => ∃ r : Nat, r < m ∧ e = .int (r : Int)) := fun H1 a D Q q =>
  hd H1 a H1 (Ex.refl H1) _ fun H2 e2 => h H2 (a.trans (exl_of e2)) H2 (Ex.refl H2) _ fun H3 e3 => ⟨d, ls, ns, m, rfl, D.ex (e2.trans e3), h0, h1, hl, fun r H4 hr a4 D4 => q _ _ H4 ⟨r, hr, rfl⟩ ((exl_of (e2.trans e3)).trans a4) D4 (.int _)⟩
/-- a menu -/
def EvM (K : PySem.W.Frag) (d : Addr) (tm : TE) (σ : L2.St) (H : Hp) (ds : List PyData) : Prop := ∀ Q : VK, (∀ m H2, Ex H H2 → MenuAt K H2 d m ds → Q (.ref m) H2) → tm σ H Q
theorem em_list {ds : List PyData} (h : EvPL K tm σ H ds) (D : ∃ o, H d = some o) : EvM K d tm σ H ds := fun Q q => h H (Ex.refl H) Q fun p vs H2 hp e2 hl ps => by
  refine q p H2 e2 (.inl ⟨vs, hl, fun z => ?_, ps⟩)
  obtain ⟨o, ho⟩ := D
  rw [z, ho] at hp
  cases hp
theorem em_tup {ds : List PyData} (h : EvP K tm σ H (.tuple ds)) : EvM K d tm σ H ds := fun Q q => h H (Ex.refl H) Q fun v H2 e2 p => by
  obtain ⟨a, xs, rfl, hx, px⟩ := pv_tup p
  exact q a H2 e2 (.inr p)
theorem em_at {ds : List PyData} {m : Addr} (h : Ev tm σ H (.ref m)) (hm : MenuAt K H d m ds) (D : Deck H d ls ns) : EvM K d tm σ H ds := fun Q q => h H (Ex.refl H) Q fun H2 e2 => q m H2 e2 (hm.exl (exl_of e2) (tx_of e2))
theorem ex_pick {ds : List PyData} (hd : ∀ H1, Exl d H H1 → Ev td σ H1 (.ref d)) (hm : ∀ H1, Exl d H H1 → Deck H1 d ls ns → EvM K d tm σ H1 ds) (hl : ns.length ≤ 63) (h0 : ds ≠ []) (h1 : ds.length ≤ 1000000) : EvX K d ls ns (tCall (spPick K) [] E (tCons td (tCons tm tNil))) σ H (fun e => e ∈ ds) := fun H1 a D Q q =>
  hd H1 a H1 (Ex.refl H1) _ fun H2 e2 => hm H2 (a.trans (exl_of e2)) (D.ex e2) _ fun m H3 e3 hM => ⟨d, ls, m, ns, ds, rfl, D.ex (e2.trans e3), hl, hM, h0, h1, fun i dd v H4 hi a4 D4 p => q v dd H4 (List.mem_of_getElem? hi) ((exl_of (e2.trans e3)).trans a4) D4 p⟩
theorem ex_if {t : TT} {tb : TE} {b : Bool} (h : ∀ H1, Exl d H H1 → EvT t σ H1 b) (h1 : b = true → EvX K d ls ns te σ H S) (h2 : b = false → EvX K d ls ns tb σ H S) : EvX K d ls ns (tIf t te tb) σ H S := fun H1 a D Q q => h H1 a H1 (Ex.refl H1) _ fun H2 e2 => by
  cases b with
  | true => exact h1 rfl H2 (a.trans (exl_of e2)) (D.ex e2) Q fun v e H3 s a3 D3 p => q v e H3 s ((exl_of e2).trans a3) D3 p
  | false => exact h2 rfl H2 (a.trans (exl_of e2)) (D.ex e2) Q fun v e H3 s a3 D3 p => q v e H3 s ((exl_of e2).trans a3) D3 p
/-- a test that draws: some answer -/
def EvTX (d ls : Addr) (ns : List Int) (t : TT) (σ : L2.St) (H : Hp) : Prop := ∀ H1, Exl d H H1 → Deck H1 d ls ns → ∀ Q : Bool → Hp → Prop, (∀ b H2, Exl d H1 H2 → Deck H2 d ls ns → Q b H2) → t σ H1 Q
theorem ex_ifX {t : TT} {tb : TE} (h : EvTX d ls ns t σ H) (h1 : EvX K d ls ns te σ H S) (h2 : EvX K d ls ns tb σ H S) : EvX K d ls ns (tIf t te tb) σ H S := fun H1 a D Q q => h H1 a D _ fun b H2 a2 D2 => by
  cases b with
  | true => exact h1 H2 (a.trans a2) D2 Q fun v e H3 s a3 D3 p => q v e H3 s (a2.trans a3) D3 p
  | false => exact h2 H2 (a.trans a2) D2 Q fun v e H3 s a3 D3 p => q v e H3 s (a2.trans a3) D3 p
/-- te ? i, te a number that is drawn -/
theorem etx_cmp {r : R2} {f : Int → Bool} {tb : TE} {m : Nat} (h : EvX K d ls ns te σ H (fun e => ∃ k : Nat, k < m ∧ e = .int (k : Int))) (hr : ∀ (k : Nat) H1, Exl d H H1 → Deck H1 d ls ns → ∀ Q : VK, (∀ H2, Ex H1 H2 → Q (.bl (f k)) H2) → tb σ H1 (fun y H2 => r (.int (k : Int)) y H2 Q)) : EvTX d ls ns (tTest (tOp r te tb)) σ H := fun H1 a D Q q =>
  h H1 a D _ fun v e H2 ⟨k, hk, he⟩ a2 D2 p => by
    subst he
    cases pv_int p
    exact hr k H2 (a.trans a2) D2 _ fun H3 e3 => ⟨_, rfl, q _ H3 (a2.trans (exl_of e3)) (D2.ex e3)⟩
theorem q_asgX {i : Nat} (h : EvX K d ls ns te σ H S) (Dk : Deck H d ls ns) (k : ∀ v e H1, S e → Exl d H H1 → Deck H1 d ls ns → PV K H1 v e → tz D (σ.set i (some v)) H1) : tSeq (tAsg te (gName i)) tz D σ H := h H (Exl.refl H) Dk _ k
theorem s_asgX {i : Nat} (h : EvX K d ls ns te σ H S) (Dk : Deck H d ls ns) (k : ∀ v e H1, S e → Exl d H H1 → Deck H1 d ls ns → PV K H1 v e → D.nx (σ.set i (some v)) H1) : tAsg te (gName i) D σ H := h H (Exl.refl H) Dk _ k
theorem s_retX (h : EvX K d ls ns te σ H S) (Dk : Deck H d ls ns) (k : ∀ v e H1, S e → Exl d H H1 → Deck H1 d ls ns → PV K H1 v e → D.rt v H1) : tRet te D σ H := h H (Exl.refl H) Dk _ k
/-- tuple([..]) -/
theorem ex_tupleOf {R : List PyData → Prop} (h : EvXL K d ls ns te σ H R) (i : ∀ es, R es → S (.tuple es)) : EvX K d ls ns (tThen te (kTup K)) σ H S := fun H1 a D Q q =>
  h H1 a D _ fun p vs es H2 hp s a2 D2 hl ps => .inl ⟨p, vs, rfl, SqL.of hl, fun c hc => q _ _ _ (i es s) (a2.trans (exl_of (Ex.new hc))) (D2.ex (Ex.new hc)) (.tup (.inl upd_same) (ps.ex (Ex.new hc)))⟩
/-- [.. for k in range(n)], each drawn; the number n drawn too -/
theorem exl_range {ta : TA} {j : Nat} {vs : List Nat} {m : Nat} (ha : EvXs K d ls ns ta σ H (fun es => ∃ n : Nat, n ≤ m ∧ es = [.int (n : Int)])) (hm : m ≤ 1000) (hw : ∀ x, wipe ((wipe σ vs).set j (some x)) vs = wipe σ vs)
    (he : ∀ (i : Nat), EvX K d ls ns te ((wipe σ vs).set j (some (.int (i : Int)))) H S) : EvXL K d ls ns (tLc (iRng1 ta) (gName j) tYes te vs) σ H (fun es => es.length ≤ m ∧ ∀ e ∈ es, S e) := fun H1 a D Q q =>
  ha H1 a D _ fun us es H2 hs a2 D2 pu => by
    obtain ⟨n, hn, rfl⟩ := hs
    obtain ⟨u, rfl, pu1⟩ : ∃ u, us = [u] ∧ PV K H2 u (.int (n : Int)) := by
      cases pu with
      | cons a b => cases b; exact ⟨_, rfl, a⟩
    cases pv_int pu1
    refine ⟨(n : Int), rfl, by omega, by omega, fun Dl hD => ?_⟩
    obtain ⟨n1, n2⟩ := D2.nes hD
    refine lc_range (lo := 0) (n := n) (fun i H' => ∃ (ws : List V) (es : List PyData), es.length = i ∧ (∀ e ∈ es, S e) ∧ H' Dl = some (.lst ws) ∧ PVs K H' ws es ∧ Exl d H2 H' ∧ Deck H' d ls ns) ⟨[], [], rfl, (fun e h => by cases h), upd_same, .nil, exl_of (Ex.new hD), D2.ex (Ex.new hD)⟩ (fun i H' hi p => ?_) (fun H' p => ?_)
    · obtain ⟨ws, es, p1, p2, p3, p4, p5, p6⟩ := p
      have e0 : (0 : Int) + (i : Int) = (i : Int) := Int.zero_add _
      rw [e0]
      refine ⟨hw _, ?_⟩
      show te _ H' fun y H4 => ∃ acc, H4 Dl = some (.lst acc) ∧ acc.length < sizeLine ∧ _
      refine he i H' ((a.trans a2).trans p5) p6 _ fun v e H4 s a4 D4 pv => ⟨ws, a4 _ _ p3 n1, ?_, ws ++ [v], es ++ [e], by simp [p1], fun e' h => ?_, upd_same, ?_, ?_, D4.upd n1 n2⟩
      · rw [p4.length, p1]
        exact sz_lt (by omega)
      · rcases List.mem_append.mp h with h | h
        · exact p2 e' h
        · rw [List.mem_singleton.mp h]
          exact s
      · exact ((p4.tx (p6.tx a4)).append (PVs.one pv)).tx (Tx.updL (a4 _ _ p3 n1))
      · exact (p5.trans a4).mut hD
    · obtain ⟨ws, es, p1, p2, p3, p4, p5, p6⟩ := p
      exact q Dl ws es H' (fresh_backl a2 D2.some hD) ⟨by omega, p2⟩ (a2.trans p5) p6 p3 p4
/-- for k in range(_law_take(d, m)) and the like: the number drawn -/
theorem s_forX {ta : TA} {j m : Nat} (ha : EvXs K d ls ns ta σ H (fun es => ∃ n : Nat, n ≤ m ∧ es = [.int (n : Int)])) (hm : m ≤ 1000) (Dk : Deck H d ls ns)
    (k : ∀ (n : Nat) H1, n ≤ m → Exl d H H1 → Deck H1 d ls ns → ∃ Pv : Nat → L2.St → Hp → Prop, Pv 0 σ H1 ∧ (∀ i σ' H', i < n → Pv i σ' H' → tu { D with nx := Pv (i + 1), ct := Pv (i + 1), bk := D.nx } (σ'.set j (some (.int (i : Int)))) H') ∧ (∀ σ' H', Pv n σ' H' → D.nx σ' H')) :
    tFor (iRng1 ta) (gName j) tu D σ H := ha H (Exl.refl H) Dk _ fun us es H2 hs a2 D2 pu => by
  obtain ⟨n, hn, rfl⟩ := hs
  obtain ⟨u, rfl, pu1⟩ : ∃ u, us = [u] ∧ PV K H2 u (.int (n : Int)) := by
    cases pu with
    | cons a b => cases b; exact ⟨_, rfl, a⟩
  cases pv_int pu1
  obtain ⟨Pv, p0, ps, pd⟩ := k n H2 hn a2 D2
  refine ⟨(n : Int), rfl, by omega, by omega, for_range (lo := 0) (n := n) Pv p0 (fun i σ' H' hi p => ?_) pd⟩
  have e0 : (0 : Int) + (i : Int) = (i : Int) := Int.zero_add _
  show tu { D with nx := Pv (i + 1), ct := Pv (i + 1), bk := D.nx } (σ'.set j (some (.int ((0 : Int) + (i : Int))))) H'
  rw [e0]
  exact ps i σ' H' hi p
theorem exs_take {m : Nat} (h : EvX K d ls ns te σ H (fun e => ∃ r : Nat, r < m + 1 ∧ e = .int (r : Int))) : EvXs K d ls ns (tCons te tNil) σ H (fun es => ∃ n : Nat, n ≤ m ∧ es = [.int (n : Int)]) := fun H1 a D Q q =>
  h H1 a D _ fun v e H2 ⟨r, hr, he⟩ a2 D2 p => q [v] [e] H2 ⟨r, by omega, by rw [he]⟩ a2 D2 (PVs.one p)
end
end Dk

namespace K36
open PySem PySem.Spec PyProof.Rows L2 Evl Pd Gd Dk
abbrev sBegin : Stmt := topS 34
abbrev sTake : Stmt := topS 35
abbrev sPick : Stmt := topS 36
theorem scBegin : FnScope ["script", "seed", "cell"] ["script"] (defScope sBegin) := ⟨rfl, rfl, rfl, by decide +kernel, rfl, by decide +kernel, by decide +kernel⟩
theorem scTake : FnScope ["d", "many", "small", "digit"] ["d", "many"] (defScope sTake) := ⟨rfl, rfl, rfl, by decide +kernel, rfl, by decide +kernel, by decide +kernel⟩
theorem scPick : FnScope ["d", "menu"] ["d", "menu"] (defScope sPick) := ⟨rfl, rfl, rfl, by decide +kernel, rfl, by decide +kernel, by decide +kernel⟩
theorem SqL_ex {K : PySem.W.Frag} {H H' : Hp} {a : Addr} {xs : List V} (e : Ex H H') (h : SqL K H a xs) : SqL K H' a xs := ex_l e h
theorem list_of {K : PySem.W.Frag} {σ : L2.St} {H : Hp} {te : TE} {a : Addr} {xs : List V} {r : List V → Hp → VK → Prop} (hr : r = fun xs H Q => ∃ p ys, xs = [.ref p] ∧ (SqL K H p ys ∨ SqT K H p ys) ∧ ∀ l, H l = none → Q (.ref l) (upd H l (.lst ys))) (h : Ev te σ H (.ref a)) (hs : SqL K H a xs) : EvL (tCB r (tCons te tNil)) σ H xs := by
  subst hr
  exact el_cb (ea_cons h ea_nil) fun H1 e1 Q q => ⟨a, xs, rfl, .inl (SqL_ex e1 hs), fun l hl => q l _ hl (Ex.new hl) upd_same⟩
theorem s_retDeck {σ : L2.St} {H : Hp} {D : Ends} {te : TE} {xs : List V} {s : Int} (h : EvL te σ H xs) (hv : σ[1]? = some (some (.int s))) (k : ∀ d ls H1, H d = none → H ls = none → Ex H H1 → H1 ls = some (.lst xs) → H1 d = some (.lst [.ref ls, .int ((0 : Nat) : Int), .int 0, .int s]) → ls ≠ d → D.rt (.ref d) H1) :
    tRet (tLst (tCons te (tCons (tC (.int 0)) (tCons (tC (.int 0)) (tCons (tVar 1) tNil))))) D σ H :=
  h H (Ex.refl H) _ fun ls H1 hls e1 hl1 => ⟨_, hv, sz_of (by simp), fun d hd => by
    have hne : ls ≠ d := fun z => by
      subst z
      rw [hd] at hl1
      cases hl1
    exact k d ls _ (fresh_back e1 hd) hls (e1.trans (Ex.new hd)) ((Ex.new hd) _ _ hl1) upd_same hne⟩
theorem int_i {σ : L2.St} {H : Hp} {te : TE} {i : Int} {r : List V → Hp → VK → Prop} (hr : r = fun xs H Q => (∃ i, xs = [.int i] ∧ Q (.int i) H) ∨ ∃ k, xs = [.bl k] ∧ Q (.int (if k then 1 else 0)) H) (h : Ev te σ H (.int i)) : Ev (tCB r (tCons te tNil)) σ H (.int i) := by
  subst hr
  exact ev_cb (ea_cons h ea_nil) fun H1 e Q q => .inl ⟨i, rfl, q H1 (Ex.refl H1)⟩
theorem abs_i {σ : L2.St} {H : Hp} {te : TE} {i : Int} {r : List V → Hp → VK → Prop} (hr : r = fun xs H Q => ∃ i, xs = [.int i] ∧ Q (.int (if i < 0 then -i else i)) H) (h : Ev te σ H (.int i)) : Ev (tCB r (tCons te tNil)) σ H (.int (if i < 0 then -i else i)) := by
  subst hr
  exact ev_cb (ea_cons h ea_nil) fun H1 e Q q => ⟨i, rfl, q H1 (Ex.refl H1)⟩
theorem dk_at {K : PySem.W.Frag} {σ : L2.St} {H : Hp} {d : Addr} {xs : List V} {j : Int} {v : V} (h : σ[0]? = some (some (.ref d))) (hD : H d = some (.lst xs)) (hj : atI xs j = some v) : Ev (tOp (rIxL K) (tVar 0) (tC (.int j))) σ H v :=
  ev_op (ev_var h) ev_c (rv_ixL (SqL.of hD) hj)
section
variable {P : Program} {w : World} {K : PySem.W.Frag} {mg : Str → Option Value} {base : Heap}
theorem ok_begin {f : Addr} {fd : FuncData} (F : Fun K "_law_begin" "_law_begin" sBegin f fd) (mi : mg "int" = none) (ml : mg "list" = none) : FnOk P w K mg base CX0 1 f fd ["script"] (spBegin K) := by
  refine F.ok scBegin (fun vs H Q E h => ?_) (fun cdv A outer s H vs Q E hr h => ?_)
  · obtain ⟨a, ns, rfl, _⟩ := h
    rfl
  · obtain ⟨a, ns, rfl, hs, hl, q⟩ := h
    refine ⟨_, pss_cons (ps_set (i := 1) scBegin.nd rfl (.inl rfl) pe_int)
      (pss_cons (ps_for PassesOwn.never rfl (pi_list (pv 0)) (pg_name (i := 2) scBegin.nd rfl (.inl rfl))
        (pss_one (ps_set (i := 1) scBegin.nd rfl (.inl rfl) (pe_op op_mod (pe_op op_add (pe_op op_add (pe_op op_mul (pv 1) pe_int) (pe_op op_mod (pe_callTy call_int1 (by rfl) mi (by decide +kernel) (pa_cons (pv 2) pa_nil)) pe_int)) pe_int) pe_int))))
      (pss_one (ps_ret (pe_lst (pa_cons (pe_callTy call_list_of (by rfl) ml (by decide +kernel) (pa_cons (pv 0) pa_nil)) (pa_cons pe_int (pa_cons pe_int (pa_cons (pv 1) pa_nil)))))))), ?_⟩
    refine q_asg ev_c fun H1 e1 => ?_
    refine q_forLn (ev_var rfl) (SqL_ex e1 hs) (fun i σ' H' => ∃ (s : Int) (y2 : Option V), σ' = [some (.ref a), some (.int s), y2] ∧ Ex H H' ∧ 0 ≤ s ∧ s < 2147483647) (fun H2 e2 => ⟨1, none, rfl, e1.trans e2, by decide, by decide⟩) (fun i σ' H' _ ⟨_, _, _, x, _⟩ => SqL_ex x hs) ?_ ?_
    · rintro i x σ' H' hx ⟨s, y2, rfl, ex, h0, h1⟩
      obtain ⟨n, hn, rfl⟩ := map_at hx
      refine s_asg (ev_op (ev_op (ev_op (ev_op (ev_var rfl) ev_c (rv_I (C := CMul) (g := fun i j => .int (i * j)) (.inr ⟨by decide, by decide⟩))) (ev_op (int_i rfl (ev_var rfl)) ev_c (rv_I (C := fun _ j => 0 < j) (g := fun i j => .int (i % j)) (by decide))) rv_I0) ev_c rv_I0) ev_c (rv_I (C := fun _ j => 0 < j) (g := fun i j => .int (i % j)) (by decide))) fun H2 e2 => ⟨_, _, rfl, ex.trans e2, Int.emod_nonneg _ (by decide), Int.emod_lt_of_pos _ (by decide)⟩
    · rintro σ' H' ⟨s, y2, rfl, ex, h0, h1⟩
      refine s_retDeck (list_of rfl (ev_var rfl) (SqL_ex ex hs)) rfl fun d ls H2 hd hls e2 hl2 hdk hne => ?_
      exact q d ls _ (fresh_back ex hd) (fresh_back ex hls) (ex.trans e2) ⟨hne, hl2, 0, 0, s, hdk, by decide, h0, h1⟩
theorem ok_take {f : Addr} {fd : FuncData} (F : Fun K "_law_take" "_law_take" sTake f fd) (mi : mg "int" = none) (ml : mg "len" = none) (ma : mg "abs" = none) : FnOk P w K mg base CX0 1 f fd ["d", "many"] spTake := by
  refine F.ok scTake (fun vs H Q E h => ?_) (fun cdv A outer s H vs Q E hr h => ?_)
  · obtain ⟨d, ls, ns, m, rfl, _⟩ := h
    rfl
  · obtain ⟨d, ls, ns, m, rfl, D, hm0, hm1, hl, q⟩ := h
    refine ⟨_, pss_cut (ps_if (PW.pt (pw_and (pt_cmpR op_eq (pe_ix ix_list (pv 0) pe_int (fun _ _ => rfl)) pe_int (nomark _)) (pw_and1 (pt_cmpR op_lt (pe_ix ix_list (pv 0) pe_int (fun _ _ => rfl)) (pe_callB call_len_seq (by rfl) ml PySem.boot_len (pa_cons (pe_ix ix_list (pv 0) pe_int (fun _ _ => rfl)) pa_nil)) (nomark _)))))
        (pss_cons (ps_asg (pe_callB call_abs (by rfl) ma (by decide +kernel) (pa_cons (pe_callTy call_int1 (by rfl) mi (by decide +kernel) (pa_cons (pe_ix ix_list (pe_ix ix_list (pv 0) pe_int (fun _ _ => rfl)) (pe_ix ix_list (pv 0) pe_int (fun _ _ => rfl)) (fun _ _ => rfl)) pa_nil)) pa_nil)) (pg_sub (pv 0) pe_int set_list))
        (pss_cons (ps_asg (pe_op op_add (pe_ix ix_list (pv 0) pe_int (fun _ _ => rfl)) pe_int) (pg_sub (pv 0) pe_int set_list))
        (pss_one (ps_if (pt_cmpR op_lt (pe_ix ix_list (pv 0) pe_int (fun _ _ => rfl)) (pe_op op_pow pe_int pe_int) (nomark _))
          (pss_cons (ps_set (i := 2) scTake.nd rfl (.inl rfl) (pe_callTy call_int1 (by rfl) mi (by decide +kernel) (pa_cons (pe_ix ix_list (pv 0) pe_int (fun _ _ => rfl)) pa_nil)))
          (pss_cons (ps_asg pe_int (pg_sub (pv 0) pe_int set_list))
          (pss_one (ps_ret (pe_op op_mod (pv 2) (pv 1)))))) pss_nil)))) pss_nil)
      (pss_cons (ps_if (pt_cmpR op_gt (pe_ix ix_list (pv 0) pe_int (fun _ _ => rfl)) pe_int (nomark _))
        (pss_cons (ps_set (i := 3) scTake.nd rfl (.inl rfl) (pe_op op_mod (pe_callTy call_int1 (by rfl) mi (by decide +kernel) (pa_cons (pe_ix ix_list (pv 0) pe_int (fun _ _ => rfl)) pa_nil)) (pv 1)))
        (pss_cons (ps_asg (pe_op op_fdiv (pe_callTy call_int1 (by rfl) mi (by decide +kernel) (pa_cons (pe_ix ix_list (pv 0) pe_int (fun _ _ => rfl)) pa_nil)) (pv 1)) (pg_sub (pv 0) pe_int set_list))
        (pss_one (ps_ret (pv 3))))) pss_nil)
      (pss_cons (ps_asg (pe_op op_mod (pe_callTy call_int1 (by rfl) mi (by decide +kernel) (pa_cons (pe_op op_add (pe_op op_mul (pe_ix ix_list (pv 0) pe_int (fun _ _ => rfl)) pe_int) pe_int) pa_nil)) pe_int) (pg_sub (pv 0) pe_int set_list))
      (pss_one (ps_ret (pe_op op_mod (pe_callTy call_int1 (by rfl) mi (by decide +kernel) (pa_cons (pe_op op_fdiv (pe_ix ix_list (pv 0) pe_int (fun _ _ => rfl)) pe_int) pa_nil)) (pv 1)))))), ?_⟩
    obtain ⟨i, b, s, hD, hb, hs0, hs1⟩ := id D.dk
    have hmp : (0 : Int) < (m : Int) := by omega
    have fin : ∀ (x : Int) (H' : Hp), Exl d H H' → Deck H' d ls ns → Q (.int (x % (m : Int))) H' := fun x H' e D' => by
      have h1 := Int.emod_nonneg x (b := (m : Int)) (by omega)
      have h2 := Int.emod_lt_of_pos x hmp
      have h3 : x % (m : Int) = (((x % (m : Int)).toNat : Nat) : Int) := by omega
      rw [h3]
      exact q _ H' (by omega) e D'
    refine q_cut (M := fun σ' H' => ∃ y2, σ' = [some (.ref d), some (.int (m : Int)), y2, none] ∧ Exl d H H' ∧ Deck H' d ls ns) ?_ ?_
    · refine s_when (b := decide (b = 0) && decide ((i : Int) < (ns.length : Int))) (et_and (et_test (ev_is (ev_op (dk_at rfl hD rfl) ev_c (rv_eq rfl)) (congrArg V.bl (decide_eq_decide.mpr ⟨fun h => V.int.inj h, fun h => by rw [h]⟩)))) fun _ => et_test (ev_is (ev_op (dk_at rfl hD rfl) (ev_len (dk_at rfl hD rfl) (SqL.of D.li)) rv_I0) (by rw [List.length_map]))) (fun e H1 e1 => ?_) (fun e H1 e1 => ⟨_, rfl, exl_of e1, D.ex e1⟩)
      rw [Bool.and_eq_true] at e
      have hi : i < ns.length := by have := of_decide_eq_true e.2; omega
      have D1 := D.ex e1
      have hD1 := e1 _ _ hD
      refine q_setL (j := 2) hD1 (abs_i rfl (int_i (i := ns[i]) rfl (ev_op (dk_at rfl hD1 rfl) (dk_at rfl hD1 rfl) (rv_ixL (SqL.of D1.li) (atI_nat (by rw [List.getElem?_map, List.getElem?_eq_getElem hi]; rfl)))))) (ev_var rfl) ev_c (by simp) fun H2 e2 => ?_
      have x2 : Exl d H1 (upd H2 d (.lst [.ref ls, .int (i : Int), .int (if ns[i] < 0 then -ns[i] else ns[i]), .int s])) := (exl_of e2).trans Exl.upd
      refine q_setL (j := 1) upd_same (ev_op (dk_at rfl upd_same rfl) ev_c rv_I0) (ev_var rfl) ev_c (by simp) fun H3 e3 => ?_
      have x3 := (x2.trans (exl_of e3)).trans (Exl.upd (o := .lst [.ref ls, .int ((i : Int) + 1), .int (if ns[i] < 0 then -ns[i] else ns[i]), .int s]))
      have habs : 0 ≤ (if ns[i] < 0 then -ns[i] else ns[i]) := by split <;> omega
      refine s_when (et_test (ev_op (dk_at rfl upd_same rfl) (ev_op ev_c ev_c (rv_I (C := CPow) (g := fun i j => .int (i ^ j.toNat)) ⟨by decide, by decide, by decide⟩)) rv_I0)) (fun e H4 e4 => ?_) (fun e H4 e4 => ?_)
      · refine q_asg (int_i rfl (dk_at rfl (e4 _ _ upd_same) rfl)) fun H5 e5 => ?_
        refine q_setL (j := 2) (e5 _ _ (e4 _ _ upd_same)) ev_c (ev_var rfl) ev_c (by simp) fun H6 e6 => ?_
        have x6 := (x3.trans (exl_of ((e4.trans e5).trans e6))).trans (Exl.upd (o := .lst [.ref ls, .int ((i : Int) + 1), .int 0, .int s]))
        refine s_ret (ev_op (ev_var rfl) (ev_var rfl) (rv_I (C := fun _ j => 0 < j) (g := fun i j => .int (i % j)) hmp)) fun H7 e7 => fin _ H7 ((exl_of e1).trans (x6.trans (exl_of e7))) (Deck.ex ⟨D.ne, x6 _ _ D1.li D.ne, i + 1, 0, s, upd_same, by omega, hs0, hs1⟩ e7)
      · exact ⟨_, rfl, (exl_of e1).trans (x3.trans (exl_of e4)), Deck.ex ⟨D.ne, x3 _ _ D1.li D.ne, i + 1, _, s, upd_same, habs, hs0, hs1⟩ e4⟩
    · rintro σ' H' ⟨y2, rfl, ex, D'⟩
      obtain ⟨i, b, s, hD, hb, hs0, hs1⟩ := id D'.dk
      refine q_when (et_test (ev_op (dk_at rfl hD rfl) ev_c rv_I0)) (fun e H1 e1 => ?_) (fun e H1 e1 => ?_)
      · have hD1 := e1 _ _ hD
        refine q_asg (ev_op (int_i rfl (dk_at rfl hD1 rfl)) (ev_var rfl) (rv_I (C := fun _ j => 0 < j) (g := fun i j => .int (i % j)) hmp)) fun H2 e2 => ?_
        refine q_setL (j := 2) (e2 _ _ hD1) (ev_op (int_i rfl (dk_at rfl (e2 _ _ hD1) rfl)) (ev_var rfl) (rv_I (C := CDiv) (g := fun i j => .int (i / j)) ⟨hmp, by omega⟩)) (ev_var rfl) ev_c (by simp) fun H3 e3 => ?_
        have x3 := (exl_of (l := d) ((e1.trans e2).trans e3)).trans (Exl.upd (o := .lst [.ref ls, .int (i : Int), .int (b / (m : Int)), .int s]))
        refine s_ret (ev_var rfl) fun H4 e4 => fin _ H4 (ex.trans (x3.trans (exl_of e4))) (Deck.ex ⟨D.ne, x3 _ _ D'.li D.ne, i, _, s, upd_same, Int.ediv_nonneg hb (by omega), hs0, hs1⟩ e4)
      · have hD1 := e1 _ _ hD
        refine q_setL (j := 3) hD1 (ev_op (int_i rfl (ev_op (ev_op (dk_at rfl hD1 rfl) ev_c (rv_I (C := CMul) (g := fun i j => .int (i * j)) (.inr ⟨by decide, by decide⟩))) ev_c rv_I0)) ev_c (rv_I (C := fun _ j => 0 < j) (g := fun i j => .int (i % j)) (by decide))) (ev_var rfl) ev_c (by simp) fun H3 e3 => ?_
        have x3 := (exl_of (l := d) (e1.trans e3)).trans (Exl.upd (o := .lst [.ref ls, .int (i : Int), .int b, .int ((s * 48271 + 11) % 2147483647)]))
        refine s_ret (ev_op (int_i rfl (ev_op (dk_at rfl upd_same rfl) ev_c (rv_I (C := CDiv) (g := fun i j => .int (i / j)) ⟨by decide, by decide⟩))) (ev_var rfl) (rv_I (C := fun _ j => 0 < j) (g := fun i j => .int (i % j)) hmp)) fun H4 e4 => fin _ H4 (ex.trans (x3.trans (exl_of e4))) (Deck.ex ⟨D.ne, x3 _ _ D'.li D.ne, i, b, _, upd_same, hb, Int.emod_nonneg _ (by decide), Int.emod_lt_of_pos _ (by decide)⟩ e4)
end
section
variable {P : Program} {w : World} {K : PySem.W.Frag} {mg : Str → Option Value} {base : Heap}
theorem ok_pick {f fT : Addr} {fd fdT : FuncData} (F : Fun K "_law_pick" "_law_pick" sPick f fd) (FT : Fun K "_law_take" "_law_take" sTake fT fdT) (bT : Binds K fdT ["d", "many"] []) (gT : mg "_law_take" = some (.ref fT)) (mi : mg "int" = none) (ml : mg "len" = none) (ma : mg "abs" = none) : FnOk P w K mg base CX0 2 f fd ["d", "menu"] (spPick K) := by
  have GT : FnOk P w K mg base CX0 1 fT fdT ["d", "many"] spTake := ok_take FT mi ml ma
  refine F.ok scPick (fun vs H Q E h => ?_) (fun cdv A outer s H vs Q E hr h => ?_)
  · obtain ⟨d, ls, m, ns, ds, rfl, _⟩ := h
    rfl
  · obtain ⟨d, ls, m, ns, ds, rfl, D, hl, hm, hne, hlen, q⟩ := h
    have hr1 : Room 1 _ := hr.mono (by decide)
    refine ⟨_, pss_one (ps_ret (pe_ix ix_seq (pv 1) (pe_call GT hr1 (by rfl) gT FT.kp bT .nil pass0 (pa_cons (pv 0) (pa_cons (pe_callB call_len_seq (by rfl) ml PySem.boot_len (pa_cons (pv 1) pa_nil)) pa_nil))) (fun _ _ => rfl))), ?_⟩
    have h0 : 0 < ds.length := by
      cases ds with
      | nil => exact absurd rfl hne
      | cons a b => simp
    rcases hm with ⟨xs, hx, hmd, px⟩ | pm
    · refine ⟨.ref m, rfl, .ref d, rfl, .ref m, rfl, m, xs, rfl, .inl (SqL.of hx), ?_⟩
      have hlx := px.length
      refine ⟨d, ls, ns, ds.length, by rw [hlx]; rfl, D, h0, hlen, hl, fun r H' hrl ex D' => ?_⟩
      obtain ⟨dd, hdd⟩ : ∃ dd, ds[r]? = some dd := ⟨_, List.getElem?_eq_getElem hrl⟩
      obtain ⟨v, hv, pv⟩ := px.at hdd
      exact .inl ⟨m, xs, (r : Int), v, rfl, rfl, SqL.of (ex _ _ hx hmd), atI_nat hv, q r dd v H' hdd ex D' (pv.tx (D.tx ex))⟩
    · obtain ⟨a, xs, e, hx, px⟩ := pv_tup pm
      cases e
      refine ⟨.ref m, rfl, .ref d, rfl, .ref m, rfl, m, xs, rfl, .inr hx.sq, ?_⟩
      have hlx := px.length
      refine ⟨d, ls, ns, ds.length, by rw [hlx]; rfl, D, h0, hlen, hl, fun r H' hrl ex D' => ?_⟩
      obtain ⟨dd, hdd⟩ : ∃ dd, ds[r]? = some dd := ⟨_, List.getElem?_eq_getElem hrl⟩
      obtain ⟨v, hv, pv⟩ := px.at hdd
      exact .inr (.inl ⟨m, xs, (r : Int), v, rfl, rfl, (hx.tx (D.tx ex)).sq, atI_nat hv, q r dd v H' hdd ex D' (pv.tx (D.tx ex))⟩)
end
end K36

namespace K36
open PySem PySem.Spec PyProof.Rows L2 Evl Pd Gd Dk
abbrev sLOps : Stmt := topS 37
abbrev sLOperand : Stmt := topS 40
abbrev sLStep : Stmt := topS 41
theorem scLOps : FnScope [] [] (defScope sLOps) := ⟨rfl, rfl, rfl, by decide +kernel, rfl, by decide +kernel, by decide +kernel⟩
theorem scLOperand : FnScope ["d", "names"] ["d", "names"] (defScope sLOperand) := ⟨rfl, rfl, rfl, by decide +kernel, rfl, by decide +kernel, by decide +kernel⟩
theorem scLStep : FnScope ["d", "names", "calls", "menu", "value", "name", "many", "k"] ["d", "names", "calls"] (defScope sLStep) := ⟨rfl, rfl, rfl, by decide +kernel, rfl, by decide +kernel, by decide +kernel⟩
def opsAll : List PyData := Op.all.map fun o => .str o.s
def spLOps (K : PySem.W.Frag) : Sp := fun vs H Q _ => vs = [] ∧ ∀ v H', Ex H H' → PV K H' v (.tuple opsAll) → Q v H'
def callsL (k : Bool) : List PyData := if k = true then [.tuple [.str "f", .int 1]] else []
def isCall : Stp → Bool
  | .call _ _ => true
  | _ => false
def spLOperand (K : PySem.W.Frag) : Sp := fun vs H Q _ => ∃ (d ls m : Addr) (ns : List Int) (names : List Nm), vs = [.ref d, .ref m] ∧ Deck H d ls ns ∧ ns.length ≤ 63 ∧ MenuAt K H d m (names.map Nm.d) ∧ names ≠ [] ∧ names.length ≤ 1000 ∧
  ∀ (o : Opd) (v : V) (H' : Hp), Exl d H H' → Deck H' d ls ns → PV K H' v o.d → Q v H'
def spLStep (K : PySem.W.Frag) : Sp := fun vs H Q _ => ∃ (d ls m c : Addr) (ns : List Int) (names : List Nm) (k : Bool), vs = [.ref d, .ref m, .ref c] ∧ Deck H d ls ns ∧ ns.length ≤ 63 ∧ MenuAt K H d m (names.map Nm.d) ∧ names ≠ [] ∧ names.length ≤ 1000 ∧
  (∃ cs, H c = some (.lst cs) ∧ c ≠ d ∧ PVs K H cs (callsL k)) ∧ ∀ (s : Stp) (v : V) (H' : Hp), (k = false → isCall s = false) → Exl d H H' → Deck H' d ls ns → PV K H' v s.d → Q v H'
section
variable {K : PySem.W.Frag} {H : Hp} {σ : L2.St} {td tm tc : TE} {d ls : Addr} {ns : List Int} {E : XK}
theorem ex_operand {m : Addr} {names : List Nm} (hd : ∀ H1, Exl d H H1 → Ev td σ H1 (.ref d)) (hm : ∀ H1, Exl d H H1 → Ev tm σ H1 (.ref m)) (D : Deck H d ls ns) (hM : MenuAt K H d m (names.map Nm.d)) (hl : ns.length ≤ 63) (h0 : names ≠ []) (h1 : names.length ≤ 1000) :
    EvX K d ls ns (tCall (spLOperand K) [] E (tCons td (tCons tm tNil))) σ H (fun e => ∃ o : Opd, e = o.d) := fun H1 a D1 Q q =>
  hd H1 a H1 (Ex.refl H1) _ fun H2 e2 => hm H2 (a.trans (exl_of e2)) H2 (Ex.refl H2) _ fun H3 e3 =>
    have x := a.trans (exl_of (e2.trans e3))
    ⟨d, ls, m, ns, names, rfl, D1.ex (e2.trans e3), hl, hM.exl x (D.tx x), h0, h1, fun o v H4 a4 D4 p => q v _ H4 ⟨o, rfl⟩ ((exl_of (e2.trans e3)).trans a4) D4 p⟩
theorem ex_lstep {m : Addr} {names : List Nm} {k : Bool} (hd : ∀ H1, Exl d H H1 → Ev td σ H1 (.ref d)) (hm : ∀ H1, Exl d H H1 → Ev tm σ H1 (.ref m)) (D : Deck H d ls ns) (hM : MenuAt K H d m (names.map Nm.d)) (hl : ns.length ≤ 63) (h0 : names ≠ []) (h1 : names.length ≤ 1000)
    (hc : ∀ H1, Exl d H H1 → Deck H1 d ls ns → ∀ Q : VK, (∀ c cs H2, Ex H1 H2 → H2 c = some (.lst cs) → c ≠ d → PVs K H2 cs (callsL k) → Q (.ref c) H2) → tc σ H1 Q) :
    EvX K d ls ns (tCall (spLStep K) [] E (tCons td (tCons tm (tCons tc tNil)))) σ H (fun e => ∃ s : Stp, (k = false → isCall s = false) ∧ e = s.d) := fun H1 a D1 Q q =>
  hd H1 a H1 (Ex.refl H1) _ fun H2 e2 => hm H2 (a.trans (exl_of e2)) H2 (Ex.refl H2) _ fun H3 e3 => hc H3 (a.trans (exl_of (e2.trans e3))) (D1.ex (e2.trans e3)) _ fun c cs H4 e4 h4 n4 p4 =>
    have x := a.trans (exl_of ((e2.trans e3).trans e4))
    ⟨d, ls, m, c, ns, names, k, rfl, D1.ex ((e2.trans e3).trans e4), hl, hM.exl x (D.tx x), h0, h1, ⟨cs, h4, n4, p4⟩, fun s v H5 hs a5 D5 p => q v _ H5 ⟨s, hs, rfl⟩ ((exl_of ((e2.trans e3).trans e4)).trans a5) D5 p⟩
end
section
variable {P : Program} {w : World} {K : PySem.W.Frag} {mg : Str → Option Value} {base : Heap}
theorem ok_lops {f : Addr} {fd : FuncData} (F : Fun K "_law_ops" "_law_ops" sLOps f fd) : FnOk P w K mg base CX0 1 f fd [] (spLOps K) := by
  refine F.ok scLOps (fun vs H Q E h => by rw [h.1]; rfl) (fun cdv A outer s H vs Q E hr h => ?_)
  obtain ⟨rfl, q⟩ := h
  refine ⟨_, pss_one (ps_ret (pe_tup (pa_cons pe_str (pa_cons pe_str (pa_cons pe_str (pa_cons pe_str (pa_cons pe_str (pa_cons pe_str (pa_cons pe_str (pa_cons pe_str (pa_cons pe_str (pa_cons pe_str (pa_cons pe_str (pa_cons pe_str pa_nil)))))))))))))), ?_⟩
  exact s_retP (K := K) (d := .tuple opsAll) (ep_tup (eps_cons ep_str (eps_cons ep_str (eps_cons ep_str (eps_cons ep_str (eps_cons ep_str (eps_cons ep_str (eps_cons ep_str (eps_cons ep_str (eps_cons ep_str (eps_cons ep_str (eps_cons ep_str (eps_cons ep_str eps_nil)))))))))))) (by decide)) fun v H1 e1 p => q v H1 e1 p
theorem ok_loperand {f fT fP : Addr} {fd fdT fdP : FuncData} (F : Fun K "_law_operand" "_law_operand" sLOperand f fd) (GT : FnOk P w K mg base CX0 1 fT fdT ["d", "many"] spTake) (kT : PySem.W.keepIn K (.ref fT) = true) (bT : Binds K fdT ["d", "many"] []) (gT : mg "_law_take" = some (.ref fT))
    (GP : FnOk P w K mg base CX0 2 fP fdP ["d", "menu"] (spPick K)) (kP : PySem.W.keepIn K (.ref fP) = true) (bP : Binds K fdP ["d", "menu"] []) (gP : mg "_law_pick" = some (.ref fP)) : FnOk P w K mg base CX0 3 f fd ["d", "names"] (spLOperand K) := by
  refine F.ok scLOperand (fun vs H Q E h => ?_) (fun cdv A outer s H vs Q E hr h => ?_)
  · obtain ⟨d, ls, m, ns, names, rfl, _⟩ := h
    rfl
  · obtain ⟨d, ls, m, ns, names, rfl, D, hl, hM, h0, h1, q⟩ := h
    have hr1 : Room 1 _ := hr.mono (by decide)
    refine ⟨_, pss_one (ps_ret (pe_ifExp (pt_cmpR op_gt (pe_call GT hr1 (by rfl) gT kT bT .nil pass0 (pa_cons (pv 0) (pa_cons pe_int pa_nil))) pe_int (nomark _)) (pe_call GP hr (by rfl) gP kP bP .nil pass0 (pa_cons (pv 0) (pa_cons (pv 1) pa_nil)))
      (pe_call GP hr (by rfl) gP kP bP .nil pass0 (pa_cons (pv 0) (pa_cons (pe_lst (pa_cons pe_int (pa_cons pe_int (pa_cons pe_int (pa_cons pe_int (pa_cons pe_int pa_nil)))))) pa_nil))))), ?_⟩
    refine s_retX (K := K) (ls := ls) (ns := ns) (d := d) (S := fun e => ∃ o : Opd, e = o.d) (ex_ifX (etx_cmp (K := K) (f := fun k => decide (k > 0)) (ex_take (m := 3) (fun _ _ => ev_var rfl) (fun _ _ => ev_c) (by decide) (by decide) hl) fun k H1 _ _ Q1 q1 => ⟨_, _, rfl, rfl, q1 H1 (Ex.refl H1)⟩) ?_ ?_) D fun v e H1 ⟨o, ho⟩ a1 D1 p => by
        subst ho
        exact q o v H1 a1 D1 p
    · refine (ex_pick (ds := names.map Nm.d) (fun _ _ => ev_var rfl) (fun H1 a D1 => em_at (ev_var rfl) (hM.exl a (D.tx a)) D1) hl (by simpa using h0) (by rw [List.length_map]; omega)).imp fun e he => ?_
      obtain ⟨n, _, rfl⟩ := List.mem_map.mp he
      exact ⟨.nm n, rfl⟩
    · refine (ex_pick (ds := [.int 0, .int 1, .int 2, .int 3, .int 5]) (fun _ _ => ev_var rfl) (fun H1 a D1 => em_list (el_tup (eps_cons ep_int (eps_cons ep_int (eps_cons ep_int (eps_cons ep_int (eps_cons ep_int eps_nil))))) (by decide)) D1.some) hl (by simp) (by decide)).imp fun e he => ?_
      simp only [List.mem_cons, List.not_mem_nil, or_false] at he
      rcases he with rfl | rfl | rfl | rfl | rfl
      · exact ⟨.num 0, rfl⟩
      · exact ⟨.num 1, rfl⟩
      · exact ⟨.num 2, rfl⟩
      · exact ⟨.num 3, rfl⟩
      · exact ⟨.num 5, rfl⟩
theorem ok_lstep {f fT fP fO fA : Addr} {fd fdT fdP fdO fdA : FuncData} (F : Fun K "_law_step" "_law_step" sLStep f fd) (GT : FnOk P w K mg base CX0 1 fT fdT ["d", "many"] spTake) (kT : PySem.W.keepIn K (.ref fT) = true) (bT : Binds K fdT ["d", "many"] []) (gT : mg "_law_take" = some (.ref fT))
    (GP : FnOk P w K mg base CX0 2 fP fdP ["d", "menu"] (spPick K)) (kP : PySem.W.keepIn K (.ref fP) = true) (bP : Binds K fdP ["d", "menu"] []) (gP : mg "_law_pick" = some (.ref fP))
    (GO : FnOk P w K mg base CX0 3 fO fdO ["d", "names"] (spLOperand K)) (kO : PySem.W.keepIn K (.ref fO) = true) (bO : Binds K fdO ["d", "names"] []) (gO : mg "_law_operand" = some (.ref fO))
    (GA : FnOk P w K mg base CX0 1 fA fdA [] (spLOps K)) (kA : PySem.W.keepIn K (.ref fA) = true) (bA : Binds K fdA [] []) (gA : mg "_law_ops" = some (.ref fA)) (ml : mg "len" = none) (mt : mg "tuple" = none) (mr : mg "range" = none) : FnOk P w K mg base CX0 4 f fd ["d", "names", "calls"] (spLStep K) := by
  refine F.ok scLStep (fun vs H Q E h => ?_) (fun cdv A outer s H vs Q E hr h => ?_)
  · obtain ⟨d, ls, m, c, ns, names, k, rfl, _⟩ := h
    rfl
  · obtain ⟨d, ls, m, c, ns, names, k, rfl, D, hl, hM, h0, h1, ⟨cs, hc, hcd, pc⟩, q⟩ := h
    have hr1 : Room 1 _ := hr.mono (by decide)
    have hr2 : Room 2 _ := hr.mono (by decide)
    refine ⟨_, pss_cons (ps_set (i := 3) scLStep.nd rfl (.inl rfl) (pe_call GT hr1 (by rfl) gT kT bT .nil pass0 (pa_cons (pv 0) (pa_cons pe_int pa_nil))))
      (pss_cons (ps_set (i := 4) scLStep.nd rfl (.inl rfl) (pe_call GP hr2 (by rfl) gP kP bP .nil pass0 (pa_cons (pv 0) (pa_cons (pv 1) pa_nil))))
      (pss_cons (ps_if (pt_cmpR op_lt (pv 3) pe_int (nomark _)) (pss_one (ps_ret (pe_tup (pa_cons pe_str (pa_cons (pv 4) (pa_cons (pe_call GP hr2 (by rfl) gP kP bP .nil pass0 (pa_cons (pv 0) (pa_cons (pe_call0 GA hr1 (by rfl) gA kA bA .nil pass0) pa_nil))) (pa_cons (pe_call GO hr (by rfl) gO kO bO .nil pass0 (pa_cons (pv 0) (pa_cons (pv 1) pa_nil))) (pa_cons (pe_call GO hr (by rfl) gO kO bO .nil pass0 (pa_cons (pv 0) (pa_cons (pv 1) pa_nil))) pa_nil)))))))) pss_nil)
      (pss_cons (ps_if (pt_cmpR op_eq (pv 3) pe_int (nomark _)) (pss_one (ps_ret (pe_tup (pa_cons pe_str (pa_cons (pv 4) (pa_cons (pe_call GO hr (by rfl) gO kO bO .nil pass0 (pa_cons (pv 0) (pa_cons (pv 1) pa_nil))) pa_nil)))))) pss_nil)
      (pss_cons (ps_if (pt_cmpR op_eq (pv 3) pe_int (nomark _)) (pss_one (ps_ret (pe_tup (pa_cons pe_str (pa_cons (pv 4) (pa_cons (pe_call GO hr (by rfl) gO kO bO .nil pass0 (pa_cons (pv 0) (pa_cons (pv 1) pa_nil))) pa_nil)))))) pss_nil)
      (pss_cons (ps_if (PW.pt (pw_or (pt_cmpR op_eq (pv 3) pe_int (nomark _)) (pw_or1 (pt_cmpR op_eq (pe_callB call_len_seq (by rfl) ml PySem.boot_len (pa_cons (pv 2) pa_nil)) pe_int (nomark _))))) (pss_one (ps_ret (pe_tup (pa_cons pe_str (pa_cons (pe_call GO hr (by rfl) gO kO bO .nil pass0 (pa_cons (pv 0) (pa_cons (pv 1) pa_nil))) (pa_cons (pe_call GO hr (by rfl) gO kO bO .nil pass0 (pa_cons (pv 0) (pa_cons (pv 1) pa_nil))) pa_nil)))))) pss_nil)
      (pss_cons (ps_asg (pe_call GP hr2 (by rfl) gP kP bP .nil pass0 (pa_cons (pv 0) (pa_cons (pv 2) pa_nil))) (pg_tup rfl (pgs_cons (pg_name (i := 5) scLStep.nd rfl (.inl rfl)) (pgs_cons (pg_name (i := 6) scLStep.nd rfl (.inl rfl)) pgs_nil))))
      (pss_one (ps_ret (pe_tup (pa_cons pe_str (pa_cons (pv 4) (pa_cons (pv 5) (pa_cons (pe_tupleOf (by rfl) mt (pe_lc (own := [("k", 7)]) (g := gName 7) (tt := tYes) (te := tCall (spLOperand K) [] E0 (tCons (tVar 0) (tCons (tVar 1) tNil))) rfl scLStep.nd (pi_range1 rfl mr (pa_cons (pv 6) pa_nil)) (blkOk_by (N := ["d", "names", "calls", "menu", "value", "name", "many", "k"]) (sc := defScope sLStep) (by decide +kernel))
        (fun _ _ _ _ _ => pg_name (i := 7) scLStep.nd rfl (Or.inl rfl)) (fun _ _ _ _ _ => pts_nil) (fun _ _ _ _ _ => pe_call GO hr (by rfl) gO kO bO .nil pass0 (pa_cons (pv 0) (pa_cons (pv 1) pa_nil))))) pa_nil))))))))))))), ?_⟩
    have hn1 : names.map Nm.d ≠ [] := by simpa using h0
    have hn2 : (names.map Nm.d).length ≤ 1000000 := by rw [List.length_map]; omega
    refine q_asgX (K := K) (ex_take (m := 8) (fun _ _ => ev_var rfl) (fun _ _ => ev_c) (by decide) (by decide) hl) D fun v3 e3 H1 ⟨r, hr8, he3⟩ a1 D1 p3 => ?_
    subst he3
    cases pv_int p3
    refine q_asgX (K := K) (ex_pick (ds := names.map Nm.d) (fun _ _ => ev_var rfl) (fun H1' a D1' => em_at (ev_var rfl) (hM.exl (a1.trans a) (D.tx (a1.trans a))) D1') hl hn1 hn2) D1 fun v4 e4 H2 he a2 D2 p4 => ?_
    obtain ⟨n, _, rfl⟩ := List.mem_map.mp he
    have a12 := a1.trans a2
    have hM2 := hM.exl a12 (D.tx a12)
    have opd : ∀ {σ : L2.St}, σ[0]? = some (some (.ref d)) → σ[1]? = some (some (.ref m)) → EvX K d ls ns (tCall (spLOperand K) [] E0 (tCons (tVar 0) (tCons (tVar 1) tNil))) σ H2 (fun e => ∃ o : Opd, e = o.d) := fun s0 s1 => ex_operand (fun _ _ => ev_var s0) (fun _ _ => ev_var s1) D2 hM2 hl h0 h1
    have val : ∀ {σ : L2.St} {S : PyData → Prop}, σ[4]? = some (some v4) → S n.d → EvX K d ls ns (tVar 4) σ H2 S := fun s4 h => ex_var s4 p4 D2 h
    refine q_when (et_test (ev_op (ev_var rfl) ev_c rv_I0)) (fun _ H3 e3 => ?_) (fun _ H3 e3 => ?_)
    · refine s_retX (K := K) (d := d) (ls := ls) (ns := ns) (S := fun e => ∃ s : Stp, (k = false → isCall s = false) ∧ e = s.d) ((ex_tup (exs_cons (ex_str (S := fun e => e = .str "op") rfl) (exs_cons (val (S := fun e => e = n.d) rfl rfl) (exs_cons (ex_pick (ds := opsAll) (fun _ _ => ev_var rfl) (fun H4 a4 D4 => em_tup fun H5 e5 Q5 q5 => ⟨rfl, fun v H6 e6 p6 => q5 v H6 e6 p6⟩) hl (by decide) (by decide)) (exs_cons (opd rfl rfl) (exs_cons (opd rfl rfl) exs_nil))))) ?_ ?_).mono (exl_of e3)) (D2.ex e3) fun v e H4 ⟨s, hs, he⟩ a4 D4 p => by
          subst he
          exact q s v H4 hs (a12.trans ((exl_of e3).trans a4)) D4 p
      · rintro es ⟨_, _, rfl, _, _, _, rfl, _, _, _, rfl, _, _, _, rfl, _, _, _, rfl, _, rfl⟩
        simp
      · rintro es ⟨_, _, rfl, rfl, _, _, rfl, rfl, eo, _, rfl, ho, _, _, rfl, ⟨o1, rfl⟩, _, _, rfl, ⟨o2, rfl⟩, rfl⟩
        obtain ⟨o, _, rfl⟩ := List.mem_map.mp ho
        exact ⟨.op n o o1 o2, fun _ => rfl, rfl⟩
    refine q_when (et_test (ev_op (ev_var rfl) ev_c (rv_eq rfl))) (fun _ H4 e4 => ?_) (fun _ H4 e4 => ?_)
    · have e34 := e3.trans e4
      refine s_retX (K := K) (d := d) (ls := ls) (ns := ns) (S := fun e => ∃ s : Stp, (k = false → isCall s = false) ∧ e = s.d) ((ex_tup (exs_cons (ex_str (S := fun e => e = .str "copy") rfl) (exs_cons (val (S := fun e => e = n.d) rfl rfl) (exs_cons (opd rfl rfl) exs_nil))) ?_ ?_).mono (exl_of e34)) (D2.ex e34) fun v e H4 ⟨s, hs, he⟩ a4 D4 p => by
          subst he
          exact q s v H4 hs (a12.trans ((exl_of e34).trans a4)) D4 p
      · rintro es ⟨_, _, rfl, _, _, _, rfl, _, _, _, rfl, _, rfl⟩
        simp
      · rintro es ⟨_, _, rfl, rfl, _, _, rfl, rfl, _, _, rfl, ⟨o1, rfl⟩, rfl⟩
        exact ⟨.copy n o1, fun _ => rfl, rfl⟩
    refine q_when (et_test (ev_op (ev_var rfl) ev_c (rv_eq rfl))) (fun _ H5 e5 => ?_) (fun _ H5 e5 => ?_)
    · have e35 := (e3.trans e4).trans e5
      refine s_retX (K := K) (d := d) (ls := ls) (ns := ns) (S := fun e => ∃ s : Stp, (k = false → isCall s = false) ∧ e = s.d) ((ex_tup (exs_cons (ex_str (S := fun e => e = .str "load") rfl) (exs_cons (val (S := fun e => e = n.d) rfl rfl) (exs_cons (opd rfl rfl) exs_nil))) ?_ ?_).mono (exl_of e35)) (D2.ex e35) fun v e H4 ⟨s, hs, he⟩ a4 D4 p => by
          subst he
          exact q s v H4 hs (a12.trans ((exl_of e35).trans a4)) D4 p
      · rintro es ⟨_, _, rfl, _, _, _, rfl, _, _, _, rfl, _, rfl⟩
        simp
      · rintro es ⟨_, _, rfl, rfl, _, _, rfl, rfl, _, _, rfl, ⟨o1, rfl⟩, rfl⟩
        exact ⟨.load n o1, fun _ => rfl, rfl⟩
    have e35 := (e3.trans e4).trans e5
    have hc5 := e35 _ _ (a12 _ _ hc hcd)
    have pc5 := (pc.tx (D.tx a12)).ex e35
    have hcl : cs.length = (callsL k).length := pc.length
    refine q_when (b := decide (V.int (r : Int) = .int 6) || decide (V.int (cs.length : Int) = .int 0)) (et_or (et_test (ev_op (ev_var rfl) ev_c (rv_eq rfl))) fun _ => et_test (ev_op (ev_len (ev_var rfl) (SqL.of hc5)) ev_c (rv_eq rfl))) (fun _ H6 e6 => ?_) (fun hno H6 e6 => ?_)
    · have e36 := e35.trans e6
      refine s_retX (K := K) (d := d) (ls := ls) (ns := ns) (S := fun e => ∃ s : Stp, (k = false → isCall s = false) ∧ e = s.d) ((ex_tup (exs_cons (ex_str (S := fun e => e = .str "store") rfl) (exs_cons (opd rfl rfl) (exs_cons (opd rfl rfl) exs_nil))) ?_ ?_).mono (exl_of e36)) (D2.ex e36) fun v e H4 ⟨s, hs, he⟩ a4 D4 p => by
          subst he
          exact q s v H4 hs (a12.trans ((exl_of e36).trans a4)) D4 p
      · rintro es ⟨_, _, rfl, _, _, _, rfl, _, _, _, rfl, _, rfl⟩
        simp
      · rintro es ⟨_, _, rfl, rfl, _, _, rfl, ⟨o1, rfl⟩, _, _, rfl, ⟨o2, rfl⟩, rfl⟩
        exact ⟨.store o1 o2, fun _ => rfl, rfl⟩
    · have e36 := e35.trans e6
      have hk : k = true := by
        cases k with
        | true => rfl
        | false =>
          rw [Bool.or_eq_false_iff] at hno
          have h2 := of_decide_eq_false hno.2
          rw [hcl] at h2
          exact absurd rfl h2
      subst hk
      have hc6 := e6 _ _ hc5
      have pc6 := pc5.ex e6
      refine ex_pick (K := K) (ls := ls) (ns := ns) (d := d) (H := H6) (E := E0) (ds := callsL true) (σ := [some (.ref d), some (.ref m), some (.ref c), some (.int (r : Int)), some v4, none, none, none]) (td := tVar 0) (tm := tVar 2) (fun _ _ => ev_var rfl) (fun H7 a7 D7 => em_at (ev_var rfl) (.inl ⟨cs, a7 _ _ hc6 hcd, hcd, pc6.tx ((D2.ex e36).tx a7)⟩) D7) hl (by decide) (by decide) H6 (Exl.refl H6) (D2.ex e36) _ fun v e H7 he a7 D7 p7 => ?_
      have he : e = .tuple [.str "f", .int 1] := List.mem_singleton.mp he
      subst he
      refine g_tup2 p7 fun v5 v6 p5 p6 => ?_
      cases pv_str p5
      cases pv_int p6
      have a27 : Exl d H2 H7 := (exl_of e36).trans a7
      refine s_retX (K := K) (d := d) (ls := ls) (ns := ns) (S := fun e => ∃ s : Stp, (true = false → isCall s = false) ∧ e = s.d) ((ex_tup (exs_cons (ex_str (S := fun e => e = .str "call") rfl) (exs_cons (val (S := fun e => e = n.d) rfl rfl) (exs_cons (ex_var (S := fun e => e = .str "f") rfl (.str "f") D2 rfl) (exs_cons (S := fun e => ∃ o : Opd, e = .tuple [o.d]) (fun H8 a8 D8 Q8 q8 => ?_) exs_nil)))) ?_ ?_).mono a27) D7 fun v e H4 ⟨s, hs, he⟩ a4 D4 p => by
          subst he
          exact q s v H4 hs (a12.trans (a27.trans a4)) D4 p
      · refine ⟨.int 1, rfl, (1 : Int), rfl, by omega, by omega, fun Dl hD => ?_⟩
        obtain ⟨n1, n2⟩ := D8.nes hD
        refine lc_range (lo := 0) (n := 1) (fun i H' => ∃ (ws : List V) (es : List Opd), es.length = i ∧ H' Dl = some (.lst ws) ∧ PVs K H' ws (es.map Opd.d) ∧ Exl d H8 H' ∧ Deck H' d ls ns) ⟨[], [], rfl, upd_same, .nil, exl_of (Ex.new hD), D8.ex (Ex.new hD)⟩ (fun i H' hi p => ?_) (fun H' p => ?_)
        · obtain ⟨ws, es, p1, p3, p4, p5, p6⟩ := p
          refine ⟨rfl, ?_⟩
          refine opd (σ := [some (.ref d), some (.ref m), some (.ref c), some (.int (r : Int)), some v4, some (.str "f"), some (.int 1), some (.int (0 + (i : Int)))]) rfl rfl H' (a8.trans p5) p6 _ fun v e H9 ⟨o, ho⟩ a9 D9 pv => ?_
          subst ho
          refine ⟨ws, a9 _ _ p3 n1, ?_, ws ++ [v], es ++ [o], by simp [p1], upd_same, ?_, (p5.trans a9).mut hD, D9.upd n1 n2⟩
          · rw [p4.length, List.length_map, p1]
            exact sz_lt (by omega)
          · rw [List.map_append]
            exact ((p4.tx (p6.tx a9)).append (PVs.one pv)).tx (Tx.updL (a9 _ _ p3 n1))
        · obtain ⟨ws, es, p1, p3, p4, p5, p6⟩ := p
          refine .inl ⟨Dl, ws, rfl, SqL.of p3, fun cc hcc => ?_⟩
          obtain ⟨o, rfl⟩ : ∃ o, es = [o] := by
            cases es with
            | nil => cases p1
            | cons o r => cases r with
              | nil => exact ⟨o, rfl⟩
              | cons a b => simp at p1
          exact q8 _ _ _ ⟨o, rfl⟩ (p5.trans (exl_of (Ex.new hcc))) (p6.ex (Ex.new hcc)) (.tup (.inl upd_same) (p4.ex (Ex.new hcc)))
      · rintro es ⟨_, _, rfl, _, _, _, rfl, _, _, _, rfl, _, _, _, rfl, _, rfl⟩
        simp
      · rintro es ⟨_, _, rfl, rfl, _, _, rfl, rfl, _, _, rfl, rfl, _, _, rfl, ⟨o1, rfl⟩, rfl⟩
        exact ⟨.call n o1, (fun h => by cases h), rfl⟩
end
end K36

namespace K36
open PySem PySem.Spec PyProof.Rows L2 Evl Pd Gd Dk
abbrev sWithGoals : Stmt := topS 43
abbrev sReach : Stmt := topS 44
theorem scWithGoals : FnScope ["end", "numbers", "goals", "goal"] ["end", "numbers"] (defScope sWithGoals) := ⟨rfl, rfl, rfl, by decide +kernel, rfl, by decide +kernel, by decide +kernel⟩
theorem scReach : FnScope ["blocks", "shut", "found", "waiting", "own"] ["blocks", "shut"] (defScope sReach) := ⟨rfl, rfl, rfl, by decide +kernel, rfl, by decide +kernel, by decide +kernel⟩
def End.map (f : Nat → Nat) : End → End
  | .ret a => .ret a
  | .jump g => .jump (f g)
  | .fork a g h => .fork a (f g) (f h)
theorem End.map_goals (f : Nat → Nat) (e : End) : (e.map f).goals = e.goals.map f := by cases e <;> rfl
def ik (j : Nat) : Key := Sum.inl (j : Int)
theorem ik_inj {a b : Nat} (h : ik a = ik b) : a = b := by
  have := Sum.inl.inj h
  omega
def spWithGoals (K : PySem.W.Frag) : Sp := fun vs H Q _ => ∃ (v : V) (a : Addr) (e : End) (f : Nat → Nat) (kvs : List (Key × V)), vs = [v, .ref a] ∧ PV K H v e.d ∧ H a = some (.dK kvs) ∧ (∀ j ∈ e.goals, valV kvs (ik j) = some (.int (f j : Int))) ∧ ∀ u H', Ex H H' → PV K H' u (e.map f).d → Q u H'
structure Closed (g : Gr) (N : List Nat) : Prop where
  zero : 0 ∈ N
  lt : ∀ k ∈ N, k < g.length
  nd : N.Nodup
  cl : ∀ k ∈ N, ∀ b, g[k]? = some b → ∀ j ∈ b.fin.goals, j ∈ N
def spReach (K : PySem.W.Frag) : Sp := fun vs H Q _ => ∃ (lb : Addr) (ws : List V) (g : Gr), vs = [.ref lb, .non] ∧ H lb = some (.lst ws) ∧ PVs K H ws (g.map Blk.d) ∧ 0 < g.length ∧ g.length ≤ 100 ∧ (∀ b ∈ g, ∀ j ∈ b.fin.goals, j < g.length) ∧
  ∀ p N H', Closed g N → H p = none → Ex H H' → SetAt H' p (N.map ik) → Q (.ref p) H'
section
variable {K : PySem.W.Frag} {H : Hp} {σ : L2.St} {D : Ends} {tz tu : L2.TS} {ta tb tc te ty td : TE} {E : XK}
/-- t[:k] -/
theorem ep_slTo {k : Nat} {ds : List PyData} (h : EvP K te σ H (.tuple ds)) : EvP K (tSl (rSlA K) te tNoPart (tPart (tC (.int (k : Int))))) σ H (.tuple (ds.take k)) := fun H1 e Q q =>
  h H1 e _ fun v H2 e2 p => by
    obtain ⟨a, xs, rfl, hx, px⟩ := pv_tup p
    have hl := px.length
    refine ⟨(k : Int), rfl, a, xs, rfl, hx.sq, fun z => ?_, fun _ c hc => ?_⟩
    · rw [HT.sIx_nat] at z
      have e3 : ds.take k = ds := List.take_of_length_le (by omega)
      exact q _ H2 e2 (by rw [e3]; exact p)
    · refine q _ _ (e2.trans (Ex.new hc)) (.tup (.inl upd_same) ?_)
      unfold cutV
      rw [HT.sIx_nat, HT.sIx_none]
      have e3 : (xs.drop 0).take (min k xs.length - 0) = xs.take k := by
        rw [List.drop_zero, Nat.sub_zero]
        by_cases hk : k ≤ xs.length
        · rw [Nat.min_eq_left hk]
        · rw [Nat.min_eq_right (by omega), List.take_of_length_le (Nat.le_refl _), List.take_of_length_le (by omega)]
      rw [e3]
      exact (px.take k).ex (Ex.new hc)
theorem et_notInS {a : Addr} {L : List Key} {k : Key} (hy : Ev ty σ H (kV k)) (h : Ev td σ H (.ref a)) (hs : SetAt H a L) : EvT (tB (tDNotIn ty td)) σ H (!decide (k ∈ L)) := fun H1 e Q q =>
  hy H1 e _ fun H2 e2 => h H2 (e.trans e2) _ fun H3 e3 => ⟨a, valV (setK L) k, rfl, DGet.k (k := k) ((hs.ex ((e.trans e2).trans e3)).at_), !decide (k ∈ L), by
    rw [valV_setK]
    by_cases hk : k ∈ L
    · rw [if_pos hk, decide_eq_true hk]
      rfl
    · rw [if_neg hk, decide_eq_false hk]
      rfl, q H3 (e2.trans e3)⟩
theorem ep_dget {a : Addr} {kvs : List (Key × V)} {k : Key} {v : V} {d : PyData} (h : Ev td σ H (.ref a)) (hd : H a = some (.dK kvs)) (hy : Ev ty σ H (kV k)) (hv : valV kvs k = some v) (p : PV K H v d) : EvP K (tDGet td ty) σ H d := fun H1 e Q q =>
  h H1 e _ fun H2 e2 => hy H2 (e.trans e2) _ fun H3 e3 => ⟨a, v, rfl, by rw [← hv]; exact DGet.k (k := k) (((e.trans e2).trans e3) _ _ hd), q v H3 (e2.trans e3) (p.ex ((e.trans e2).trans e3))⟩
theorem q_pop {l : Addr} {xs : List V} {y : V} {i : Nat} (hl : H l = some (.lst xs)) (h : Ev ta σ H (.ref l)) (hy : xs[xs.length - 1]? = some y) (k : ∀ H1, Ex H H1 → tz D (σ.set i (some y)) (upd H1 l (.lst xs.dropLast))) : tSeq (tAsg (tBM0 K "list" rPop ta) (gName i)) tz D σ H :=
  h H (Ex.refl H) _ fun H1 e1 => ⟨.inl ⟨rfl, xs, SqL.of (e1 _ _ hl)⟩, l, xs, y, rfl, rfl, e1 _ _ hl, hy, k H1 e1⟩
theorem s_extT {l : Addr} {xs : List V} {ds : List PyData} (hl : H l = some (.lst xs)) (h : Ev ta σ H (.ref l)) (ht : EvP K te σ H (.tuple ds)) (hz : xs.length + ds.length ≤ 100000) (k : ∀ us H1, Ex H H1 → PVs K H1 us ds → D.nx σ (upd H1 l (.lst (xs ++ us)))) :
    tDrop (tBM K "list" rExtend ta (tCons (tCB (rListS K) (tCons te tNil)) tNil)) D σ H := h H (Ex.refl H) _ fun H1 e1 => ⟨.inl ⟨rfl, xs, SqL.of (e1 _ _ hl)⟩, ht H1 e1 _ fun v H2 e2 p => by
    obtain ⟨a, us, rfl, hx, px⟩ := pv_tup p
    refine ⟨a, us, rfl, .inr hx.sq, fun b hb => ?_⟩
    have hl2 := (e1.trans e2) _ _ hl
    refine ⟨l, b, xs, us, rfl, rfl, (Ex.new hb) _ _ hl2, upd_same, by rw [px.length]; exact sz_of hz, k us _ ((e1.trans e2).trans (Ex.new hb)) (px.ex (Ex.new hb))⟩⟩
end
section
variable {P : Program} {w : World} {K : PySem.W.Frag} {mg : Str → Option Value} {base : Heap}
theorem ok_lgoals {f : Addr} {fd : FuncData} (F : Fun K "_law_goals" "_law_goals" sLawGoals f fd) : FnOk P w K mg base CX0 1 f fd ["end"] (spGoalsOf K) := by
  refine F.ok scLawGoals (fun vs H Q E h => ?_) (fun cdv A outer s H vs Q E hr h => ?_)
  · obtain ⟨ds, d, ps, ⟨o, rfl, _⟩, _⟩ := h
    exact ps.length
  · obtain ⟨ds, d, ps, ⟨e, rfl, rfl⟩, q⟩ := h
    obtain ⟨v1, rfl, a1⟩ := pvs1 ps
    rw [e.d_ds] at a1
    refine ⟨_, pss_one (ps_ret (pe_ifExp (pt_cmpR op_eq (pe_ix ix_tup (pv 0) pe_int (fun _ _ => rfl)) pe_str (nomark _)) (pe_tup pa_nil) (pe_ifExp (pt_cmpR op_eq (pe_ix ix_tup (pv 0) pe_int (fun _ _ => rfl)) pe_str (nomark _)) (pe_slice sl_tupA (pv 0) (po_some pe_int) po_none) (pe_slice sl_tupA (pv 0) (po_some pe_int) po_none)))), ?_⟩
    have k0 : Ev (tOp (rIxT K) (tVar 0) (tC (.int 0))) [some v1] H (.str e.kind) := ev_epS (ep_ixT (i := 0) (ep_var rfl a1) ev_c e.at0)
    refine s_retP (d := goalsD e) (ep_if (et_test (ev_is (et_eqS k0 ev_c) (congrArg V.bl (end_ret e)))) (fun h => ?_) (fun h => ep_if (et_test (ev_is (et_eqS k0 ev_c) (congrArg V.bl (end_jump e)))) (fun h2 => ?_) (fun h2 => ?_))) fun v H2 e2 p => q v H2 e2 p
    · cases e with
      | ret a => exact ep_tup eps_nil (by simp [End.goals])
      | jump g => cases h
      | fork a g k => cases h
    · cases e with
      | jump g => exact ep_slT (k := 1) (ep_var rfl a1)
      | ret a => cases h2
      | fork a g k => cases h2
    · cases e with
      | fork a g k => exact ep_slT (k := 2) (ep_var rfl a1)
      | ret a => cases h
      | jump g => cases h2
theorem ok_with_goals {f fG : Addr} {fd fdG : FuncData} (F : Fun K "_law_with_goals" "_law_with_goals" sWithGoals f fd) (GG : FnOk P w K mg base CX0 1 fG fdG ["end"] (spGoalsOf K)) (kG : PySem.W.keepIn K (.ref fG) = true) (bG : Binds K fdG ["end"] []) (gG : mg "_law_goals" = some (.ref fG)) (mt : mg "tuple" = none) : FnOk P w K mg base CX0 2 f fd ["end", "numbers"] (spWithGoals K) := by
  refine F.ok scWithGoals (fun vs H Q E h => ?_) (fun cdv A outer s H vs Q E hr h => ?_)
  · obtain ⟨v, a, e, f, kvs, rfl, _⟩ := h
    rfl
  · obtain ⟨v, a, e, f, kvs, rfl, a1, ha, hk, q⟩ := h
    have hu := hu_of hr
    rw [e.d_ds] at a1
    refine ⟨_, pss_cons (ps_set (i := 2) scWithGoals.nd rfl (.inl rfl) (pe_tupleOf (by rfl) mt (pe_lc (own := [("goal", 3)]) (g := gName 3) (tt := tYes) (te := tDGet (tVar 1) (tVar 3)) rfl scWithGoals.nd (pi_tup (pe_call GG hr (by rfl) gG kG bG .nil pass0 (pa_cons (pv 0) pa_nil))) (blkOk_by (N := ["end", "numbers", "goals", "goal"]) (sc := defScope sWithGoals) (by decide +kernel))
        (fun _ _ _ _ _ => pg_name (i := 3) scWithGoals.nd rfl (Or.inl rfl)) (fun _ _ _ _ _ => pts_nil) (fun _ _ _ _ _ => pe_dget hu (pv 1) (pv 3) (fun _ _ => rfl)))))
      (pss_one (ps_ret (pe_ifExp (pt_cmpR op_eq (pe_ix ix_tup (pv 0) pe_int (fun _ _ => rfl)) pe_str (nomark _)) (pv 0) (pe_ifExp (pt_cmpR op_eq (pe_ix ix_tup (pv 0) pe_int (fun _ _ => rfl)) pe_str (nomark _)) (pe_op op_catA (pe_tup (pa_cons pe_str pa_nil)) (pv 2)) (pe_op op_catA (pe_slice sl_tupA (pv 0) po_none (po_some pe_int)) (pv 2)))))), ?_⟩
    refine q_asgP (K := K) (d := .tuple ((e.goals.map f).map natD)) (ep_tupleOf (el_lcT (K := K) (σ := [some v, some (.ref a), none, none]) (g := gName 3) (te := tDGet (tVar 1) (tVar 3)) (vs := [3]) (ds := e.goals.map natD) _ (ep_call (eps_cons (ep_var rfl (by rw [e.d_ds]; exact a1)) eps_nil) ⟨e, rfl, rfl⟩) (by simp) (by rw [List.length_map]; cases e <;> simp [End.goals]) ?_)) fun vg H1 e1 pg => ?_
    · intro i x c d H1 e1 hc pc hd Q k
      obtain ⟨j, hj, rfl⟩ := map_at hc
      obtain ⟨j', hj', rfl⟩ := map_at hd
      obtain ⟨j2, hj2, rfl⟩ := map_at hj'
      rw [hj] at hj2
      cases hj2
      cases pv_int pc
      exact k _ H1 (Ex.refl H1) rfl (ep_dget (k := ik j) (ev_var rfl) (e1 _ _ ha) (ev_var rfl) (hk j (List.mem_of_getElem? hj)) (.int _))
    · have k0 : Ev (tOp (rIxT K) (tVar 0) (tC (.int 0))) [some v, some (.ref a), some vg, none] H1 (.str e.kind) := ev_epS (ep_ixT (i := 0) (ep_var rfl (a1.ex e1)) ev_c e.at0)
      refine s_retP (d := (e.map f).d) (ep_if (et_test (ev_is (et_eqS k0 ev_c) (congrArg V.bl (end_ret e)))) (fun h => ?_) (fun h => ep_if (et_test (ev_is (et_eqS k0 ev_c) (congrArg V.bl (end_jump e)))) (fun h2 => ?_) (fun h2 => ?_))) fun v H2 e2 p => q v H2 (e1.trans e2) p
      · cases e with
        | ret a => exact ep_var rfl (a1.ex e1)
        | jump g => cases h
        | fork a g k => cases h
      · cases e with
        | jump g => exact ep_cat (ds := [.str "jump"]) (ep_tup (eps_cons ep_str eps_nil) (by simp)) (ep_var rfl pg) (by simp [End.goals])
        | ret a => cases h2
        | fork a g k => cases h2
      · cases e with
        | fork a g k => exact ep_cat (ds := [.str "fork", a.d]) (ep_slTo (k := 2) (ep_var rfl (a1.ex e1))) (ep_var rfl pg) (by simp [End.goals])
        | ret a => cases h
        | jump g => cases h2
theorem ik_mem {N : List Nat} {j : Nat} : ik j ∈ N.map ik ↔ j ∈ N := ⟨fun h => by
  obtain ⟨i, hi, e⟩ := List.mem_map.mp h
  rw [← ik_inj e]
  exact hi, fun h => List.mem_map.mpr ⟨j, h, rfl⟩⟩
theorem nodup_lt : ∀ {N : List Nat} {n : Nat}, N.Nodup → (∀ k ∈ N, k < n) → N.length ≤ n := fun {N n} h1 h2 => by
  have : (N.map ik).length ≤ ((List.range n).map ik).length := nodup_sub_len (List.Pairwise.map ik (fun a b hne e => hne (ik_inj e)) h1) fun k hk => by
    obtain ⟨j, hj, rfl⟩ := List.mem_map.mp hk
    exact ik_mem.mpr (List.mem_range.mpr (h2 j hj))
  simpa using this
theorem ok_reach {f fG : Addr} {fd fdG : FuncData} (F : Fun K "_law_reach" "_law_reach" sReach f fd) (GG : FnOk P w K mg base CX0 1 fG fdG ["end"] (spGoalsOf K)) (kG : PySem.W.keepIn K (.ref fG) = true) (bG : Binds K fdG ["end"] []) (gG : mg "_law_goals" = some (.ref fG)) (ml : mg "len" = none) (mls : mg "list" = none) : FnOk P w K mg base CX0 2 f fd ["blocks", "shut"] (spReach K) := by
  refine F.ok scReach (fun vs H Q E h => ?_) (fun cdv A outer s H vs Q E hr h => ?_)
  · obtain ⟨lb, ws, g, rfl, _⟩ := h
    rfl
  · obtain ⟨lb, ws, g, rfl, hlb, pw, h0, h100, hg, q⟩ := h
    have hu := hu_of hr
    refine ⟨_, pss_cons (ps_set (i := 2) scReach.nd rfl (.inl rfl) pe_dnewK)
      (pss_cons (ps_set (i := 3) scReach.nd rfl (.inl rfl) (pe_ifExp (pt_cmpR op_ne (pv 1) pe_int (nomark _)) (pe_lst (pa_cons pe_int pa_nil)) (pe_lst pa_nil)))
      (pss_cons (ps_while PassesOwn.never (pt_cmpR op_gt (pe_callB call_len_seq (by rfl) ml PySem.boot_len (pa_cons (pv 3) pa_nil)) pe_int (nomark _))
        (pss_cons (ps_set (i := 4) scReach.nd rfl (.inl rfl) (pe_bm0 PySem.F.plainAttrs_list PySem.F.slot_list_pop PySem.F.type_list_pop mt_pop (pv 3)))
        (pss_one (ps_if (PW.pt (pw_and (pt_cmp (pc_dnotin hu (pv 4) (pv 2)) (by rfl)) (pw_and1 (pt_cmpR op_ne (pv 4) (pv 1) (nomark _)))))
          (pss_cons (ps_dput hu (pv 2) (pv 4) pe_bl rfl)
          (pss_one (ps_expr (pe_bm PySem.F.plainAttrs_list PySem.F.slot_list_extend PySem.F.type_list_extend mt_extend (pv 3) (pa_cons (pe_callTy call_list_of (by rfl) mls (by decide +kernel) (pa_cons (pe_call GG hr (by rfl) gG kG bG .nil pass0 (pa_cons (pe_ix ix_tup (pe_ix ix_list (pv 0) (pv 4) (fun _ _ => rfl)) pe_int (fun _ _ => rfl)) pa_nil)) pa_nil)) pa_nil))))) pss_nil))))
      (pss_one (ps_ret (pv 2))))), ?_⟩
    refine q_asgS es_new fun fo H1 hfo e1 s1 => ?_
    refine q_asgPL (K := K) (ds := [.int 0]) (fun H2 e2 Q2 q2 => et_test (b := true) (ev_op (ev_var (i := 1) (σ := [some (.ref lb), some .non, some (.ref fo), none, none]) rfl) ev_c (rv_ne rfl)) H2 e2 _ fun H3 e3 => el_tup (eps_cons ep_int eps_nil) (by decide) H3 (e2.trans e3) _ fun p vs H4 hp e4 h4 p4 => q2 p vs H4 (fresh_back e3 hp) (e3.trans e4) h4 p4) fun wl vs H2 hwl e2 hw2 pv2 => ?_
    have hvs : vs = [.int 0] := PVs.of_ints (ns := [0]) pv2
    subst hvs
    have hwlH : H wl = none := fresh_back e1 hwl
    have hne : fo ≠ wl := fun z => by
      have := s1.at_
      rw [z, hwl] at this
      cases this
    refine q_while (fun m σ' H' => ∃ (N W : List Nat) (y4 : Option V), σ' = [some (.ref lb), some .non, some (.ref fo), some (.ref wl), y4] ∧ m = 3 * (g.length - N.length) + W.length ∧ H' wl = some (.lst (W.map fun (j : Nat) => V.int (j : Int))) ∧ SetAt H' fo (N.map ik) ∧ Ex H H' ∧ (0 ∈ N ∨ 0 ∈ W) ∧ (∀ k ∈ N, k < g.length) ∧ (∀ k ∈ W, k < g.length) ∧ N.Nodup ∧
        (∀ k ∈ N, ∀ b, g[k]? = some b → ∀ j ∈ b.fin.goals, j ∈ N ∨ j ∈ W) ∧ W.length ≤ 1 + 2 * N.length) _ ⟨[], [0], none, rfl, rfl, hw2, s1.ex e2, e1.trans e2, .inr (by simp), (fun k h => by cases h), (fun k h => by rw [List.mem_singleton.mp h]; exact h0), List.nodup_nil, (fun k h => by cases h), by simp⟩ ?_
    rintro m σ' H' ⟨N, W, y4, rfl, rfl, hw, sf, ex, i0, iN, iW, nd, cl, hWl⟩
    have hNl := nodup_lt nd iN
    refine ⟨_, et_test (ev_op (ev_len (ev_var rfl) (SqL.of hw)) ev_c rv_I0), fun hb H3 e3 => ?_, fun hb H3 e3 => ?_⟩
    · have hpos : 0 < W.length := by
        have := of_decide_eq_true hb
        rw [List.length_map] at this
        omega
      obtain ⟨W', k, rfl⟩ : ∃ W' k, W = W' ++ [k] := ⟨W.dropLast, W.getLast (List.ne_nil_of_length_pos hpos), (List.dropLast_concat_getLast _).symm⟩
      have hk : k < g.length := iW k (by simp)
      obtain ⟨b, hgb⟩ : ∃ b, g[k]? = some b := ⟨_, List.getElem?_eq_getElem hk⟩
      refine ⟨fun σ2 H2 => ∃ (N2 W2 : List Nat) (y4 : Option V), σ2 = [some (.ref lb), some .non, some (.ref fo), some (.ref wl), y4] ∧ 3 * (g.length - N2.length) + W2.length < 3 * (g.length - N.length) + (W' ++ [k]).length ∧ H2 wl = some (.lst (W2.map fun (j : Nat) => V.int (j : Int))) ∧ SetAt H2 fo (N2.map ik) ∧ Ex H H2 ∧ (0 ∈ N2 ∨ 0 ∈ W2) ∧ (∀ k ∈ N2, k < g.length) ∧ (∀ k ∈ W2, k < g.length) ∧ N2.Nodup ∧
        (∀ k ∈ N2, ∀ b, g[k]? = some b → ∀ j ∈ b.fin.goals, j ∈ N2 ∨ j ∈ W2) ∧ W2.length ≤ 1 + 2 * N2.length, fun σ2 H2 ⟨N2, W2, y4, h1, h2, h3⟩ => ⟨_, h2, N2, W2, y4, h1, rfl, h3⟩, ?_⟩
      have hw3 := e3 _ _ hw
      refine q_pop (y := .int (k : Int)) hw3 (ev_var rfl) (by simp) fun H4 e4 => ?_
      have hdl : ((W' ++ [k]).map fun (j : Nat) => V.int (j : Int)).dropLast = W'.map fun (j : Nat) => V.int (j : Int) := by simp
      rw [hdl]
      have x4 : Ex H (upd H4 wl (.lst (W'.map fun (j : Nat) => V.int (j : Int)))) := Ex.mut (ex.trans (e3.trans e4)) hwlH
      have s4 : SetAt (upd H4 wl (.lst (W'.map fun (j : Nat) => V.int (j : Int)))) fo (N.map ik) := set_other (e4 _ _ hw3) (sf.ex (e3.trans e4))
      refine s_when (b := !decide (ik k ∈ N.map ik) && true) (et_and (et_notInS (ev_var rfl) (ev_var rfl) s4) fun _ => et_test (ev_op (ev_var rfl) (ev_var rfl) (rv_ne rfl))) (fun h5 H5 e5 => ?_) (fun h5 H5 e5 => ?_)
      · have hkN : k ∉ N := fun z => by
          rw [decide_eq_true (ik_mem.mpr z)] at h5
          cases h5
        have s5 := s4.ex e5
        refine s_addS (k := ik k) (D := { nx := fun σ2 H2 => _, rt := _, ct := _, bk := _ }) s5 (fun H6 e6 => ev_var rfl) (fun H6 e6 => ev_var rfl) (by rw [List.length_map]; omega) fun H6 e6 s6 => ?_
        have hw6 : (upd H6 fo (.dK (setK (addK (N.map ik) (ik k))))) wl = some (.lst (W'.map fun (j : Nat) => V.int (j : Int))) := by
          rw [upd_ne (Ne.symm hne)]
          exact e6 _ _ (e5 _ _ upd_same)
        have hadd : addK (N.map ik) (ik k) = (N ++ [k]).map ik := by
          unfold addK
          rw [if_neg (fun z => hkN (ik_mem.mp z)), List.map_append]
          rfl
        have x6 : Ex H (upd H6 fo (.dK (setK (addK (N.map ik) (ik k))))) := Ex.mut (x4.trans (e5.trans e6)) hfo
        have hgl : b.fin.goals.length ≤ 2 := by cases b.fin <;> simp [End.goals]
        refine s_extT (K := K) (ds := b.fin.goals.map natD) hw6 (ev_var rfl) (ep_call (eps_cons (ep_ixT (i := 1) (ep_ixL (i := k) (ev_var rfl) (SqL.of (x6 _ _ hlb)) (pw.ex x6) (ev_var rfl) (by rw [List.getElem?_map, hgb]; rfl)) ev_c rfl) eps_nil) ⟨b.fin, rfl, rfl⟩) (by
            simp only [List.length_append, List.length_singleton] at hWl
            rw [List.length_map, List.length_map]
            omega) fun us H7 e7 pu => ?_
        have hus : us = b.fin.goals.map fun (j : Nat) => V.int (j : Int) := by
          clear hgl
          revert us
          generalize b.fin.goals = gs
          induction gs with
          | nil => intro us pu; cases pu; rfl
          | cons a gs ih =>
            intro us pu
            cases pu with
            | cons p1 p2 =>
              cases pv_int p1
              rw [ih _ p2]
              rfl
        rw [hus, ← List.map_append]
        have s7 := s6.ex e7
        rw [hadd] at s7
        refine ⟨N ++ [k], W' ++ b.fin.goals, _, rfl, ?_, upd_same, set_other (e7 _ _ hw6) s7, Ex.mut (x6.trans e7) hwlH, ?_, ?_, ?_, ?_, ?_, ?_⟩
        · simp only [List.length_append, List.length_singleton]
          have : N.length < g.length := by
            have := nodup_lt (N := N ++ [k]) (n := g.length) (List.nodup_append.mpr ⟨nd, List.nodup_cons.mpr ⟨List.not_mem_nil, List.nodup_nil⟩, fun a ha b hb e => by
              rw [List.mem_singleton.mp hb] at e
              exact hkN (e ▸ ha)⟩) (fun j hj => by
              rcases List.mem_append.mp hj with z | z
              · exact iN j z
              · rw [List.mem_singleton.mp z]
                exact hk)
            simp only [List.length_append, List.length_singleton] at this
            omega
          omega
        · rcases i0 with z | z
          · exact .inl (List.mem_append_left _ z)
          · rcases List.mem_append.mp z with z | z
            · exact .inr (List.mem_append_left _ z)
            · exact .inl (List.mem_append_right _ z)
        · intro j hj
          rcases List.mem_append.mp hj with z | z
          · exact iN j z
          · rw [List.mem_singleton.mp z]
            exact hk
        · intro j hj
          rcases List.mem_append.mp hj with z | z
          · exact iW j (List.mem_append_left _ z)
          · exact hg b (List.mem_of_getElem? hgb) j z
        · exact List.nodup_append.mpr ⟨nd, List.nodup_cons.mpr ⟨List.not_mem_nil, List.nodup_nil⟩, fun a ha b hb e => by
            rw [List.mem_singleton.mp hb] at e
            exact hkN (e ▸ ha)⟩
        · intro j hj c hc i hi
          rcases List.mem_append.mp hj with z | z
          · rcases cl j z c hc i hi with z | z
            · exact .inl (List.mem_append_left _ z)
            · rcases List.mem_append.mp z with z | z
              · exact .inr (List.mem_append_left _ z)
              · exact .inl (List.mem_append_right _ z)
          · rw [List.mem_singleton.mp z, hgb] at hc
            cases hc
            exact .inr (List.mem_append_right _ hi)
        · simp only [List.length_append, List.length_singleton] at hWl ⊢
          omega
      · have hkN : k ∈ N := by
          by_cases z : k ∈ N
          · exact z
          · rw [decide_eq_false (fun y => z (ik_mem.mp y))] at h5
            cases h5
        refine ⟨N, W', _, rfl, by simp, e5 _ _ upd_same, s4.ex e5, x4.trans e5, ?_, iN, fun j hj => iW j (List.mem_append_left _ hj), nd, fun j hj c hc i hi => ?_, ?_⟩
        · rcases i0 with z | z
          · exact .inl z
          · rcases List.mem_append.mp z with z | z
            · exact .inr z
            · rw [List.mem_singleton.mp z]
              exact .inl hkN
        · rcases cl j hj c hc i hi with z | z
          · exact .inl z
          · rcases List.mem_append.mp z with z | z
            · exact .inr z
            · rw [List.mem_singleton.mp z]
              exact .inl hkN
        · simp only [List.length_append, List.length_singleton] at hWl
          omega
    · have hnil : W = [] := by
        have := of_decide_eq_false hb
        rw [List.length_map] at this
        exact List.length_eq_zero_iff.mp (by omega)
      subst hnil
      refine s_ret (ev_var rfl) fun H4 e4 => q fo N H4 ⟨?_, iN, nd, fun k hk b hb j hj => ?_⟩ (fresh_back (Ex.refl H) hfo) (ex.trans (e3.trans e4)) (sf.ex (e3.trans e4))
      · exact i0.elim id fun z => by cases z
      · exact (cl k hk b hb j hj).elim id fun z => by cases z
end
end K36

namespace K36
open PySem PySem.Spec PyProof.Rows L2 Evl Pd Gd Dk
abbrev sLGraph : Stmt := topS 45
theorem scLGraph : FnScope ["d", "params", "most", "calls", "names", "many", "blocks", "k", "steps", "j", "menu", "end", "kept", "numbers"] ["d", "params", "most", "calls"] (defScope sLGraph) := ⟨rfl, rfl, rfl, by decide +kernel, rfl, by decide +kernel, by decide +kernel⟩
structure LG (g : Gr) : Prop where
  pos : 0 < g.length
  len : g.length ≤ 4
  st : ∀ b ∈ g, b.steps.length ≤ 3
  nc : ∀ b ∈ g, ∀ s ∈ b.steps, isCall s = false
  gl : ∀ b ∈ g, ∀ j ∈ b.fin.goals, j < g.length
def parD : PyData := .tuple [Nm.a.d, Nm.b.d]
def spLGraph (K : PySem.W.Frag) : Sp := fun vs H Q _ => ∃ (d ls c : Addr) (ns : List Int) (v : V), vs = [.ref d, v, .int 4, .ref c] ∧ Deck H d ls ns ∧ ns.length ≤ 63 ∧ PV K H v parD ∧ H c = some (.lst []) ∧ c ≠ d ∧
  ∀ (g : Gr) (u : V) (H' : Hp), LG g → Exl d H H' → Deck H' d ls ns → PV K H' u (gD [.a, .b] g) → Q u H'
theorem perm_map {α β : Type} {f : α → β} {l : List α} {es : List β} (h : es.Perm (l.map f)) : ∃ m : List α, es = m.map f ∧ m.Perm l := by
  suffices ∀ {es fs : List β}, es.Perm fs → ∀ l : List α, fs = l.map f → ∃ m : List α, es = m.map f ∧ m.Perm l from this h l rfl
  intro es fs h
  induction h with
  | nil => exact fun l e => ⟨l, e, .refl _⟩
  | cons x _ ih =>
    intro l e
    cases l with
    | nil => cases e
    | cons a l =>
      rw [List.map_cons] at e
      obtain ⟨e1, e2⟩ := List.cons.inj e
      obtain ⟨m, h1, h2⟩ := ih l e2
      exact ⟨a :: m, by rw [List.map_cons, ← h1, e1], h2.cons _⟩
  | swap x y l0 =>
    intro l e
    cases l with
    | nil => cases e
    | cons a l => cases l with
      | nil => cases (List.cons.inj e).2
      | cons b l =>
        rw [List.map_cons, List.map_cons] at e
        obtain ⟨e1, e2⟩ := List.cons.inj e
        obtain ⟨e2, e3⟩ := List.cons.inj e2
        exact ⟨b :: a :: l, by rw [List.map_cons, List.map_cons, ← e1, ← e2, ← e3], .swap _ _ _⟩
  | trans _ _ ih1 ih2 =>
    intro l e
    obtain ⟨m, h1, h2⟩ := ih2 l e
    obtain ⟨m2, h3, h4⟩ := ih1 m h1
    exact ⟨m2, h3, h4.trans h2⟩
/-! ### dicts of pairs -/
theorem putK_new {kvs : List (Key × V)} {k : Key} {v : V} (h : k ∉ kvs.map (·.1)) : putK kvs k v = kvs ++ [(k, v)] := by
  unfold putK
  rw [if_neg]
  intro z
  obtain ⟨p, hp, e⟩ := List.any_eq_true.mp z
  exact h (List.mem_map.mpr ⟨p, hp, of_decide_eq_true e⟩)
theorem mergeK_new : ∀ {more acc : List (Key × V)}, ((acc ++ more).map (·.1)).Nodup → mergeK acc more = acc ++ more
  | [], acc, _ => by simp [mergeK]
  | (k, v) :: more, acc, h => by
    show mergeK (putK acc k v) more = _
    rw [List.map_append] at h
    have hk : k ∉ acc.map (·.1) := fun z => (List.nodup_append.mp h).2.2 k z k (by simp) rfl
    rw [putK_new hk, mergeK_new (by rw [List.append_assoc, List.map_append]; exact h), List.append_assoc]
    rfl
theorem valV_mem {k : Key} {v : V} : ∀ {kvs : List (Key × V)}, (kvs.map (·.1)).Nodup → (k, v) ∈ kvs → valV kvs k = some v
  | p :: kvs, h, hm => by
    rw [List.map_cons] at h
    obtain ⟨h1, h2⟩ := List.nodup_cons.mp h
    by_cases e : p.1 = k
    · rw [valV_pos e]
      rcases List.mem_cons.mp hm with z | z
      · rw [← z]
      · exact absurd (List.mem_map.mpr ⟨(k, v), z, rfl⟩) (by rw [← e]; exact h1)
    · rw [valV_neg e]
      rcases List.mem_cons.mp hm with z | z
      · rw [← z] at e
        exact absurd rfl e
      · exact valV_mem h2 z
def numK (N : List Nat) : List (Key × V) := (List.range N.length).map fun i => (ik (N.getD i 0), V.int (i : Int))
theorem numK_keys (N : List Nat) : (numK N).map (·.1) = N.map ik := by
  unfold numK
  rw [List.map_map]
  refine List.ext_getElem (by simp) fun i h1 h2 => ?_
  have : i < N.length := by simpa using h2
  simp [this]
theorem nodup_ik {N : List Nat} (h : N.Nodup) : (N.map ik).Nodup := List.Pairwise.map ik (fun a b hne e => hne (ik_inj e)) h
def ixOf (N : List Nat) (j : Nat) : Nat := N.idxOf j
theorem ixOf_lt {N : List Nat} {j : Nat} (h : j ∈ N) : ixOf N j < N.length := List.idxOf_lt_length_of_mem h
theorem numK_val {N : List Nat} {j : Nat} (hn : N.Nodup) (h : j ∈ N) : valV (numK N) (ik j) = some (.int (ixOf N j : Int)) := by
  refine valV_mem (by rw [numK_keys]; exact nodup_ik hn) (List.mem_map.mpr ⟨ixOf N j, List.mem_range.mpr (ixOf_lt h), ?_⟩)
  have h1 : N.getD (ixOf N j) 0 = j := by
    rw [List.getD_eq_getElem?_getD, List.getElem?_eq_getElem (ixOf_lt h)]
    exact List.getElem_idxOf (ixOf_lt h)
  rw [h1]
section
variable {K : PySem.W.Frag} {H : Hp} {σ : L2.St} {D : Ends} {tz tu : L2.TS} {ta tb tc te ty td tm : TE} {E : XK} {d ls : Addr} {ns : List Int} {S : PyData → Prop}
/-- list(t) -/
theorem el_listT {ds : List PyData} (h : EvP K te σ H (.tuple ds)) : EvPL K (tCB (rListS K) (tCons te tNil)) σ H ds := fun H1 e Q q => h H1 e _ fun v H2 e2 p => by
  obtain ⟨a, us, rfl, hx, px⟩ := pv_tup p
  exact ⟨a, us, rfl, .inr hx.sq, fun l hl => q l us _ (fresh_back e2 hl) (e2.trans (Ex.new hl)) upd_same (px.ex (Ex.new hl))⟩
/-- two new lists -/
theorem el_cat2 {ds es : List PyData} (h1 : EvPL K ta σ H ds) (h2 : EvPL K tb σ H es) (hl : ds.length + es.length ≤ 100000) : EvPL K (tOp rCat ta tb) σ H (ds ++ es) := fun H1 e Q q => h1 H1 e _ fun p vs H2 hp e2 l1 p1 => h2 H2 (e.trans e2) _ fun p' vs' H3 hp' e3 l2 p2 =>
  ⟨p, p', vs, vs', rfl, rfl, e3 _ _ l1, l2, by rw [p1.length, p2.length]; exact sz_of hl, fun c hc => q c _ _ (fresh_back (e2.trans e3) hc) ((e2.trans e3).trans (Ex.new hc)) upd_same (((p1.ex e3).append p2).ex (Ex.new hc))⟩
/-- 1 + a draw -/
theorem ex_add1 {m : Nat} (h : EvX K d ls ns te σ H (fun e => ∃ r : Nat, r < m ∧ e = .int (r : Int))) : EvX K d ls ns (tOp (rI0 fun i j => .int (i + j)) (tC (.int 1)) te) σ H (fun e => ∃ j : Nat, 0 < j ∧ j < m + 1 ∧ e = .int (j : Int)) := fun H1 a D Q q => by
  refine h H1 a D _ fun v e H2 ⟨r, hr, he⟩ a2 D2 p => ?_
  subst he
  cases pv_int p
  refine ⟨1, _, rfl, rfl, q _ _ H2 ⟨1 + r, by omega, by omega, rfl⟩ a2 D2 ?_⟩
  have : (1 : Int) + (r : Int) = ((1 + r : Nat) : Int) := by omega
  show PV K H2 (.int ((1 : Int) + (r : Int))) _
  rw [this]
  exact .int _
theorem etx_and {t u : TT} (h1 : EvTX d ls ns t σ H) (h2 : EvTX d ls ns u σ H) : EvTX d ls ns (tAnd t u) σ H := fun H1 a D Q q => h1 H1 a D _ fun b H2 a2 D2 => by
  cases b with
  | true =>
    show u σ H2 Q
    exact h2 H2 (a.trans a2) D2 Q fun b H3 a3 D3 => q b H3 (a2.trans a3) D3
  | false => exact q false H2 a2 D2
theorem etx_of {t : TT} {b : Bool} (h : ∀ H1, Exl d H H1 → EvT t σ H1 b) : EvTX d ls ns t σ H := fun H1 a D Q q => h H1 a H1 (Ex.refl H1) Q fun H2 e2 => q b H2 (exl_of e2) (D.ex e2)
theorem paired_of : ∀ {L : List (Nat × Nat)} {vs : List V}, PVs K H vs (L.map fun q => .tuple [natD q.1, natD q.2]) → ∃ ps : List Addr, vs = ps.map V.ref ∧ Paired (fun p (kv : Key × V) => SqT K H p [kV kv.1, kv.2]) ps (L.map fun q => (ik q.1, V.int (q.2 : Int)))
  | [], _, h => by cases h; exact ⟨[], rfl, .nil⟩
  | q :: L, _, h => by
    cases h with
    | cons a b =>
      obtain ⟨p, xs, rfl, hx, px⟩ := pv_tup a
      obtain ⟨w1, w2, rfl, q1, q2⟩ := pvs2 px
      cases pv_int q1
      cases pv_int q2
      obtain ⟨ps, rfl, hp⟩ := paired_of b
      exact ⟨p :: ps, rfl, .cons hx.sq hp⟩
end
def rDictP (K : PySem.W.Frag) : List V → Hp → VK → Prop := fun xs H Q => ∃ (a : Addr) (ps : List Addr) (kvs : List (Key × V)), xs = [.ref a] ∧ SqL K H a (ps.map V.ref) ∧ Paired (fun p kv => SqT K H p [kV kv.1, kv.2]) ps kvs ∧
    ∀ p, H p = none → Q (.ref p) (upd H p (.dK (mergeK [] kvs)))
def rSrtDI : List V → Hp → VK → Prop := fun xs H Q => ∃ (a : Addr) (kvs : List (Key × V)) (ks : List Int), xs = [.ref a] ∧ Rd H a (.dK kvs) ∧ kvs.map (·.1) = ks.map Sum.inl ∧ ks.length < 64 ∧
    ∀ (ys : List Int) (p : Addr), ys.Perm ks → ys.Pairwise (· ≤ ·) → H p = none → Q (.ref p) (upd H p (.lst (ys.map V.int)))
section
variable {K : PySem.W.Frag} {H : Hp} {σ : L2.St} {D : Ends} {tz tu : L2.TS} {ta tb tc te ty td tm : TE} {E : XK}
theorem q_kept {i : Nat} {lb : Addr} {vs : List V} {G : Gr} (h : Ev tb σ H (.ref lb)) (g3 : H lb = some (.lst vs)) (g4 : PVs K H vs (G.map Blk.d)) (hG0 : 0 < G.length) (h60 : G.length ≤ 60) (hg : ∀ b ∈ G, ∀ j ∈ b.fin.goals, j < G.length)
    (k : ∀ (M : List Nat) (kp : Addr) H1, Closed G M → Ex H H1 → H1 kp = some (.lst ((M.map Int.ofNat).map V.int)) → tz D (σ.set i (some (.ref kp))) H1) : tSeq (tAsg (tCB rSrtDI (tCons (tCall (spReach K) [] E (tCons tb (tCons (tC .non) tNil))) tNil)) (gName i)) tz D σ H :=
  h H (Ex.refl H) _ fun H4 e4 => ⟨lb, vs, G, rfl, e4 _ _ g3, g4.ex e4, hG0, by omega, hg, fun fo N H5 hN hfo e5 s5 => by
    have nN := nodup_lt hN.nd hN.lt
    refine ⟨fo, setK (N.map ik), N.map Int.ofNat, rfl, .inl s5.at_, ?_, by rw [List.length_map]; omega, fun ys kp hp _ hkp => ?_⟩
    · unfold setK
      rw [List.map_map, List.map_map, List.map_map]
      rfl
    · obtain ⟨M, rfl, hM⟩ := perm_map hp
      have mN : ∀ k, k ∈ M ↔ k ∈ N := fun k => hM.mem_iff
      exact k M kp _ ⟨(mN 0).mpr hN.zero, fun k hk => hN.lt k ((mN k).mp hk), hM.nodup_iff.mpr hN.nd, fun k hk b hb j hj => (mN j).mpr (hN.cl k ((mN k).mp hk) b hb j hj)⟩ ((e4.trans e5).trans (Ex.new hkp)) upd_same⟩
theorem q_numbers {i : Nat} {M : List Nat} (h : EvPL K te σ H ((List.range M.length).map fun i => .tuple [natD (M.getD i 0), natD i])) (ndM : M.Nodup) (k : ∀ nd H1, Ex H H1 → H1 nd = some (.dK (numK M)) → tz D (σ.set i (some (.ref nd))) H1) :
    tSeq (tAsg (tCB (rDictP K) (tCons te tNil)) (gName i)) tz D σ H := h H (Ex.refl H) _ fun p7 ws H7 hp7 e7 hl7 pw7 => by
  have pw7' : PVs K H7 ws (((List.range M.length).map fun i => (M.getD i 0, i)).map fun q => .tuple [natD q.1, natD q.2]) := by
    rw [List.map_map]
    exact pw7
  obtain ⟨ps, rfl, hpair⟩ := paired_of pw7'
  have hkv : (((List.range M.length).map fun i => (M.getD i 0, i)).map fun q : Nat × Nat => (ik q.1, V.int (q.2 : Int))) = numK M := by
    rw [List.map_map]
    rfl
  rw [hkv] at hpair
  refine ⟨p7, ps, numK M, rfl, SqL.of hl7, hpair, fun nd hnd => ?_⟩
  have hmerge : mergeK [] (numK M) = numK M := mergeK_new (acc := []) (by rw [List.nil_append, numK_keys]; exact nodup_ik ndM)
  rw [hmerge]
  exact k nd _ (e7.trans (Ex.new hnd)) upd_same
end
section
variable {P : Program} {w : World} {K : PySem.W.Frag} {mg : Str → Option Value} {base : Heap}
theorem ok_lgraph {f fT fO fS fR fW : Addr} {fd fdT fdO fdS fdR fdW : FuncData} (F : Fun K "_law_graph" "_law_graph" sLGraph f fd) (GT : FnOk P w K mg base CX0 1 fT fdT ["d", "many"] spTake) (kT : PySem.W.keepIn K (.ref fT) = true) (bT : Binds K fdT ["d", "many"] []) (gT : mg "_law_take" = some (.ref fT))
    (GO : FnOk P w K mg base CX0 3 fO fdO ["d", "names"] (spLOperand K)) (kO : PySem.W.keepIn K (.ref fO) = true) (bO : Binds K fdO ["d", "names"] []) (gO : mg "_law_operand" = some (.ref fO))
    (GS : FnOk P w K mg base CX0 4 fS fdS ["d", "names", "calls"] (spLStep K)) (kS : PySem.W.keepIn K (.ref fS) = true) (bS : Binds K fdS ["d", "names", "calls"] []) (gS : mg "_law_step" = some (.ref fS))
    (GR : FnOk P w K mg base CX0 2 fR fdR ["blocks", "shut"] (spReach K)) (kR : PySem.W.keepIn K (.ref fR) = true) (bR : Binds K fdR ["blocks", "shut"] []) (gR : mg "_law_reach" = some (.ref fR))
    (GW : FnOk P w K mg base CX0 2 fW fdW ["end", "numbers"] (spWithGoals K)) (kW : PySem.W.keepIn K (.ref fW) = true) (bW : Binds K fdW ["end", "numbers"] []) (gW : mg "_law_with_goals" = some (.ref fW))
    (ml : mg "len" = none) (mt : mg "tuple" = none) (mr : mg "range" = none) (mls : mg "list" = none) (mn : mg "min" = none) (ms : mg "sorted" = none) (md : mg "dict" = none) : FnOk P w K mg base CX0 5 f fd ["d", "params", "most", "calls"] (spLGraph K) := by
  refine F.ok scLGraph (fun vs H Q E h => ?_) (fun cdv A outer s H vs Q E hr h => ?_)
  · obtain ⟨d, ls, c, ns, v, rfl, _⟩ := h
    rfl
  · obtain ⟨d, ls, c, ns, v, rfl, D, hl, pv1, hc, hcd, q⟩ := h
    have hr1 : Room 1 _ := hr.mono (by decide)
    have hr2 : Room 2 _ := hr.mono (by decide)
    have hr3 : Room 3 _ := hr.mono (by decide)
    refine ⟨_, pss_cons (ps_set (i := 4) scLGraph.nd rfl (.inr rfl) (pe_op op_cat (pe_callTy call_list_of (by rfl) mls (by decide +kernel) (pa_cons (pv 1) pa_nil)) (pe_lst (pa_cons pe_str (pa_cons pe_str (pa_cons pe_str pa_nil))))))
      (pss_cons (ps_set (i := 5) scLGraph.nd rfl (.inl rfl) (pe_op op_add pe_int (pe_call GT hr1 (by rfl) gT kT bT .nil pass0 (pa_cons (pv 0) (pa_cons (pv 2) pa_nil)))))
      (pss_cons (ps_set (i := 6) scLGraph.nd rfl (.inr rfl) (pe_lst pa_nil))
      (pss_cut (ps_for PassesOwn.never rfl (pi_range1 rfl mr (pa_cons (pv 5) pa_nil)) (pg_name (i := 7) scLGraph.nd rfl (.inl rfl))
        (pss_cons (ps_set (i := 8) scLGraph.nd rfl (.inl rfl) (pe_tupleOf (by rfl) mt (pe_lc (own := [("j", 9)]) (g := gName 9) (tt := tYes) (te := tCall (spLStep K) [] E0 (tCons (tVar 0) (tCons (tVar 4) (tCons (tVar 3) tNil)))) rfl scLGraph.nd (pi_range1 rfl mr (pa_cons (pe_call GT hr1 (by rfl) gT kT bT .nil pass0 (pa_cons (pv 0) (pa_cons pe_int pa_nil))) pa_nil)) (blkOk_by (N := ["d", "params", "most", "calls", "names", "many", "blocks", "k", "steps", "j", "menu", "end", "kept", "numbers"]) (sc := defScope sLGraph) (by decide +kernel))
            (fun _ _ _ _ _ => pg_name (i := 9) scLGraph.nd rfl (Or.inl rfl)) (fun _ _ _ _ _ => pts_nil) (fun _ _ _ _ _ => pe_call GS hr (by rfl) gS kS bS .nil pass0 (pa_cons (pv 0) (pa_cons (pv 4) (pa_cons (pv 3) pa_nil)))))))
        (pss_cons (ps_set (i := 10) scLGraph.nd rfl (.inl rfl) (pe_ifExp (pt_cmpR op_gt (pv 5) pe_int (nomark _)) (pe_call GT hr1 (by rfl) gT kT bT .nil pass0 (pa_cons (pv 0) (pa_cons pe_int pa_nil))) pe_int))
        (pss_cut (ps_if (PW.pt (pw_or (pt_cmpR op_eq (pv 10) pe_int (nomark _)) (pw_or1 (PW.pt (pw_and (pt_cmpR op_eq (pv 7) (pe_op op_sub (pv 5) pe_int) (nomark _)) (pw_and1 (pt_cmpR op_lt (pv 10) pe_int (nomark _))))))))
            (pss_one (ps_set (i := 11) scLGraph.nd rfl (.inl rfl) (pe_tup (pa_cons pe_str (pa_cons (pe_call GO hr3 (by rfl) gO kO bO .nil pass0 (pa_cons (pv 0) (pa_cons (pv 4) pa_nil))) pa_nil)))))
            (pss_one (ps_if (pt_cmpR op_lt (pv 10) pe_int (nomark _))
              (pss_one (ps_set (i := 11) scLGraph.nd rfl (.inl rfl) (pe_tup (pa_cons pe_str (pa_cons (pe_ifExp (PW.pt (pw_and (pt_cmpR op_eq (pe_call GT hr1 (by rfl) gT kT bT .nil pass0 (pa_cons (pv 0) (pa_cons pe_int pa_nil))) pe_int (nomark _)) (pw_and (pt_cmpR op_gt (pv 5) pe_int (nomark _)) (pw_and1 (pt_cmpR op_lt (pe_op op_add (pv 7) pe_int) (pv 5) (nomark _))))))
                (pe_callB (call_min2 rfl) (by rfl) mn (by decide +kernel) (pa_cons (pe_op op_add (pv 7) pe_int) (pa_cons (pe_op op_sub (pv 5) pe_int) pa_nil))) (pe_op op_add pe_int (pe_call GT hr1 (by rfl) gT kT bT .nil pass0 (pa_cons (pv 0) (pa_cons (pe_op op_sub (pv 5) pe_int) pa_nil))))) pa_nil)))))
              (pss_one (ps_set (i := 11) scLGraph.nd rfl (.inl rfl) (pe_tup (pa_cons pe_str (pa_cons (pe_call GO hr3 (by rfl) gO kO bO .nil pass0 (pa_cons (pv 0) (pa_cons (pv 4) pa_nil))) (pa_cons (pe_op op_add pe_int (pe_call GT hr1 (by rfl) gT kT bT .nil pass0 (pa_cons (pv 0) (pa_cons (pe_op op_sub (pv 5) pe_int) pa_nil)))) (pa_cons (pe_op op_add pe_int (pe_call GT hr1 (by rfl) gT kT bT .nil pass0 (pa_cons (pv 0) (pa_cons (pe_op op_sub (pv 5) pe_int) pa_nil)))) pa_nil))))))))))
        (pss_one (ps_expr (pe_bm PySem.F.plainAttrs_list PySem.F.slot_list_append PySem.F.type_list_append mt_append (pv 6) (pa_cons (pe_tup (pa_cons (pv 8) (pa_cons (pv 11) pa_nil))) pa_nil))))))))
      (pss_cons (ps_set (i := 12) scLGraph.nd rfl (.inr rfl) (pe_callB (r := rSrtDI) (call_sortedDI rfl) (by rfl) ms (by decide +kernel) (pa_cons (pe_call GR hr2 (by rfl) gR kR bR .nil pass0 (pa_cons (pv 6) (pa_cons pe_non pa_nil))) pa_nil)))
      (pss_cons (ps_set (i := 13) scLGraph.nd rfl (.inr rfl) (pe_callTy (r := rDictP K) (call_dictP rfl) (by rfl) md (by decide +kernel) (pa_cons (pe_lc (own := [("k", 7)]) (g := gName 7) (tt := tYes) (te := tTup (tCons (tOp (rIxL K) (tVar 12) (tVar 7)) (tCons (tVar 7) tNil))) rfl scLGraph.nd (pi_range1 rfl mr (pa_cons (pe_callB call_len_seq (by rfl) ml PySem.boot_len (pa_cons (pv 12) pa_nil)) pa_nil)) (blkOk_by (N := ["d", "params", "most", "calls", "names", "many", "blocks", "k", "steps", "j", "menu", "end", "kept", "numbers"]) (sc := defScope sLGraph) (by decide +kernel))
            (fun _ _ _ _ _ => pg_name (i := 7) scLGraph.nd rfl (Or.inl rfl)) (fun _ _ _ _ _ => pts_nil) (fun _ _ _ _ _ => pe_tup (pa_cons (pe_ix ix_list (pv 12) (pv 7) (fun _ _ => rfl)) (pa_cons (pv 7) pa_nil)))) pa_nil)))
      (pss_one (ps_ret (pe_tup (pa_cons (pe_tupleOf (by rfl) mt (pv 1)) (pa_cons (pe_tupleOf (by rfl) mt (pe_lc (own := [("k", 7)]) (g := gName 7) (tt := tYes) (te := tTup (tCons (tOp (rIxT K) (tOp (rIxL K) (tVar 6) (tVar 7)) (tC (.int 0))) (tCons (tCall (spWithGoals K) [] E0 (tCons (tOp (rIxT K) (tOp (rIxL K) (tVar 6) (tVar 7)) (tC (.int 1))) (tCons (tVar 13) tNil))) tNil))) rfl scLGraph.nd (pi_list (pv 12)) (blkOk_by (N := ["d", "params", "most", "calls", "names", "many", "blocks", "k", "steps", "j", "menu", "end", "kept", "numbers"]) (sc := defScope sLGraph) (by decide +kernel))
            (fun _ _ _ _ _ => pg_name (i := 7) scLGraph.nd rfl (Or.inl rfl)) (fun _ _ _ _ _ => pts_nil) (fun _ _ _ _ _ => pe_tup (pa_cons (pe_ix ix_tup (pe_ix ix_list (pv 6) (pv 7) (fun _ _ => rfl)) pe_int (fun _ _ => rfl)) (pa_cons (pe_call GW hr2 (by rfl) gW kW bW .nil pass0 (pa_cons (pe_ix ix_tup (pe_ix ix_list (pv 6) (pv 7) (fun _ _ => rfl)) pe_int (fun _ _ => rfl)) (pa_cons (pv 13) pa_nil))) pa_nil))))) pa_nil)))))))))), ?_⟩
    refine q_asgPL (K := K) (el_cat2 (el_listT (ds := [Nm.a.d, Nm.b.d]) (ep_var rfl pv1)) (el_tup (ds := [.str "x", .str "y", .str "z"]) (eps_cons ep_str (eps_cons ep_str (eps_cons ep_str eps_nil))) (by decide)) (by decide)) fun nm nvs H1 hnm e1 hn1 pn1 => ?_
    have D1 := D.ex e1
    have hnd : nm ≠ d := (D.nes hnm).1
    refine q_asgX (K := K) (ex_add1 (ex_take (m := 4) (fun _ _ => ev_var rfl) (fun _ _ => ev_var rfl) (by decide) (by decide) hl)) D1 fun v5 e5 H2 ⟨many, hm0, hm5, he⟩ a2 D2 p5 => ?_
    subst he
    cases pv_int p5
    refine q_asgPL (K := K) (el_tup eps_nil (by decide)) fun lb vs0 H3 hlb3 e3 hl3 pl3 => ?_
    cases pl3
    have D3 := D2.ex e3
    have hM2 : ∀ {G : Hp}, Exl d H2 G → MenuAt K G d nm ([Nm.a, Nm.b, Nm.x, Nm.y, Nm.z].map Nm.d) := fun a => .inl ⟨nvs, a _ _ (a2 _ _ hn1 hnd) hnd, hnd, (pn1.tx (D1.tx a2)).tx (D2.tx a)⟩
    have hc2 : H2 c = some (.lst []) := a2 _ _ (e1 _ _ hc) hcd
    refine q_cut (M := fun σ' H' => ∃ (y7 y8 y10 y11 : Option V) (G : Gr) (vs : List V), σ' = [some (.ref d), some v, some (.int 4), some (.ref c), some (.ref nm), some (.int (many : Int)), some (.ref lb), y7, y8, none, y10, y11, none, none] ∧ G.length = many ∧ (∀ b ∈ G, b.steps.length ≤ 3 ∧ (∀ s ∈ b.steps, isCall s = false) ∧ ∀ j ∈ b.fin.goals, j < many) ∧ H' lb = some (.lst vs) ∧ PVs K H' vs (G.map Blk.d) ∧ Exl d H2 H' ∧ Deck H' d ls ns) ?_ ?_
    · refine s_forR1 (n := (many : Int)) (ea_cons (ev_var rfl) ea_nil) (by omega) (fun i σ' H' => ∃ (y7 y8 y10 y11 : Option V) (G : Gr) (vs : List V), σ' = [some (.ref d), some v, some (.int 4), some (.ref c), some (.ref nm), some (.int (many : Int)), some (.ref lb), y7, y8, none, y10, y11, none, none] ∧ G.length = i ∧ (∀ b ∈ G, b.steps.length ≤ 3 ∧ (∀ s ∈ b.steps, isCall s = false) ∧ ∀ j ∈ b.fin.goals, j < many) ∧ H' lb = some (.lst vs) ∧ PVs K H' vs (G.map Blk.d) ∧ Exl d H2 H' ∧ Deck H' d ls ns)
        (fun H4 e4 => ⟨none, none, none, none, [], [], rfl, rfl, (fun b h => by cases h), e4 _ _ hl3, .nil, exl_of (e3.trans e4), D3.ex e4⟩) ?_ (fun σ' H' p => p)
      rintro i σ' H' hi ⟨y7, y8, y10, y11, G, vs, rfl, g1, g2, g3, g4, g5, D4⟩
      have hi' : i < many := by omega
      refine q_asgX (K := K) (S := fun e => ∃ steps : List Stp, steps.length ≤ 3 ∧ (∀ s ∈ steps, isCall s = false) ∧ e = rowD steps) (ex_tupleOf (exl_range (S := fun e => ∃ s : Stp, (false = false → isCall s = false) ∧ e = s.d) (m := 3) (exs_take (ex_take (m := 4) (fun _ _ => ev_var rfl) (fun _ _ => ev_c) (by decide) (by decide) hl)) (by decide) (fun x => rfl) fun i => ex_lstep (m := nm) (k := false) (names := [Nm.a, Nm.b, Nm.x, Nm.y, Nm.z]) (fun _ _ => ev_var rfl) (fun _ _ => ev_var rfl) D4 (hM2 g5) hl (by simp) (by simp) fun H5 a5 D5 Q5 q5 => ⟨_, rfl, q5 c [] H5 (Ex.refl H5) (a5 _ _ (g5 _ _ hc2 hcd) hcd) hcd .nil⟩) fun es ⟨h1, h2⟩ => ?_) D4 fun v8 e8 H5 ⟨steps, hs1, hs2, he8⟩ a5 D5 p8 => ?_
      · have : ∀ es : List PyData, (∀ e ∈ es, ∃ s : Stp, (false = false → isCall s = false) ∧ e = s.d) → ∃ steps : List Stp, steps.length = es.length ∧ (∀ s ∈ steps, isCall s = false) ∧ es = steps.map Stp.d := fun es => by
          induction es with
          | nil => exact fun _ => ⟨[], rfl, (fun s h => by cases h), rfl⟩
          | cons e es ih =>
            intro h
            obtain ⟨steps, a1, a2, a3⟩ := ih fun e' h' => h e' (List.mem_cons_of_mem _ h')
            obtain ⟨s, b1, b2⟩ := h e List.mem_cons_self
            refine ⟨s :: steps, by simp [a1], fun t ht => ?_, by rw [a3, b2]; rfl⟩
            rcases List.mem_cons.mp ht with z | z
            · rw [z]
              exact b1 rfl
            · exact a2 t z
        obtain ⟨steps, a1, a2, a3⟩ := this es h2
        exact ⟨steps, by omega, a2, by rw [a3]; rfl⟩
      · subst he8
        have a25 := g5.trans a5
        refine q_asgX (K := K) (S := fun e => ∃ r : Nat, (many ≤ 1 → r = 0) ∧ e = .int (r : Int)) (ex_if (b := decide ((many : Int) > 1)) (fun _ _ => et_test (ev_op (ev_var rfl) ev_c rv_I0)) (fun h => (ex_take (m := 5) (fun _ _ => ev_var rfl) (fun _ _ => ev_c) (by decide) (by decide) hl).imp fun e ⟨r, _, he⟩ => ⟨r, fun z => by have := of_decide_eq_true h; omega, he⟩) (fun h => ex_int ⟨0, fun _ => rfl, rfl⟩)) D5 fun v10 e10 H6 ⟨r, hr0, he10⟩ a6 D6 p10 => ?_
        subst he10
        cases pv_int p10
        have a26 := a25.trans a6
        have opd : ∀ {σ : L2.St}, σ[0]? = some (some (.ref d)) → σ[4]? = some (some (.ref nm)) → EvX K d ls ns (tCall (spLOperand K) [] E0 (tCons (tVar 0) (tCons (tVar 4) tNil))) σ H6 (fun e => ∃ o : Opd, e = o.d) := fun s0 s1 => ex_operand (names := [Nm.a, Nm.b, Nm.x, Nm.y, Nm.z]) (fun _ _ => ev_var s0) (fun _ _ => ev_var s1) D6 (hM2 a26) hl (by simp) (by simp)
        have goal : 1 < many → ∀ {σ : L2.St}, σ[0]? = some (some (.ref d)) → σ[5]? = some (some (.int (many : Int))) → EvX K d ls ns (tOp (rI0 fun i j => .int (i + j)) (tC (.int 1)) (tCall spTake [] E0 (tCons (tVar 0) (tCons (tOp (rI0 fun i j => .int (i - j)) (tVar 5) (tC (.int 1))) tNil)))) σ H6 (fun e => ∃ j : Nat, j < many ∧ e = natD j) := fun hm {σ} s0 s5 =>
          (ex_add1 (ex_take (m := many - 1) (fun _ _ => ev_var s0) (fun _ _ => ev_is (ev_op (ev_var s5) ev_c rv_I0) (by congr 1; omega)) (by omega) (by omega) hl)).imp fun e ⟨j, _, h2, h3⟩ => ⟨j, by omega, h3⟩
        refine q_cut (M := fun σ' H' => ∃ (v11 : V) (fin : End), σ' = [some (.ref d), some v, some (.int 4), some (.ref c), some (.ref nm), some (.int (many : Int)), some (.ref lb), some (.int (i : Int)), some v8, none, some (.int (r : Int)), some v11, none, none] ∧ PV K H' v11 fin.d ∧ (∀ j ∈ fin.goals, j < many) ∧ Exl d H6 H' ∧ Deck H' d ls ns) ?_ ?_
        · have fin : ∀ {te : TE} {H7 : Hp}, EvX K d ls ns te [some (.ref d), some v, some (.int 4), some (.ref c), some (.ref nm), some (.int (many : Int)), some (.ref lb), some (.int (i : Int)), some v8, none, some (.int (r : Int)), y11, none, none] H6 (fun e => ∃ fin : End, (∀ j ∈ fin.goals, j < many) ∧ e = fin.d) → Ex H6 H7 → ∀ D' : Ends, (D'.nx = fun σ' H' => ∃ (v11 : V) (fin : End), σ' = [some (.ref d), some v, some (.int 4), some (.ref c), some (.ref nm), some (.int (many : Int)), some (.ref lb), some (.int (i : Int)), some v8, none, some (.int (r : Int)), some v11, none, none] ∧ PV K H' v11 fin.d ∧ (∀ j ∈ fin.goals, j < many) ∧ Exl d H6 H' ∧ Deck H' d ls ns) →
              tAsg te (gName 11) D' [some (.ref d), some v, some (.int 4), some (.ref c), some (.ref nm), some (.int (many : Int)), some (.ref lb), some (.int (i : Int)), some v8, none, some (.int (r : Int)), y11, none, none] H7 := fun {te H7} h e7 D' hD => s_asgX (h.mono (exl_of e7)) (D6.ex e7) fun v11 e11 H8 ⟨fin, hf, he⟩ a8 D8 p11 => by
            subst he
            rw [hD]
            exact ⟨v11, fin, rfl, p11, hf, (exl_of e7).trans a8, D8⟩
          refine s_if (b := decide (V.int (r : Int) = .int 0) || (decide (V.int (i : Int) = .int ((many : Int) - 1)) && decide ((r : Int) < 3))) (et_or (et_test (ev_op (ev_var rfl) ev_c (rv_eq rfl))) fun _ => et_and (et_test (ev_op (ev_var rfl) (ev_op (ev_var rfl) ev_c rv_I0) (rv_eq rfl))) fun _ => et_test (ev_op (ev_var rfl) ev_c rv_I0)) (fun h7 H7 e7 => ?_) (fun h7 H7 e7 => ?_)
          · refine fin (ex_tup (exs_cons (ex_str (S := fun e => e = .str "ret") rfl) (exs_cons (opd rfl rfl) exs_nil)) ?_ ?_) e7 _ rfl
            · rintro es ⟨_, _, rfl, _, _, _, rfl, _, rfl⟩
              simp
            · rintro es ⟨_, _, rfl, rfl, _, _, rfl, ⟨o, rfl⟩, rfl⟩
              exact ⟨.ret o, (fun j h => by cases h), rfl⟩
          · have hm1 : 1 < many := by
              rw [Bool.or_eq_false_iff] at h7
              have h8 := of_decide_eq_false h7.1
              by_cases z : many ≤ 1
              · rw [hr0 z] at h8
                exact absurd rfl h8
              · omega
            refine s_if (et_test (ev_op (ev_var rfl) ev_c rv_I0)) (fun h8 H8 e8 => ?_) (fun h8 H8 e8 => ?_)
            · refine fin (ex_tup (exs_cons (ex_str (S := fun e => e = .str "jump") rfl) (exs_cons (S := fun e => ∃ j : Nat, j < many ∧ e = natD j) (ex_ifX (etx_and (etx_cmp (K := K) (f := fun k => decide (V.int k = .int 0)) (ex_take (m := 2) (fun _ _ => ev_var rfl) (fun _ _ => ev_c) (by decide) (by decide) hl) fun k H1 _ _ Q1 q1 => ⟨rfl, q1 H1 (Ex.refl H1)⟩) (etx_and (etx_of fun _ _ => et_test (ev_op (ev_var rfl) ev_c rv_I0)) (etx_of fun _ _ => et_test (ev_op (ev_op (ev_var rfl) ev_c rv_I0) (ev_var rfl) rv_I0)))) ?_ (goal hm1 rfl rfl)) exs_nil)) ?_ ?_) (e7.trans e8) _ rfl
              · refine ex_ep (fun H9 a9 => ep_evI (i := ((min (i + 1) (many - 1) : Nat) : Int)) (ev_cb (ea_cons (ev_op (ev_var rfl) ev_c (rv_I0 (g := fun i j => .int (i + j)))) (ea_cons (ev_op (ev_var rfl) ev_c (rv_I0 (g := fun i j => .int (i - j)))) ea_nil)) fun H10 e10 Q10 q10 => ⟨_, _, rfl, ?_⟩)) ⟨min (i + 1) (many - 1), by omega, rfl⟩
                have : (if (many : Int) - 1 < (i : Int) + 1 then (many : Int) - 1 else (i : Int) + 1) = ((min (i + 1) (many - 1) : Nat) : Int) := by
                  split <;> omega
                rw [this]
                exact q10 H10 (Ex.refl H10)
              · rintro es ⟨_, _, rfl, _, _, _, rfl, _, rfl⟩
                simp
              · rintro es ⟨_, _, rfl, rfl, _, _, rfl, ⟨j, hj, rfl⟩, rfl⟩
                exact ⟨.jump j, (fun j' h => by rw [List.mem_singleton.mp h]; exact hj), rfl⟩
            · refine fin (ex_tup (exs_cons (ex_str (S := fun e => e = .str "fork") rfl) (exs_cons (opd rfl rfl) (exs_cons (goal hm1 rfl rfl) (exs_cons (goal hm1 rfl rfl) exs_nil)))) ?_ ?_) (e7.trans e8) _ rfl
              · rintro es ⟨_, _, rfl, _, _, _, rfl, _, _, _, rfl, _, _, _, rfl, _, rfl⟩
                simp
              · rintro es ⟨_, _, rfl, rfl, _, _, rfl, ⟨o, rfl⟩, _, _, rfl, ⟨j, hj, rfl⟩, _, _, rfl, ⟨j', hj', rfl⟩, rfl⟩
                refine ⟨.fork o j j', fun i h => ?_, rfl⟩
                rcases List.mem_cons.mp h with z | z
                · rw [z]
                  exact hj
                · rw [List.mem_singleton.mp z]
                  exact hj'
        · rintro σ' H7 ⟨v11, fin, rfl, p11, hf, a7, D7⟩
          have hlbd : lb ≠ d := (D2.nes hlb3).1
          have a47 : Exl d H' H7 := (a5.trans a6).trans a7
          have hlb7 : H7 lb = some (.lst vs) := a47 _ _ g3 hlbd
          have pv7 := g4.tx (D4.tx a47)
          refine s_appF (d := Blk.d ⟨steps, fin⟩) hlb7 (ev_var rfl) (ep_tup (eps_cons (ep_var rfl (p8.tx (D5.tx (a6.trans a7)))) (eps_cons (ep_var rfl p11) eps_nil)) (by simp)) (by rw [g4.length, List.length_map]; omega) fun u H8 e8 pu => ?_
          refine ⟨_, _, _, _, G ++ [⟨steps, fin⟩], vs ++ [u], rfl, by simp [g1], fun b hb => ?_, upd_same, ?_, ((g5.trans a47).trans (exl_of e8)).mut hlb3, (D7.ex e8).upd hlbd (fun z => ?_)⟩
          · rcases List.mem_append.mp hb with z | z
            · exact g2 b z
            · rw [List.mem_singleton.mp z]
              exact ⟨hs1, hs2, hf⟩
          · rw [List.map_append]
            exact ((pv7.ex e8).append (PVs.one pu)).tx (Tx.updL (e8 _ _ hlb7))
          · exact (D2.nes hlb3).2 z
    · rintro σ' H' ⟨y7, y8, y10, y11, G, vs, rfl, g1, g2, g3, g4, g5, D4⟩
      have hG0 : 0 < G.length := by omega
      refine q_kept (K := K) (ev_var rfl) g3 g4 hG0 (by omega) (fun b hb j hj => by rw [g1]; exact (g2 b hb).2.2 j hj) fun M kp H6 hN e6 hk6 => ?_
      have ndM := hN.nd
      have lM : M.length ≤ 4 := by
        have := nodup_lt hN.nd hN.lt
        omega
      have kat : ∀ (i : Nat) (k : Nat), M[i]? = some k → ((M.map Int.ofNat).map V.int)[i]? = some (.int (k : Int)) := fun i k h => by
        rw [List.getElem?_map, List.getElem?_map, h]
        rfl
      have hlenk : Ev (tCB (rLenS K) (tCons (tVar 12) tNil)) [some (.ref d), some v, some (.int 4), some (.ref c), some (.ref nm), some (.int (many : Int)), some (.ref lb), y7, y8, none, y10, y11, some (.ref kp), none] H6 (.int (M.length : Int)) := ev_is (ev_len (ev_var rfl) (SqL.of hk6)) (by simp)
      refine q_numbers (K := K) (M := M) (el_lcR (K := K) (σ := [some (.ref d), some v, some (.int 4), some (.ref c), some (.ref nm), some (.int (many : Int)), some (.ref lb), y7, y8, none, y10, y11, some (.ref kp), none]) (te := tTup (tCons (tOp (rIxL K) (tVar 12) (tVar 7)) (tCons (tVar 7) tNil))) (j := 7) (vs := [7]) (n := M.length) (fun i => .tuple [natD (M.getD i 0), natD i]) (eps_cons (ep_evI hlenk) eps_nil) (by omega) (fun x => rfl) (fun i H7 e7 hi => ?_)) ndM fun nd H8 e8 hn8 => ?_
      · have hMi : M[i]? = some (M.getD i 0) := by
          rw [List.getD_eq_getElem?_getD, List.getElem?_eq_getElem hi]
          rfl
        exact ep_tup (eps_cons (ep_evI (ev_op (ev_var rfl) (ev_var rfl) (rv_ixL (SqL.of (e7 _ _ hk6)) (atI_nat (kat i _ hMi))))) (eps_cons (ep_evI (ev_var rfl)) eps_nil)) (by simp)
      have e48 := e6.trans e8
      -- the graph
      let gr : Gr := M.map fun k => match G[k]? with
        | some b => ⟨b.steps, b.fin.map (ixOf M)⟩
        | none => ⟨[], .ret (.num 0)⟩
      have hgr : ∀ (i k : Nat) (b : Blk), M[i]? = some k → G[k]? = some b → gr[i]? = some ⟨b.steps, b.fin.map (ixOf M)⟩ := fun i k b h1 h2 => by
        show (M.map _)[i]? = _
        rw [List.getElem?_map, h1]
        simp only [Option.map_some]
        rw [h2]
      have lgr : gr.length = M.length := by simp [gr]
      have okg : LG gr := by
        have hb : ∀ b' ∈ gr, ∃ k b, k ∈ M ∧ G[k]? = some b ∧ b' = ⟨b.steps, b.fin.map (ixOf M)⟩ := fun b' hb' => by
          obtain ⟨k, hk, e⟩ := List.mem_map.mp hb'
          have hkl := hN.lt k hk
          have h2 : G[k]? = some G[k] := List.getElem?_eq_getElem hkl
          rw [h2] at e
          exact ⟨k, G[k], hk, h2, e.symm⟩
        refine ⟨?_, by omega, fun b' h => ?_, fun b' h => ?_, fun b' h j hj => ?_⟩
        · rw [lgr]
          exact List.length_pos_of_mem hN.zero
        · obtain ⟨k, b, _, h2, rfl⟩ := hb b' h
          exact (g2 b (List.mem_of_getElem? h2)).1
        · obtain ⟨k, b, _, h2, rfl⟩ := hb b' h
          exact (g2 b (List.mem_of_getElem? h2)).2.1
        · obtain ⟨k, b, hk, h2, rfl⟩ := hb b' h
          rw [lgr]
          have hj : j ∈ (b.fin.map (ixOf M)).goals := hj
          rw [End.map_goals] at hj
          obtain ⟨j0, hj0, rfl⟩ := List.mem_map.mp hj
          exact ixOf_lt (hN.cl k hk b h2 j0 hj0)
      have a28 : Exl d H2 H8 := g5.trans (exl_of e48)
      have pvp : PV K H8 v parD := ((pv1.ex e1).tx (D1.tx a2)).tx (D2.tx a28)
      have hlb8 := e48 _ _ g3
      have pG8 := g4.ex e48
      refine s_retP (K := K) (d := gD [.a, .b] gr) (ep_tup (eps_cons (d := parD) (fun H9 e9 Q9 q9 => ⟨v, rfl, ?_⟩) (eps_cons (d := blksD gr) (ep_tupleOf (Pd.el_lcL (K := K) (σ := [some (.ref d), some v, some (.int 4), some (.ref c), some (.ref nm), some (.int (many : Int)), some (.ref lb), y7, y8, none, y10, y11, some (.ref kp), some (.ref nd)]) (a := kp) (xs := (M.map Int.ofNat).map V.int) (tl := tVar 12) (g := gName 7)
          (te := tTup (tCons (tOp (rIxT K) (tOp (rIxL K) (tVar 6) (tVar 7)) (tC (.int 0))) (tCons (tCall (spWithGoals K) [] E0 (tCons (tOp (rIxT K) (tOp (rIxL K) (tVar 6) (tVar 7)) (tC (.int 1))) (tCons (tVar 13) tNil))) tNil))) (vs := [7]) (fun x => []) (gr.map Blk.d) (ev_var rfl) (SqL.of (e8 _ _ hk6)) (by simp [lgr]) (by simp; omega) ?_)) eps_nil)) (by simp)) fun u H9 e9 pu => ?_
      · obtain ⟨a, xs, rfl, hx, px⟩ := pv_tup (pvp.ex e9)
        exact .inr ⟨a, xs, rfl, hx.sq, q9 _ H9 (Ex.refl H9) (pvp.ex e9)⟩
      · intro i x dd H9 e9 hx hd Q9 k9
        rw [List.map_map, List.getElem?_map] at hx
        cases hMi : M[i]? with
        | none => rw [hMi] at hx; cases hx
        | some k =>
          rw [hMi] at hx
          cases hx
          have hkM := List.mem_of_getElem? hMi
          have hkl := hN.lt k hkM
          have hGk : G[k]? = some G[k] := List.getElem?_eq_getElem hkl
          rw [List.getElem?_map, hgr i k _ hMi hGk] at hd
          cases hd
          have hbk : (G.map Blk.d)[k]? = some (Blk.d G[k]) := by rw [List.getElem?_map, hGk]; rfl
          refine k9 _ H9 (Ex.refl H9) rfl (ep_tup (ds := [rowD (G[k]).steps, ((G[k]).fin.map (ixOf M)).d]) (eps_cons (ep_ixT (i := 0) (ds := [rowD (G[k]).steps, (G[k]).fin.d]) (ep_ixL (i := k) (ev_var rfl) (SqL.of (e9 _ _ hlb8)) (pG8.ex e9) (ev_var rfl) hbk) ev_c rfl) (eps_cons (fun H10 e10 Q10 q10 => ?_) eps_nil)) (by simp))
          refine ep_ixT (i := 1) (ds := [rowD (G[k]).steps, (G[k]).fin.d]) (ep_ixL (K := K) (i := k) (ev_var rfl) (SqL.of (e9 _ _ hlb8)) (pG8.ex e9) (ev_var rfl) hbk) ev_c rfl H10 e10 _ fun u H11 e11 pu => ⟨.ref nd, rfl, u, nd, (G[k]).fin, ixOf M, numK M, rfl, pu, ((e9.trans e10).trans e11) _ _ hn8, fun j hj => numK_val ndM (hN.cl k hkM _ hGk j hj), fun u2 H12 e12 p12 => q10 u2 H12 (e11.trans e12) p12⟩
      · exact q gr u H9 okg (((exl_of e1).trans a2).trans (a28.trans (exl_of e9))) ((D4.ex e48).ex e9) pu
end
end K36

namespace K36
open PySem PySem.Spec PyProof.Rows L2 Evl Pd Gd Dk
abbrev sBits : Stmt := topS 38
abbrev sLawOp : Stmt := topS 39
theorem scBits : FnScope ["a", "b", "op", "found", "k", "one", "other", "bit"] ["a", "b", "op"] (defScope sBits) := ⟨rfl, rfl, rfl, by decide +kernel, rfl, by decide +kernel, by decide +kernel⟩
theorem scLawOp : FnScope ["w", "op", "a", "b", "size", "own", "k"] ["w", "op", "a", "b"] (defScope sLawOp) := ⟨rfl, rfl, rfl, by decide +kernel, rfl, by decide +kernel, by decide +kernel⟩
def bitOps : List Op := [.and, .or, .xor]
def spOperate (K : PySem.W.Frag) : Sp := spP K fun ds d => ∃ (w : Nat) (o : Op) (a b : Nat), ds = [natD w, .str o.s, natD a, natD b] ∧ Wd w ∧ a < 2 ^ w ∧ b < 2 ^ w ∧ d = natD (opX w o a b)
theorem w_le {w : Nat} (h : Wd w) : w ≤ 1000 := by have := h.2; omega
theorem shl1 {σ : L2.St} {H : Hp} {te : TE} {n : Nat} (h : Ev te σ H (.int (n : Int))) (hn : n ≤ 1000) : Ev (tOp (rI CPow fun i j => .int (i * 2 ^ j.toNat)) (tC (.int 1)) te) σ H (.int (2 ^ n : Int)) :=
  ev_is (ev_op ev_c h (rv_I (C := CPow) (g := fun i j => .int (i * 2 ^ j.toNat)) ⟨by omega, by omega, by decide⟩)) (by simp)
theorem two_pos (n : Nat) : (0 : Int) < 2 ^ n := by
  have := pow_pos2 n
  exact_mod_cast this
theorem eqS {σ : L2.St} {H : Hp} {ta tb : TE} {a b : Op} (h : Ev ta σ H (.str a.s)) (h2 : Ev tb σ H (.str b.s)) : Ev (tOp rEq ta tb) σ H (.bl (decide (a = b))) :=
  ev_is (ev_op h h2 (rv_eq rfl)) (by
    rw [← Op.s_dec a b]
    congr 1
    exact decide_eq_decide.mpr ⟨fun h => V.str.inj h, fun h => by rw [h]⟩)
theorem int_b {σ : L2.St} {H : Hp} {te : TE} {b : Bool} {r : List V → Hp → VK → Prop} (hr : r = fun xs H Q => (∃ i, xs = [.int i] ∧ Q (.int i) H) ∨ ∃ k, xs = [.bl k] ∧ Q (.int (if k then 1 else 0)) H) (h : Ev te σ H (.bl b)) : Ev (tCB r (tCons te tNil)) σ H (.int (if b then 1 else 0)) := by
  subst hr
  exact ev_cb (ea_cons h ea_nil) fun H1 e Q q => .inr ⟨b, rfl, q H1 (Ex.refl H1)⟩
theorem inS (o : Op) : ∀ l : List Op, inV (.str o.s) (l.map fun p => .str p.s) = decide (o ∈ l)
  | [] => by simp [inV]
  | p :: l => by
    have ih := inS o l
    unfold inV at ih ⊢
    rw [List.map_cons, List.any_cons, ih]
    have : eqV (.str p.s) (.str o.s) = decide (o = p) := by
      show (p.s == o.s) = decide (o = p)
      rw [show (p.s == o.s) = decide (p.s = o.s) from rfl, Op.s_dec p o]
      by_cases h : p = o
      · simp [h]
      · simp [h, Ne.symm h]
    rw [this]
    by_cases h : o = p <;> simp [h]
theorem flatS (l : List Op) : (l.map fun p => V.str p.s).all flatV = true := by simp [flatV]
section
variable {P : Program} {w : World} {K : PySem.W.Frag} {mg : Str → Option Value} {base : Heap}
theorem inOps {σ : L2.St} {H : Hp} {ta : TE} {tb : TA} {o : Op} (l : List Op) (h : Ev ta σ H (.str o.s)) (hb : EvA tb σ H (l.map fun p => .str p.s)) (hl : l.length ≤ 100) : Ev (tOp (rIn K false) ta (tTup tb)) σ H (.bl (decide (o ∈ l))) :=
  ev_is (ev_inU h (eu_tup hb (by rw [List.length_map]; omega)) rfl (flatS l)) (by rw [inS])
theorem bit_and : ∀ a < 32, ∀ b < 32, opX 0 .and a b = (a % 2) * (b % 2) + 2 * opX 0 .and (a / 2) (b / 2) := by decide
theorem bit_or : ∀ a < 32, ∀ b < 32, opX 0 .or a b = (if b % 2 > a % 2 then b % 2 else a % 2) + 2 * opX 0 .or (a / 2) (b / 2) := by decide
theorem bit_xor : ∀ a < 32, ∀ b < 32, opX 0 .xor a b + 2 * ((a % 2) * (b % 2)) = (a % 2) + (b % 2) + 2 * opX 0 .xor (a / 2) (b / 2) := by decide
theorem bits_zero (o : Op) (h : o ∈ bitOps) : opX 0 o 0 0 = 0 := by
  simp only [bitOps, List.mem_cons, List.not_mem_nil, or_false] at h
  rcases h with rfl | rfl | rfl <;> rfl
def bitV (o : Op) (x y : Int) : Int := if o = .and then x * y else if o = .or then (if y > x then y else x) else x + y - 2 * (x * y)
theorem bit_step {o : Op} (h : o ∈ bitOps) {a b : Nat} (ha : a < 32) (hb : b < 32) : ((opX 0 o a b : Nat) : Int) = bitV o ((a % 2 : Nat) : Int) ((b % 2 : Nat) : Int) + 2 * ((opX 0 o (a / 2) (b / 2) : Nat) : Int) := by
  simp only [bitOps, List.mem_cons, List.not_mem_nil, or_false] at h
  have m1 : a % 2 = 0 ∨ a % 2 = 1 := by omega
  have m2 : b % 2 = 0 ∨ b % 2 = 1 := by omega
  rcases h with rfl | rfl | rfl
  · have := bit_and a ha b hb
    show _ = ((a % 2 : Nat) : Int) * ((b % 2 : Nat) : Int) + _
    rw [this]
    simp
  · have := bit_or a ha b hb
    show _ = (if ((b % 2 : Nat) : Int) > ((a % 2 : Nat) : Int) then ((b % 2 : Nat) : Int) else ((a % 2 : Nat) : Int)) + _
    rw [this]
    rcases m1 with e | e <;> rcases m2 with e2 | e2 <;> rw [e, e2] <;> simp
  · have := bit_xor a ha b hb
    show _ = ((a % 2 : Nat) : Int) + ((b % 2 : Nat) : Int) - 2 * (((a % 2 : Nat) : Int) * ((b % 2 : Nat) : Int)) + _
    rcases m1 with e | e <;> rcases m2 with e2 | e2 <;> rw [e, e2] at this ⊢ <;> simp at this ⊢ <;> omega
def spBits (K : PySem.W.Frag) : Sp := spP K fun ds d => ∃ (o : Op) (a b : Nat), ds = [natD a, natD b, .str o.s] ∧ o ∈ bitOps ∧ a < 32 ∧ b < 32 ∧ d = natD (opX 0 o a b)
theorem half {σ : L2.St} {H : Hp} {te : TE} {a : Nat} (h : Ev te σ H (.int (a : Int))) : Ev (tOp (rI CDivN fun i j => .int (i.fdiv j)) te (tC (.int 2))) σ H (.int ((a / 2 : Nat) : Int)) :=
  ev_is (ev_op h ev_c (rv_I (C := CDivN) (g := fun i j => .int (i.fdiv j)) ⟨by decide, by decide⟩)) (by
    congr 1
    rw [Int.fdiv_eq_ediv_of_nonneg _ (by decide)]
    omega)
theorem low {σ : L2.St} {H : Hp} {te te2 : TE} {a : Nat} (h : Ev te σ H (.int (a : Int))) (h2 : Ev te2 σ H (.int (a : Int))) :
    Ev (tOp (rI0 fun i j => .int (i - j)) te (tOp (rI CMul fun i j => .int (i * j)) (tC (.int 2)) (tOp (rI CDivN fun i j => .int (i.fdiv j)) te2 (tC (.int 2))))) σ H (.int ((a % 2 : Nat) : Int)) :=
  ev_is (ev_op h (ev_op ev_c (half h2) (rv_I (C := CMul) (g := fun i j => .int (i * j)) (.inl ⟨by decide, by decide⟩))) rv_I0) (by
    congr 1
    omega)
theorem ok_bits {f : Addr} {fd : FuncData} (F : Fun K "_law_bits" "_law_bits" sBits f fd) (mm : mg "max" = none) : FnOk P w K mg base CX0 1 f fd ["a", "b", "op"] (spBits K) := by
  refine F.ok scBits (fun vs H Q E h => ?_) (fun cdv A outer s H vs Q E hr h => ?_)
  · obtain ⟨ds, d, ps, ⟨o, a, b, rfl, _⟩, _⟩ := h
    exact ps.length
  · obtain ⟨ds, d, ps, ⟨o, a0, b0, rfl, ho, ha0, hb0, rfl⟩, q⟩ := h
    obtain ⟨_, _, _, rfl, a1, a2, a3⟩ := pvs3 ps
    cases pv_int a1
    cases pv_int a2
    cases pv_str a3
    refine ⟨_, pss_cons (ps_set (i := 3) scBits.nd rfl (.inl rfl) pe_int)
      (pss_cons (ps_set (i := 4) scBits.nd rfl (.inl rfl) pe_int)
      (pss_cons (ps_while PassesOwn.never (PW.pt (pw_or (pt_cmpR op_gt (pv 0) pe_int (nomark _)) (pw_or1 (pt_cmpR op_gt (pv 1) pe_int (nomark _)))))
        (pss_cons (ps_set (i := 5) scBits.nd rfl (.inl rfl) (pe_op op_sub (pv 0) (pe_op op_mul pe_int (pe_op op_fdivN (pv 0) pe_int))))
        (pss_cons (ps_set (i := 6) scBits.nd rfl (.inl rfl) (pe_op op_sub (pv 1) (pe_op op_mul pe_int (pe_op op_fdivN (pv 1) pe_int))))
        (pss_cons (ps_set (i := 7) scBits.nd rfl (.inl rfl) (pe_ifExp (pt_cmpR op_eq (pv 2) pe_str (nomark _)) (pe_op op_mul (pv 5) (pv 6)) (pe_ifExp (pt_cmpR op_eq (pv 2) pe_str (nomark _)) (pe_callB (call_max2 rfl) (by rfl) mm (by decide +kernel) (pa_cons (pv 5) (pa_cons (pv 6) pa_nil))) (pe_op op_sub (pe_op op_add (pv 5) (pv 6)) (pe_op op_mul pe_int (pe_op op_mul (pv 5) (pv 6)))))))
        (pss_cons (ps_set (i := 3) scBits.nd rfl (.inl rfl) (pe_op op_add (pv 3) (pe_op op_mul (pv 4) (pv 7))))
        (pss_cons (ps_set (i := 0) scBits.nd rfl (.inl rfl) (pe_op op_fdivN (pv 0) pe_int))
        (pss_cons (ps_set (i := 1) scBits.nd rfl (.inl rfl) (pe_op op_fdivN (pv 1) pe_int))
        (pss_one (ps_set (i := 4) scBits.nd rfl (.inl rfl) (pe_op op_mul pe_int (pv 4)))))))))))
      (pss_one (ps_ret (pv 3))))), ?_⟩
    refine q_asg ev_c fun H1 e1 => q_asg ev_c fun H2 e2 => ?_
    refine q_while (fun m σ' H' => ∃ (a b k fo : Nat) (y5 y6 y7 : Option V), σ' = [some (.int (a : Int)), some (.int (b : Int)), some (.str o.s), some (.int (fo : Int)), some (.int (k : Int)), y5, y6, y7] ∧ m = a + b ∧ a < 32 ∧ b < 32 ∧ k ≤ 62 ∧ k * a ≤ 31 ∧ k * b ≤ 31 ∧
        fo + k * opX 0 o a b = opX 0 o a0 b0 ∧ Ex H H') (a0 + b0) ⟨a0, b0, 1, 0, none, none, none, rfl, rfl, ha0, hb0, by decide, by omega, by omega, by omega, e1.trans e2⟩ ?_
    rintro m σ' H' ⟨a, b, k, fo, y5, y6, y7, rfl, rfl, ha, hb, hk, hka, hkb, hv, ex⟩
    refine ⟨_, et_or (et_test (ev_op (ev_var rfl) ev_c rv_I0)) fun _ => et_test (ev_op (ev_var rfl) ev_c rv_I0), fun e H3 e3 => ?_, fun e H3 e3 => ?_⟩
    · have hpos : 0 < a ∨ 0 < b := by
        rcases Bool.or_eq_true_iff.mp e with z | z
        · have := of_decide_eq_true z
          omega
        · have := of_decide_eq_true z
          omega
      refine ⟨_, fun σ2 H2 n => n, ?_⟩
      refine q_asg (low (ev_var rfl) (ev_var rfl)) fun H4 e4 => q_asg (low (ev_var rfl) (ev_var rfl)) fun H5 e5 => ?_
      have m1 : a % 2 = 0 ∨ a % 2 = 1 := by omega
      have m2 : b % 2 = 0 ∨ b % 2 = 1 := by omega
      have hk7 : k ≤ 31 := by
        rcases hpos with z | z
        · exact Nat.le_trans (Nat.le_mul_of_pos_right k z) hka
        · exact Nat.le_trans (Nat.le_mul_of_pos_right k z) hkb
      refine q_asg (v := .int (bitV o ((a % 2 : Nat) : Int) ((b % 2 : Nat) : Int))) (ev_if (et_test (eqS (b := .and) (ev_var rfl) ev_c)) (fun e => ?_) (fun e => ?_)) fun H6 e6 => ?_
      · cases of_decide_eq_true e
        exact ev_op (ev_var rfl) (ev_var rfl) (rv_I (C := CMul) (g := fun i j => .int (i * j)) (.inl ⟨by omega, by omega⟩))
      · have n1 := of_decide_eq_false e
        refine ev_if (et_test (eqS (b := .or) (ev_var rfl) ev_c)) (fun e => ?_) (fun e => ?_)
        · cases of_decide_eq_true e
          exact ev_max2 (ev_var rfl) (ev_var rfl)
        · have n2 := of_decide_eq_false e
          refine ev_is (ev_op (ev_op (ev_var rfl) (ev_var rfl) rv_I0) (ev_op ev_c (ev_op (ev_var rfl) (ev_var rfl) (rv_I (C := CMul) (g := fun i j => .int (i * j)) (.inl ⟨by omega, by omega⟩))) (rv_I (C := CMul) (g := fun i j => .int (i * j)) (.inl ⟨by decide, by decide⟩))) rv_I0) ?_
          unfold bitV
          rw [if_neg n1, if_neg n2]
      have hbv := bit_step ho ha hb
      obtain ⟨bv, hbv0⟩ : ∃ bv : Nat, bitV o ((a % 2 : Nat) : Int) ((b % 2 : Nat) : Int) = (bv : Int) := by
        refine ⟨(bitV o ((a % 2 : Nat) : Int) ((b % 2 : Nat) : Int)).toNat, (Int.toNat_of_nonneg ?_).symm⟩
        unfold bitV
        rcases m1 with z | z <;> rcases m2 with z2 | z2 <;> rw [z, z2] <;> split <;> first | decide | (split <;> decide)
      rw [hbv0] at hbv
      rw [hbv0]
      refine q_asg (v := .int ((fo + k * bv : Nat) : Int)) (ev_is (ev_op (ev_var rfl) (ev_op (ev_var rfl) (ev_var rfl) (rv_I (C := CMul) (g := fun i j => .int (i * j)) (.inl ⟨by omega, by omega⟩))) rv_I0) (by simp)) fun H7 e7 => ?_
      refine q_asg (half (ev_var rfl)) fun H8 e8 => q_asg (half (ev_var rfl)) fun H9 e9 => ?_
      refine s_asg (v := .int ((2 * k : Nat) : Int)) (ev_is (ev_op ev_c (ev_var rfl) (rv_I (C := CMul) (g := fun i j => .int (i * j)) (.inl ⟨by decide, by decide⟩))) (by simp)) fun H10 e10 => ?_
      have hka2 : 2 * k * (a / 2) ≤ k * a := by
        have : k * (2 * (a / 2)) ≤ k * a := Nat.mul_le_mul_left k (by omega)
        rw [Nat.mul_comm 2 k, Nat.mul_assoc]
        exact this
      have hkb2 : 2 * k * (b / 2) ≤ k * b := by
        have : k * (2 * (b / 2)) ≤ k * b := Nat.mul_le_mul_left k (by omega)
        rw [Nat.mul_comm 2 k, Nat.mul_assoc]
        exact this
      have hval : opX 0 o a b = bv + 2 * opX 0 o (a / 2) (b / 2) := by omega
      refine ⟨a / 2 + b / 2, by omega, a / 2, b / 2, 2 * k, fo + k * bv, _, _, _, rfl, rfl, by omega, by omega, by omega, by omega, by omega, ?_, (((((((ex.trans e3).trans e4).trans e5).trans e6).trans e7).trans e8).trans e9).trans e10⟩
      rw [← hv, hval, Nat.mul_add, Nat.mul_comm 2 k, Nat.mul_assoc]
      omega
    · have hz : a = 0 ∧ b = 0 := by
        have := Bool.or_eq_false_iff.mp e
        have h1 := of_decide_eq_false this.1
        have h2 := of_decide_eq_false this.2
        omega
      obtain ⟨rfl, rfl⟩ := hz
      rw [bits_zero o ho] at hv
      have : fo = opX 0 o a0 b0 := by omega
      subst this
      exact s_ret (ev_var rfl) fun H4 e4 => q _ H4 ((ex.trans e3).trans e4) (.int _)
theorem modL {σ : L2.St} {H : Hp} {te te2 ts ts2 : TE} {x : Int} {w : Nat} (hw : Wd w) (h : Ev te σ H (.int x)) (h2 : Ev te2 σ H (.int x)) (hs : Ev ts σ H (.int (2 ^ w : Int))) (hs2 : Ev ts2 σ H (.int (2 ^ w : Int))) :
    Ev (tOp (rI0 fun i j => .int (i - j)) te (tOp (rI CMul fun i j => .int (i * j)) ts (tOp (rI CDivN fun i j => .int (i.fdiv j)) te2 ts2))) σ H (.int (x % 2 ^ w)) :=
  ev_is (ev_op h (ev_op hs (ev_op h2 hs2 (rv_I (C := CDivN) (g := fun i j => .int (i.fdiv j)) (by rcases hw.cases with rfl | rfl | rfl | rfl <;> exact ⟨by decide, by decide⟩))) (rv_I (C := CMul) (g := fun i j => .int (i * j)) (.inl (by rcases hw.cases with rfl | rfl | rfl | rfl <;> exact ⟨by decide, by decide⟩)))) rv_I0) (by
    congr 1
    rw [Int.fdiv_eq_ediv_of_nonneg _ (by have := two_pos w; omega)]
    have := Int.emod_add_mul_ediv x (2 ^ w)
    omega)
theorem add_mod_cast (w : Nat) (a b : Nat) : ((a : Int) + (b : Int)) % 2 ^ w = (((a + b) % 2 ^ w : Nat) : Int) := by simp
theorem ok_lawop {f fB : Addr} {fd fdB : FuncData} (F : Fun K "_law_op" "_law_op" sLawOp f fd) (FB : Fun K "_law_bits" "_law_bits" sBits fB fdB) (bB : Binds K fdB ["a", "b", "op"] []) (gB : mg "_law_bits" = some (.ref fB))
    (mm : mg "max" = none) (mn : mg "min" = none) (mr : mg "range" = none) (mi : mg "int" = none) : FnOk P w K mg base CX0 2 f fd ["w", "op", "a", "b"] (spOperate K) := by
  have GB : FnOk P w K mg base CX0 1 fB fdB ["a", "b", "op"] (spBits K) := ok_bits FB mm
  refine F.ok scLawOp (fun vs H Q E h => ?_) (fun cdv A outer s H vs Q E hr h => ?_)
  · obtain ⟨ds, d, ps, ⟨w, o, a, b, rfl, _⟩, _⟩ := h
    exact ps.length
  · obtain ⟨ds, d, ps, ⟨w, o, a, b, rfl, hw, ha, hb, rfl⟩, q⟩ := h
    obtain ⟨_, _, _, _, rfl, a1, a2, a3, a4⟩ := pvs4 ps
    cases pv_int a1
    cases pv_str a2
    cases pv_int a3
    cases pv_int a4
    refine ⟨_, pss_cons (ps_set (i := 4) scLawOp.nd rfl (.inl rfl) (pe_op op_shl pe_int (pv 0)))
      (pss_cons (ps_if (pt_cmpR op_in_seq (pv 1) (pe_tup (pa_cons pe_str (pa_cons pe_str (pa_cons pe_str pa_nil)))) (by rfl))
        (pss_cons (ps_set (i := 5) scLawOp.nd rfl (.inl rfl) (pe_ifExp (pt_cmpR op_eq (pv 1) pe_str (nomark _)) (pe_op op_add (pv 2) (pv 3)) (pe_ifExp (pt_cmpR op_eq (pv 1) pe_str (nomark _)) (pe_op op_sub (pv 2) (pv 3)) (pe_op op_mul (pv 2) (pv 3)))))
        (pss_one (ps_ret (pe_op op_sub (pv 5) (pe_op op_mul (pv 4) (pe_op op_fdivN (pv 5) (pv 4))))))) pss_nil)
      (pss_cons (ps_if (pt_cmpR op_eq (pv 1) pe_str (nomark _)) (pss_one (ps_ret (pe_ifExp (pt_cmpR op_eq (pv 3) pe_int (nomark _)) pe_int (pe_op op_fdivN (pv 2) (pv 3))))) pss_nil)
      (pss_cons (ps_if (pt_cmpR op_in_seq (pv 1) (pe_tup (pa_cons pe_str (pa_cons pe_str (pa_cons pe_str pa_nil)))) (by rfl)) (pss_one (ps_ret (pe_call GB hr (by rfl) gB FB.kp bB .nil pass0 (pa_cons (pv 2) (pa_cons (pv 3) (pa_cons (pv 1) pa_nil)))))) pss_nil)
      (pss_cons (ps_if (pt_cmpR op_in_seq (pv 1) (pe_tup (pa_cons pe_str (pa_cons pe_str pa_nil))) (by rfl))
        (pss_cons (ps_for PassesOwn.never rfl (pi_range1 rfl mr (pa_cons (pe_callB (call_min2 rfl) (by rfl) mn (by decide +kernel) (pa_cons (pv 3) (pa_cons (pv 0) pa_nil))) pa_nil)) (pg_name (i := 6) scLawOp.nd rfl (.inl rfl))
          (pss_one (ps_set (i := 2) scLawOp.nd rfl (.inl rfl) (pe_ifExp (pt_cmpR op_eq (pv 1) pe_str (nomark _)) (pe_op op_sub (pe_op op_mul pe_int (pv 2)) (pe_op op_mul (pv 4) (pe_op op_fdivN (pe_op op_mul pe_int (pv 2)) (pv 4)))) (pe_op op_fdivN (pv 2) pe_int)))))
        (pss_one (ps_ret (pv 2)))) pss_nil)
      (pss_cons (ps_if (pt_cmpR op_eq (pv 1) pe_str (nomark _))
        (pss_cons (ps_set (i := 2) scLawOp.nd rfl (.inl rfl) (pe_ifExp (pt_cmpR op_ge (pe_op op_mul pe_int (pv 2)) (pv 4) (nomark _)) (pe_op op_sub (pv 2) (pv 4)) (pv 2)))
        (pss_cons (ps_set (i := 3) scLawOp.nd rfl (.inl rfl) (pe_ifExp (pt_cmpR op_ge (pe_op op_mul pe_int (pv 3)) (pv 4) (nomark _)) (pe_op op_sub (pv 3) (pv 4)) (pv 3)))
        (pss_one (ps_ret (pe_callTy call_int1 (by rfl) mi (by decide +kernel) (pa_cons (pe_cmpR op_lt (pv 2) (pv 3) (nomark _)) pa_nil)))))) pss_nil)
      (pss_one (ps_ret (pe_ifExp (pt_cmpR op_eq (pv 1) pe_str (nomark _)) (pe_callTy call_int1 (by rfl) mi (by decide +kernel) (pa_cons (pe_cmpR op_lt (pv 2) (pv 3) (nomark _)) pa_nil)) (pe_callTy call_int1 (by rfl) mi (by decide +kernel) (pa_cons (pe_cmpR op_eq (pv 2) (pv 3) (nomark _)) pa_nil)))))))))), ?_⟩
    refine q_asg (shl1 (ev_var rfl) (w_le hw)) fun H1 e1 => ?_
    refine q_when (et_test (inOps [.add, .sub, .mul] (ev_var rfl) (ea_cons ev_c (ea_cons ev_c (ea_cons ev_c ea_nil))) (by decide))) (fun e H2 e2 => ?_) (fun e H2 e2 => ?_)
    · have hm : o = .add ∨ o = .sub ∨ o = .mul := by simpa using of_decide_eq_true e
      refine q_asg (v := .int (if o = .add then (a : Int) + b else if o = .sub then (a : Int) - b else (a : Int) * b)) (ev_if (et_test (eqS (b := .add) (ev_var rfl) ev_c)) (fun e => ?_) (fun e => ?_)) fun H3 e3 => ?_
      · cases of_decide_eq_true e
        exact ev_op (ev_var rfl) (ev_var rfl) rv_I0
      · have n1 := of_decide_eq_false e
        rw [if_neg n1]
        refine ev_if (et_test (eqS (b := .sub) (ev_var rfl) ev_c)) (fun e => ?_) (fun e => ?_)
        · cases of_decide_eq_true e
          exact ev_op (ev_var rfl) (ev_var rfl) rv_I0
        · rw [if_neg (of_decide_eq_false e)]
          exact ev_op (ev_var rfl) (ev_var rfl) (rv_I (C := CMul) (g := fun i j => .int (i * j)) (.inl (by rcases hw.cases with rfl | rfl | rfl | rfl <;> constructor <;> omega)))
      · refine s_ret (v := .int ((opX w o a b : Nat) : Int)) (ev_is (modL hw (ev_var rfl) (ev_var rfl) (ev_var rfl) (ev_var rfl)) ?_) fun H4 e4 => q _ H4 (((e1.trans e2).trans e3).trans e4) (.int _)
        congr 1
        rcases hm with rfl | rfl | rfl
        · simp [opX]
        · rw [if_neg (by decide), if_pos rfl]
          simp only [opX]
          rcases hw.cases with rfl | rfl | rfl | rfl <;> omega
        · rw [if_neg (by decide), if_neg (by decide)]
          simp [opX]
    have n1 := of_decide_eq_false e
    refine q_when (et_test (eqS (b := .div) (ev_var rfl) ev_c)) (fun e H3 e3 => ?_) (fun e H3 e3 => ?_)
    · cases of_decide_eq_true e
      refine s_ret (v := .int ((opX w .div a b : Nat) : Int)) (ev_if (et_test (ev_op (ev_var rfl) ev_c (rv_eq rfl))) (fun e4 => ?_) (fun e4 => ?_)) fun H4 e4 => q _ H4 (((e1.trans e2).trans e3).trans e4) (.int _)
      · have hb0 : b = 0 := by
          have := V.int.inj (of_decide_eq_true e4)
          omega
        subst hb0
        exact ev_c
      · have hb0 : b ≠ 0 := fun z => of_decide_eq_false e4 (by rw [z]; rfl)
        have hpw := hw.pow
        refine ev_is (ev_op (ev_var rfl) (ev_var rfl) (rv_I (C := CDivN) (g := fun i j => .int (i.fdiv j)) ⟨by omega, by omega⟩)) ?_
        simp only [opX]
        rw [if_neg hb0, Int.fdiv_eq_ediv_of_nonneg _ (by omega)]
        simp
    have n2 := of_decide_eq_false e
    have e13 := (e1.trans e2).trans e3
    refine q_when (et_test (inOps [.and, .or, .xor] (ev_var rfl) (ea_cons ev_c (ea_cons ev_c (ea_cons ev_c ea_nil))) (by decide))) (fun e H4 e4 => ?_) (fun e H4 e4 => ?_)
    · have hm : o ∈ bitOps := of_decide_eq_true e
      have h8 : 2 ^ w ≤ 32 := by rcases hw.cases with rfl | rfl | rfl | rfl <;> decide
      refine s_retP (ep_call (eps_cons (ep_ev (ev_var rfl) (.int _)) (eps_cons (ep_ev (ev_var rfl) (.int _)) (eps_cons (ep_ev (ev_var rfl) (.str _)) eps_nil))) ⟨o, a, b, rfl, hm, by omega, by omega, rfl⟩) fun v H6 e6 p => ?_
      have : opX 0 o a b = opX w o a b := by
        simp only [bitOps, List.mem_cons, List.not_mem_nil, or_false] at hm
        rcases hm with rfl | rfl | rfl <;> rfl
      rw [this] at p
      exact q _ H6 ((e13.trans e4).trans e6) p
    have n4 := of_decide_eq_false e
    refine q_when (et_test (inOps [.shl, .shr] (ev_var rfl) (ea_cons ev_c (ea_cons ev_c ea_nil)) (by decide))) (fun e H5 e5 => ?_) (fun e H5 e5 => ?_)
    · have hm : o = .shl ∨ o = .shr := by simpa using of_decide_eq_true e
      let g : Nat → Nat := fun i => if o = .shl then a * 2 ^ i % 2 ^ w else a / 2 ^ i
      have hmin : (if (w : Int) < (b : Int) then (w : Int) else (b : Int)) = ((min b w : Nat) : Int) := by
        split <;> omega
      have hmin10 : min b w ≤ 5 := by rcases hw.cases with rfl | rfl | rfl | rfl <;> omega
      refine q_forR1 (n := ((min b w : Nat) : Int)) (ea_cons (ev_cb (ea_cons (ev_var rfl) (ea_cons (ev_var rfl) ea_nil)) fun H1 e Q q => ⟨_, _, rfl, by rw [hmin]; exact q H1 (Ex.refl H1)⟩) ea_nil) ⟨by omega, by omega⟩ (fun i σ' H' => ∃ y5 y6, σ' = [some (.int (w : Int)), some (.str o.s), some (.int ((g i : Nat) : Int)), some (.int (b : Int)), some (.int (2 ^ w : Int)), y5, y6] ∧ Ex H H')
        (fun H6 e6 => ⟨none, none, ?_, ((e13.trans e4).trans e5).trans e6⟩) ?_ ?_
      · have : g 0 = a := by
          show (if o = .shl then a * 2 ^ 0 % 2 ^ w else a / 2 ^ 0) = a
          split
          · simp [Nat.mod_eq_of_lt ha]
          · simp
        rw [this]
        rfl
      · rintro i σ' H' hi ⟨y5, y6, rfl, ex⟩
        have hg : g i < 32 := by
          show (if o = .shl then a * 2 ^ i % 2 ^ w else a / 2 ^ i) < 32
          have h8 : 2 ^ w ≤ 32 := by rcases hw.cases with rfl | rfl | rfl | rfl <;> decide
          split
          · exact Nat.lt_of_lt_of_le (Nat.mod_lt _ (pow_pos2 w)) h8
          · exact Nat.lt_of_le_of_lt (Nat.div_le_self _ _) (by omega)
        refine s_asg (v := .int ((g (i + 1) : Nat) : Int)) (ev_if (et_test (eqS (b := .shl) (ev_var rfl) ev_c)) (fun e => ?_) (fun e => ?_)) fun H6 e6 => ⟨_, _, rfl, ex.trans e6⟩
        · have hs := of_decide_eq_true e
          refine ev_is (modL hw (ev_op ev_c (ev_var rfl) (rv_I (C := CMul) (g := fun i j => .int (i * j)) (.inl ⟨by decide, by decide⟩))) (ev_op ev_c (ev_var rfl) (rv_I (C := CMul) (g := fun i j => .int (i * j)) (.inl ⟨by decide, by decide⟩))) (ev_var rfl) (ev_var rfl)) ?_
          congr 1
          have : g (i + 1) = 2 * g i % 2 ^ w := by
            show (if o = .shl then a * 2 ^ (i + 1) % 2 ^ w else a / 2 ^ (i + 1)) = 2 * (if o = .shl then a * 2 ^ i % 2 ^ w else a / 2 ^ i) % 2 ^ w
            rw [if_pos hs, if_pos hs, Nat.mul_mod_mod, Nat.pow_succ]
            congr 1
            rw [← Nat.mul_assoc, Nat.mul_comm]
          rw [this]
          simp
        · have hs := of_decide_eq_false e
          refine ev_is (half (ev_var rfl)) ?_
          congr 2
          show (if o = .shl then a * 2 ^ i % 2 ^ w else a / 2 ^ i) / 2 = (if o = .shl then a * 2 ^ (i + 1) % 2 ^ w else a / 2 ^ (i + 1))
          rw [if_neg hs, if_neg hs, Nat.div_div_eq_div_mul, Nat.pow_succ]
      · rintro σ' H' ⟨y5, y6, rfl, ex⟩
        have hfin : g (min b w) = opX w o a b := by
          rcases hm with rfl | rfl
          · show (if Op.shl = .shl then a * 2 ^ (min b w) % 2 ^ w else a / 2 ^ (min b w)) = if b ≥ w then 0 else a * 2 ^ b % 2 ^ w
            rw [if_pos rfl]
            split
            · rw [Nat.min_eq_right (by omega), Nat.mul_mod_left]
            · rw [Nat.min_eq_left (by omega)]
          · show (if Op.shr = .shl then a * 2 ^ (min b w) % 2 ^ w else a / 2 ^ (min b w)) = if b ≥ w then 0 else a / 2 ^ b
            rw [if_neg (by decide)]
            split
            · rw [Nat.min_eq_right (by omega), Nat.div_eq_of_lt ha]
            · rw [Nat.min_eq_left (by omega)]
        have e0 : (((min b w : Nat) : Int)).toNat = min b w := Int.toNat_natCast _
        rw [e0, hfin]
        exact s_ret (ev_var rfl) fun H7 e7 => q _ H7 (ex.trans e7) (.int _)
    have n5 := of_decide_eq_false e
    refine q_when (et_test (eqS (b := .slt) (ev_var rfl) ev_c)) (fun e H6 e6 => ?_) (fun e H6 e6 => ?_)
    · cases of_decide_eq_true e
      have sgn : ∀ {σ : L2.St} {H : Hp} {j x : Nat}, x < 2 ^ w → σ[j]? = some (some (.int (x : Int))) → σ[4]? = some (some (.int (2 ^ w : Int))) → Ev (tIf (tTest (tOp (rI0 fun i j => .bl (decide (i ≥ j))) (tOp (rI CMul fun i j => .int (i * j)) (tC (.int 2)) (tVar j)) (tVar 4))) (tOp (rI0 fun i j => .int (i - j)) (tVar j) (tVar 4)) (tVar j)) σ H (.int (sg w x)) := fun {σ H j x} hx s0 s4 => by
        have cast2 : ((2 : Int) ^ w) = ((2 ^ w : Nat) : Int) := by simp
        refine ev_if (et_test (ev_op (ev_op ev_c (ev_var s0) (rv_I (C := CMul) (g := fun i j => .int (i * j)) (.inl ⟨by decide, by decide⟩))) (ev_var s4) rv_I0)) (fun e => ?_) (fun e => ?_)
        · have h := of_decide_eq_true e
          rw [cast2] at h
          refine ev_is (ev_op (ev_var s0) (ev_var s4) rv_I0) ?_
          unfold sg
          rw [if_pos (by omega)]
        · have h := of_decide_eq_false e
          rw [cast2] at h
          refine ev_is (ev_var s0) ?_
          unfold sg
          rw [if_neg (by omega)]
      refine q_asg (sgn ha rfl rfl) fun H7 e7 => q_asg (sgn hb rfl rfl) fun H8 e8 => ?_
      refine s_ret (ev_is (int_b rfl (ev_op (ev_var rfl) (ev_var rfl) rv_I0)) ?_) fun H9 e9 => q _ H9 (((((e13.trans e4).trans e5).trans e6).trans (e7.trans e8)).trans e9) (.int _)
      simp only [opX]
      by_cases h : sg w a < sg w b
      · simp [h]
      · simp [h]
    have n6 := of_decide_eq_false e
    have hl : o = .lt ∨ o = .eq := by
      cases o <;> first | (exact .inl rfl) | (exact .inr rfl) | (exact absurd (by decide) n1) | (exact absurd rfl n2) | (exact absurd (by decide) n4) | (exact absurd (by decide) n5) | (exact absurd rfl n6)
    refine s_ret (v := .int ((opX w o a b : Nat) : Int)) (ev_if (et_test (eqS (b := .lt) (ev_var rfl) ev_c)) (fun e => ?_) (fun e => ?_)) fun H7 e7 => q _ H7 ((((e13.trans e4).trans e5).trans e6).trans e7) (.int _)
    · cases of_decide_eq_true e
      refine ev_is (int_b rfl (ev_op (ev_var rfl) (ev_var rfl) rv_I0)) ?_
      simp only [opX]
      by_cases h : a < b
      · simp [h]
      · simp [h]
    · have hx : o = .eq := hl.resolve_left (of_decide_eq_false e)
      subst hx
      refine ev_is (int_b rfl (ev_op (ev_var rfl) (ev_var rfl) (rv_eq rfl))) ?_
      simp only [opX]
      by_cases h : a = b
      · simp [h]
      · have : ¬ (V.int (a : Int) = V.int (b : Int)) := fun z => h (by have := V.int.inj z; omega)
        simp [h, this]
end
end K36

/-! dict(zip(a, b)), a a tuple, b a list or a tuple; dict(t), t a tuple of pairs. -/
namespace PySem
open Sem (wp)
section
variable {prog : Program} {w : World} {A : Around} {E : Value → Shared → Prop} {s : Shared} {z TI TO i1 i2 T : Addr} {fp1 fp2 : List Addr} {n1 n2 i : Nat} {P1 P2 : Nat → Value → Prop} {St1 St2 : Nat → Heap → Prop} {f : Bool} {oT : Obj}
theorem zipD2_next_item_held {Q : Value → Shared → Prop} (S : ZipSep2 z TI TO i1 i2 fp1 fp2) (D1 : Draws prog w A i1 fp1 n1 P1 St1) (D2 : Draws prog w A i2 fp2 n2 P2 St2)
    (hz : IsZipHeld s.heap z TI TO T f) (hT : s.heap.get? T = some oT) (hTI : IsTupOf2 s.heap TI (.ref i1) (.ref i2)) (st1 : St1 i s.heap) (st2 : St2 i s.heap) (hlt1 : i < n1) (hlt2 : i < n2)
    (hQ : ∀ x1 x2 h' tk, P1 i x1 → P2 i x2 → IsZipHeld h' z TI TO T true → St1 (i + 1) h' → St2 (i + 1) h' → IsTupOf2 h' s.heap.objs.size x1 x2 →
      (∀ c o, c ≠ z → c ≠ i1 → c ≠ i2 → s.heap.get? c = some o → h'.get? c = some o) → Q (.ref s.heap.objs.size) { s with heap := h', toks := tk }) :
    wpAny (model prog w) A (Builtin.«zip.__next__» ⟨[.ref z], []⟩) (fun fin s' => ∃ v, fin = .done (.ret v) ∧ Q v s') E s := by
  obtain ⟨hp, g, d, tk0, os⟩ := s
  show wpAny _ _ (field (.ref z) 2 >>= _) _ _ _
  refine wpAny_bind (wpAny_field hz rfl (x := .bool false) rfl ?_)
  show wpAny _ _ (field (.ref z) 3 >>= _) _ _ _
  refine wpAny_bind (wpAny_field hz rfl (x := .ref TI) rfl ?_)
  refine wpAny_bind (wpAny_seqItems hTI rfl ?_)
  show wpAny _ _ (Builtin.SmallTypes.ownedTupleIsFree (.ref z) >>= _) _ _ _
  refine wpAny_bind (wpAny_tupleHeld_zip hz hT fun h₁ hz₁ hs₁ => ?_)
  replace hs₁ : Heap.SameBut z hp h₁ := hs₁
  simp only [Bool.false_eq_true, if_false]
  refine wpAny_bind ?_
  rw [← Array.forIn_toList]
  simp only [List.forIn_cons, List.forIn_nil]
  refine wpAny_bind (wpAny_bind (wpAny_holding ?_))
  show wpAny _ _ (Builtin.SmallTypes.nextOf (.ref i1) >>= _) _ _ ⟨h₁, g, d, tk0, os⟩
  refine wpAny_bind (D1.item i ⟨h₁, g, d, tk0, os⟩ _ _ hlt1 (D1.over st1 hs₁ S.zf1) fun x h₂ tk1 hx h1₂ hs₂ => wpAny_pure ?_)
  replace hs₂ : Heap.SameBut i1 h₁ h₂ := hs₂
  refine wpAny_pure ?_
  refine wpAny_bind (wpAny_bind (wpAny_holding ?_))
  show wpAny _ _ (Builtin.SmallTypes.nextOf (.ref i2) >>= _) _ _ ⟨h₂, g, d, tk1, os⟩
  refine wpAny_bind (D2.item i ⟨h₂, g, d, tk1, os⟩ _ _ hlt2 (D2.over (D2.over st2 hs₁ S.zf2) hs₂ S.sep1_2) fun y h₃ tk2 hy h2₃ hs₃ => wpAny_pure ?_)
  replace hs₃ : Heap.SameBut i2 h₂ h₃ := hs₃
  refine wpAny_pure (wpAny_pure ?_)
  show wpAny _ _ (newTuple [x, y] >>= _) _ _ _
  refine wpAny_bind (wpAny_newTuple ?_)
  have hsz : h₃.objs.size = hp.objs.size := by rw [hs₃.1, hs₂.1, hs₁.1]
  have hz₃ : IsZipHeld h₃ z TI TO T true := hs₃.extBut _ _ S.zi2 (hs₂.extBut _ _ S.zi1 hz₁)
  have hk : ∀ c o, c ≠ z → c ≠ i1 → c ≠ i2 → hp.get? c = some o → h₃.get? c = some o := fun c o c1 c2 c3 e => hs₃.extBut _ _ c3 (hs₂.extBut _ _ c2 (hs₁.extBut _ _ c1 e))
  have h1₃ : St1 (i + 1) h₃ := D1.over h1₂ hs₃ S.sep2_1
  refine wpAny_pure ⟨_, rfl, ?_⟩
  show Q (.ref h₃.objs.size) _
  have hpp : IsTupOf2 (h₃.push { cls := .type "tuple", data := .seq #[x, y] }) h₃.objs.size x y := Heap.get?_push_size _ rfl
  rw [hsz] at hpp ⊢
  exact hQ x y _ tk2 hx hy (Heap.get?_push_of_some _ hz₃) (D1.frame _ _ _ h1₃ fun b _ o e => Heap.get?_push_of_some _ e) (D2.frame _ _ _ h2₃ fun b _ o e => Heap.get?_push_of_some _ e) hpp fun c o c1 c2 c3 e => Heap.get?_push_of_some _ (hk c o c1 c2 c3 e)
theorem zipD2_next_end_held {Q : Fin → Shared → Prop} (S : ZipSep2 z TI TO i1 i2 fp1 fp2) (D1 : Draws prog w A i1 fp1 n1 P1 St1) (D2 : Draws prog w A i2 fp2 n2 P2 St2)
    (hz : IsZipHeld s.heap z TI TO T f) (hT : s.heap.get? T = some oT) (hTI : IsTupOf2 s.heap TI (.ref i1) (.ref i2)) (st1 : St1 i s.heap) (st2 : St2 i s.heap) (hle1 : i ≤ n1) (hle2 : i ≤ n2) (hend : i = n1 ∨ i = n2)
    (hE : ∀ h' tk e, (∀ c o, c ≠ z → c ≠ i1 → c ≠ i2 → s.heap.get? c = some o → h'.get? c = some o) → (∃ o, h'.get? e = some o ∧ o.cls = .type "StopIteration") → E (.ref e) { s with heap := h', toks := tk }) :
    wpAny (model prog w) A (Builtin.«zip.__next__» ⟨[.ref z], []⟩) Q E s := by
  obtain ⟨hp, g, d, tk0, os⟩ := s
  show wpAny _ _ (field (.ref z) 2 >>= _) _ _ _
  refine wpAny_bind (wpAny_field hz rfl (x := .bool false) rfl ?_)
  show wpAny _ _ (field (.ref z) 3 >>= _) _ _ _
  refine wpAny_bind (wpAny_field hz rfl (x := .ref TI) rfl ?_)
  refine wpAny_bind (wpAny_seqItems hTI rfl ?_)
  show wpAny _ _ (Builtin.SmallTypes.ownedTupleIsFree (.ref z) >>= _) _ _ _
  refine wpAny_bind (wpAny_tupleHeld_zip hz hT fun h₁ hz₁ hs₁ => ?_)
  replace hs₁ : Heap.SameBut z hp h₁ := hs₁
  simp only [Bool.false_eq_true, if_false]
  refine wpAny_bind ?_
  rw [← Array.forIn_toList]
  simp only [List.forIn_cons, List.forIn_nil]
  refine wpAny_bind (wpAny_bind (wpAny_holding ?_))
  show wpAny _ _ (Builtin.SmallTypes.nextOf (.ref i1) >>= _) _ _ ⟨h₁, g, d, tk0, os⟩
  by_cases hlt1 : i < n1
  · have hi2 : i = n2 := by omega
    refine wpAny_bind (D1.item i ⟨h₁, g, d, tk0, os⟩ _ _ hlt1 (D1.over st1 hs₁ S.zf1) fun x h₂ tk1 hx h1₂ hs₂ => wpAny_pure ?_)
    replace hs₂ : Heap.SameBut i1 h₁ h₂ := hs₂
    refine wpAny_pure ?_
    refine wpAny_bind (wpAny_bind (wpAny_holding ?_))
    show wpAny _ _ (Builtin.SmallTypes.nextOf (.ref i2) >>= _) _ _ ⟨h₂, g, d, tk1, os⟩
    refine wpAny_bind (D2.done ⟨h₂, g, d, tk1, os⟩ _ _ (by rw [← hi2]; exact D2.over (D2.over st2 hs₁ S.zf2) hs₂ S.sep1_2) fun h₃ e hs₃ he => ?_)
    exact hE h₃ tk1 e (fun c o c1 c2 c3 x => hs₃ _ _ c3 (hs₂.extBut _ _ c2 (hs₁.extBut _ _ c1 x))) he
  · have hi1 : i = n1 := by omega
    refine wpAny_bind (D1.done ⟨h₁, g, d, tk0, os⟩ _ _ (by rw [← hi1]; exact D1.over st1 hs₁ S.zf1) fun h₂ e hs₂ he => ?_)
    exact hE h₂ tk0 e (fun c o c1 c2 _ x => hs₂ _ _ c2 (hs₁.extBut _ _ c1 x)) he
theorem pyNext_zipD2_item_held {Q : Option Value → Shared → Prop} (S : ZipSep2 z TI TO i1 i2 fp1 fp2) (D1 : Draws prog w A.in1 i1 fp1 n1 P1 St1) (D2 : Draws prog w A.in1 i2 fp2 n2 P2 St2)
    (hz : IsZipHeld s.heap z TI TO T f) (hT : s.heap.get? T = some oT) (hTI : IsTupOf2 s.heap TI (.ref i1) (.ref i2)) (st1 : St1 i s.heap) (st2 : St2 i s.heap) (hlt1 : i < n1) (hlt2 : i < n2)
    (hQ : ∀ x1 x2 h' tk, P1 i x1 → P2 i x2 → IsZipHeld h' z TI TO T true → St1 (i + 1) h' → St2 (i + 1) h' → IsTupOf2 h' s.heap.objs.size x1 x2 →
      (∀ c o, c ≠ z → c ≠ i1 → c ≠ i2 → s.heap.get? c = some o → h'.get? c = some o) → Q (some (.ref s.heap.objs.size)) { s with heap := h', toks := tk }) :
    wpAny (model prog w) A (pyNext (.ref z)) Q E s := by
  have hTy : s.TypeIs (.ref z) "zip" := ⟨_, hz, rfl⟩
  unfold pyNext
  exact wpAny_bind (wpAny_attempt (wpAny_callSpecial?_slot (name := Str.ofString "__next__") hTy F.slot_zip_next
    (wpAny_call_entry F.slot_zip_next hTy F.entry_zip_next
      (zipD2_next_item_held S D1 D2 hz hT hTI st1 st2 hlt1 hlt2 fun x1 x2 h' tk y1 y2 a1 a3 a4 a5 a7 => wpAny_pure (hQ x1 x2 h' tk y1 y2 a1 a3 a4 a5 a7)) (F.args_zip_next_1 _))))
theorem pyNext_zipD2_end_held {Q : Option Value → Shared → Prop} (S : ZipSep2 z TI TO i1 i2 fp1 fp2) (D1 : Draws prog w A.in1 i1 fp1 n1 P1 St1) (D2 : Draws prog w A.in1 i2 fp2 n2 P2 St2)
    (hz : IsZipHeld s.heap z TI TO T f) (hT : s.heap.get? T = some oT) (hTI : IsTupOf2 s.heap TI (.ref i1) (.ref i2)) (st1 : St1 i s.heap) (st2 : St2 i s.heap) (hle1 : i ≤ n1) (hle2 : i ≤ n2) (hend : i = n1 ∨ i = n2)
    (hQ : ∀ h' tk, (∀ c o, c ≠ z → c ≠ i1 → c ≠ i2 → s.heap.get? c = some o → h'.get? c = some o) → Q none { s with heap := h', toks := tk }) : wpAny (model prog w) A (pyNext (.ref z)) Q E s := by
  have hTy : s.TypeIs (.ref z) "zip" := ⟨_, hz, rfl⟩
  unfold pyNext
  refine wpAny_bind (wpAny_attempt (wpAny_callSpecial?_slot (name := Str.ofString "__next__") hTy F.slot_zip_next
    (wpAny_call_entry F.slot_zip_next hTy F.entry_zip_next (zipD2_next_end_held S D1 D2 hz hT hTI st1 st2 hle1 hle2 hend fun h' tk e hk he => ?_) (F.args_zip_next_1 _))))
  obtain ⟨o, ho, hc⟩ := he
  refine wpAny_bind (wpAny_isInstance (T := "StopIteration") (b := true) ⟨o, ho, hc⟩ isSubtype_stop ?_)
  exact wpAny_pure (hQ _ _ hk)
end
theorem PairArg.zipD2 {prog : Program} {w : World} {z TI TO i1 i2 : Addr} {fp1 fp2 : List Addr} {n1 n2 : Nat} {P1 P2 : Nat → Value → Prop} {St1 St2 : Nat → Heap → Prop} (S : ZipSep2 z TI TO i1 i2 fp1 fp2)
    (D1 : ∀ A : Around, A.handled = none → Draws prog w A i1 fp1 n1 P1 St1) (D2 : ∀ A : Around, A.handled = none → Draws prog w A i2 fp2 n2 P2 St2) (T1 : ∀ i h, St1 i h → ∀ b ∈ fp1, ∃ o, h.get? b = some o) (T2 : ∀ i h, St2 i h → ∀ b ∈ fp2, ∃ o, h.get? b = some o) (dA : Around) (hdA : dA.handled = none) :
    PairArg prog w "zip" z (z :: TI :: TO :: (fp1 ++ fp2)) [z, TO, i1, i2] (min n1 n2) (fun i k v => P1 i k ∧ P2 i v)
      (fun h => IsZip h z TI TO .none ∧ IsTupOf2 h TI (.ref i1) (.ref i2) ∧ (∃ a b, IsTupOf2 h TO a b) ∧ St1 0 h ∧ St2 0 h) where
  type := fun s ok => ⟨_, ok.1, rfl⟩
  notDict := by decide
  keep := fun h h' ok hk => by
    obtain ⟨hz, hTI, ⟨a, b, hTO⟩, h1, h2⟩ := ok
    exact ⟨hk _ _ hz, hk _ _ hTI, ⟨a, b, hk _ _ hTO⟩, (D1 dA hdA).frame _ _ _ h1 fun b _ o e => hk _ o e, (D2 dA hdA).frame _ _ _ h2 fun b _ o e => hk _ o e⟩
  there := fun h ok b hb => by
    obtain ⟨hz, hTI, ⟨a, c, hTO⟩, h1, h2⟩ := ok
    rcases List.mem_cons.mp hb with rfl | hb
    · exact ⟨_, hz⟩
    rcases List.mem_cons.mp hb with rfl | hb
    · exact ⟨_, hTI⟩
    rcases List.mem_cons.mp hb with rfl | hb
    · exact ⟨_, hTO⟩
    rcases List.mem_append.mp hb with hb | hb
    · exact T1 _ _ h1 b hb
    · exact T2 _ _ h2 b hb
  sub := fun b hb => by
    have hb' : b = z ∨ b = TO ∨ b = i1 ∨ b = i2 := by simpa using hb
    rcases hb' with rfl | rfl | rfl | rfl
    · simp
    · simp
    · simp [S.mem1]
    · simp [S.mem2]
  noKeys := fun A s Q E hA ok h => getAttrOr_miss_zip ok.1 rfl rfl rfl zip_no_keys (by decide +kernel) hA h
  iter := fun A s d Q E hA ok hd hdf h => by
    obtain ⟨hz, hTI, ⟨a, b, hTO⟩, h1, h2⟩ := ok
    simp only [List.mem_cons, List.mem_append, not_or] at hdf
    obtain ⟨dz, dTI, dTO, df1, df2⟩ := hdf
    have di1 : d ≠ i1 := fun e => df1 (e ▸ S.mem1)
    have di2 : d ≠ i2 := fun e => df2 (e ▸ S.mem2)
    have hA1 : (A.in1).handled = none := hA
    refine wpAny_pyIter_zip hz (h z [z, TO, i1, i2] (fun i h => IsTupOf2 h TI (.ref i1) (.ref i2) ∧ St1 i h ∧ St2 i h ∧
      ((IsZip h z TI TO .none ∧ ∃ a b, IsTupOf2 h TO a b) ∨ ∃ T f oT, IsZipHeld h z TI TO T f ∧ h.get? T = some oT ∧ T ≠ z ∧ T ≠ i1 ∧ T ≠ i2 ∧ T ≠ d)) s.heap s.toks ?_
      ⟨hTI, h1, h2, .inl ⟨hz, a, b, hTO⟩⟩ (fun _ _ e => e) fun b hb => .inl hb)
    exact {
      off := fun hm => by
        simp only [List.mem_cons, List.not_mem_nil, or_false] at hm
        rcases hm with e | e | e | e
        · exact dz e
        · exact dTO e
        · exact di1 e
        · exact di2 e
      frame := fun i h₁ h₂ st hk => by
        obtain ⟨hTI, h1, h2, hz⟩ := st
        refine ⟨hk _ _ (Ne.symm dTI) hTI, (D1 A hA).frame _ _ _ h1 fun b hb o e => hk _ o (fun q => df1 (q ▸ hb)) e, (D2 A hA).frame _ _ _ h2 fun b hb o e => hk _ o (fun q => df2 (q ▸ hb)) e, ?_⟩
        rcases hz with ⟨hz, a, b, hTO⟩ | ⟨T, f, oT, hz, hT, r1, r2, r3, r4⟩
        · exact .inl ⟨hk _ _ (Ne.symm dz) hz, a, b, hk _ _ (Ne.symm dTO) hTO⟩
        · exact .inr ⟨T, f, oT, hk _ _ (Ne.symm dz) hz, hk _ _ r4 hT, r1, r2, r3, r4⟩
      item := fun i s₁ Q₁ E₁ hi st hds hQ => by
        obtain ⟨hTI, h1, h2, hz⟩ := st
        have hi1 : i < n1 := by omega
        have hi2 : i < n2 := by omega
        have lt : ∀ {c o}, s₁.heap.get? c = some o → s₁.heap.objs.size ≠ c := fun e => Nat.ne_of_gt (Heap.lt_size e)
        have m1 : s₁.heap.objs.size ≠ i1 := let ⟨_, e⟩ := (D1 A hA).live _ _ h1; lt e
        have m2 : s₁.heap.objs.size ≠ i2 := let ⟨_, e⟩ := (D2 A hA).live _ _ h2; lt e
        rcases hz with ⟨hz, a, b, hTO⟩ | ⟨T, f, oT, hz, hT, r1, r2, r3, r4⟩
        · refine wpAny_pyNext_zipD2_item S (D1 _ hA1) (D2 _ hA1) hz hTI hTO h1 h2 hi1 hi2 fun x1 x2 h' tk y1 y2 a1 a2 a3 a4 a5 a6 hk => ?_
          exact hQ s₁.heap.objs.size _ _ h' tk ⟨y1, y2⟩ (.inl ⟨_, a5, rfl, _, rfl⟩)
            ⟨hk _ _ S.TIz S.TITO S.TIi1 S.TIi2 hTI, a3, a4, .inr ⟨s₁.heap.objs.size, false, _, a1, a5, lt hz, m1, m2, Nat.ne_of_gt hds⟩⟩
            fun c o hc e => hk c o (fun x => hc (by simp [x])) (fun x => hc (by simp [x])) (fun x => hc (by simp [x])) (fun x => hc (by simp [x])) e
        · refine pyNext_zipD2_item_held S (D1 _ hA1) (D2 _ hA1) hz hT hTI h1 h2 hi1 hi2 fun x1 x2 h' tk y1 y2 a1 a3 a4 a5 hk => ?_
          exact hQ s₁.heap.objs.size _ _ h' tk ⟨y1, y2⟩ (.inl ⟨_, a5, rfl, _, rfl⟩)
            ⟨hk _ _ S.TIz S.TIi1 S.TIi2 hTI, a3, a4, .inr ⟨T, true, oT, a1, hk _ _ r1 r2 r3 hT, r1, r2, r3, r4⟩⟩
            fun c o hc e => hk c o (fun x => hc (by simp [x])) (fun x => hc (by simp [x])) (fun x => hc (by simp [x])) e
      done := fun s₁ Q₁ E₁ st hQ => by
        obtain ⟨hTI, h1, h2, hz⟩ := st
        rcases hz with ⟨hz, a, b, hTO⟩ | ⟨T, f, oT, hz, hT, r1, r2, r3, r4⟩
        · exact wpAny_pyNext_zipD2_end S (D1 _ hA1) (D2 _ hA1) hz hTI hTO h1 h2 (by omega) (by omega) (by omega) fun h' tk hk => hQ h' tk fun c o hc e => hk c o (fun x => hc (by simp [x])) (fun x => hc (by simp [x])) (fun x => hc (by simp [x])) (fun x => hc (by simp [x])) e
        · exact pyNext_zipD2_end_held S (D1 _ hA1) (D2 _ hA1) hz hT hTI h1 h2 (by omega) (by omega) (by omega) fun h' tk hk => hQ h' tk fun c o hc e => hk c o (fun x => hc (by simp [x])) (fun x => hc (by simp [x])) (fun x => hc (by simp [x])) e }
end PySem

namespace Gd
open PySem PySem.Spec PyProof.Rows L2 Evl Pd
/-- dict(zip(a, b)): keys of a tuple, values of a list or a tuple of one length -/
def tDictZip (K : PySem.W.Frag) (ta : TA) : TE := fun σ H Q => ta σ H fun vs H1 => ∃ (a b : Addr) (ks : List Key) (ys : List V), vs = [.ref a, .ref b] ∧ SqT K H1 a (ks.map kV) ∧ (SqL K H1 b ys ∨ SqT K H1 b ys) ∧ ks.length = ys.length ∧ ∀ p, H1 p = none → Q (.ref p) (upd H1 p (.dK (mergeK [] (ks.zip ys))))
theorem kv_zip : ∀ {ks : List Key} {ys : List V} {us : List Value}, Vals ys us → KV (ks.zip ys) (ks.zip us)
  | [], _, _, _ => by rw [List.zip_nil_left, List.zip_nil_left]; exact .nil
  | k :: ks, _, _, .nil => by rw [List.zip_nil_right, List.zip_nil_right]; exact .nil
  | k :: ks, _, _, .cons h t => .cons ⟨rfl, h⟩ (kv_zip t)
section
variable {X : Cx}
theorem dictZip_run {pins : List (Addr × Obj)} {σ : L2.St} {H : Hp} {s : Shared} {Q : VK} {a b : Addr} {ks : List Key} {ys : List V} {its its2 : List Value} {o1 o2 : Obj} {H1 H2 : Heap → Prop} {St1 St2 : Addr → Nat → Heap → Prop}
    (hcalm : X.calm = true) (I : Inv X pins σ H s) (B1 : Begins (.ref a) o1 H1) (B2 : Begins (.ref b) o2 H2) (h1 : H1 s.heap) (h2 : H2 s.heap) (la : a < s.heap.objs.size) (lb : b < s.heap.objs.size)
    (D1 : ∀ i, a ≠ i → ∀ A : Around, A.handled = none → Draws X.prog X.w A i [i, a] its.toArray.size (fun i v => its.toArray[i]? = some v) (St1 i)) (D2 : ∀ i, b ≠ i → ∀ A : Around, A.handled = none → Draws X.prog X.w A i [i, b] its2.toArray.size (fun i v => its2.toArray[i]? = some v) (St2 i))
    (S1 : ∀ i h, h.get? i = some o1 → H1 h → St1 i 0 h) (S2 : ∀ i h, h.get? i = some o2 → H2 h → St2 i 0 h) (T1 : ∀ j i h, St1 j i h → ∀ c ∈ [j, a], ∃ o, h.get? c = some o) (T2 : ∀ j i h, St2 j i h → ∀ c ∈ [j, b], ∃ o, h.get? c = some o)
    (r1 : Vals (ks.map kV) its) (r2 : Vals ys its2) (hl : ks.length = ys.length) (hz : its.length ≤ sizeLine) (q : ∀ p, H p = none → Q (.ref p) (upd H p (.dK (mergeK [] (ks.zip ys))))) :
    wpAny (model X.prog X.w) X.A (call (.type "zip") [.ref a, .ref b]) (fun v s1 => wpAny (model X.prog X.w) X.A (spliced []) (fun vs s2 => wpAny (model X.prog X.w) X.A (call (.type "dict") (v :: vs)) (EP X pins σ Q) X.xe s2) X.xe s1) X.xe s := by
  refine zip_begins2 B1 B2 h1 h2 fun h' hzip hTI hTO g1 g2 hsz hk => ?_
  refine Calls.spliced_nil ?_
  have n1 := I.ok.hd hcalm
  have S : ZipSep2 (s.heap.objs.size + 4) (s.heap.objs.size + 2) (s.heap.objs.size + 3) s.heap.objs.size (s.heap.objs.size + 1) [s.heap.objs.size, a] [s.heap.objs.size + 1, b] := by
    have Z := PySem.W.ktu_apart s.heap.objs.size a b la lb
    have two : ∀ {x i l : Addr}, x ≠ i → x ≠ l → x ∉ [i, l] := fun h1 h2 h => (List.mem_cons.mp h).elim h1 fun e => h2 (List.mem_singleton.mp e)
    exact { TIz := Z.TIz, TOz := Z.TOz, TITO := Z.TITO, TIi1 := Z.TIi1, TIi2 := Z.TIi2, mem1 := List.mem_cons_self, mem2 := List.mem_cons_self,
            zf1 := two (Ne.symm Z.i1z) (Ne.symm Z.l1z), zf2 := two (Ne.symm Z.i2z) (Ne.symm Z.l2z), Tf1 := two Z.TOi1 (Ne.symm Z.l1TO), Tf2 := two Z.TOi2 (Ne.symm Z.l2TO),
            sep1_2 := two Z.i12 (Ne.symm Z.l2i1), sep2_1 := two (Ne.symm Z.i12) (Ne.symm Z.l1i2) }
  have na : a ≠ s.heap.objs.size := Nat.ne_of_lt la
  have nb : b ≠ s.heap.objs.size + 1 := Nat.ne_of_lt (Nat.lt_succ_of_lt lb)
  have P := PairArg.zipD2 (prog := X.prog) (w := X.w) S (D1 _ na) (D2 _ nb) (T1 _) (T2 _) X.A n1
  have ok : IsZip h' (s.heap.objs.size + 4) (s.heap.objs.size + 2) (s.heap.objs.size + 3) .none ∧ IsTupOf2 h' (s.heap.objs.size + 2) (.ref s.heap.objs.size) (.ref (s.heap.objs.size + 1)) ∧ (∃ x y, IsTupOf2 h' (s.heap.objs.size + 3) x y) ∧ St1 s.heap.objs.size 0 h' ∧ St2 (s.heap.objs.size + 1) 0 h' :=
    ⟨hzip, hTI, ⟨_, _, hTO⟩, S1 _ _ g1 (B1.keeps _ _ h1 hk), S2 _ _ g2 (B2.keeps _ _ h2 hk)⟩
  have l1 : its.length = ks.length := by have := r1.length; rw [List.length_map] at this; exact this.symm
  have l2 : its2.length = ys.length := r2.length.symm
  have hn : min its.toArray.size its2.toArray.size = ks.length := by rw [List.size_toArray, List.size_toArray, l1, l2, hl, Nat.min_self]
  have hc : PairsHave (mixKind X.prog X.w) (min its.toArray.size its2.toArray.size) (fun i k v => its.toArray[i]? = some k ∧ its2.toArray[i]? = some v) (ks.zip its2) := by
    refine ⟨by rw [hn, List.length_zip, l2, hl, Nat.min_self], fun i key v ⟨e1, e2⟩ => ?_⟩
    have e1 : its[i]? = some key := by simpa using e1
    have e2 : its2[i]? = some v := by simpa using e2
    have hi : i < ks.length := by rw [← l1]; exact (List.getElem?_eq_some_iff.mp e1).1
    have hki : (ks.map kV)[i]? = some (kV ks[i]) := by rw [List.getElem?_map, List.getElem?_eq_getElem hi]; rfl
    obtain ⟨u, hu, ru⟩ := r1.get hki
    rw [e1] at hu
    cases hu
    refine ⟨ks[i], ?_, kV_is (P := X.prog) (w := X.w) ru⟩
    have hi2 : i < its2.length := (List.getElem?_eq_some_iff.mp e2).1
    rw [List.getElem?_eq_getElem (by rw [List.length_zip]; omega), List.getElem_zip]
    have := (List.getElem?_eq_some_iff.mp e2).2
    rw [this]
  refine PySem.call_dict_pairs (knd := mixKind X.prog X.w) P n1 ok hc (by rw [hn, ← l1]; exact hz) fun h'' tk hd hk2 => ?_
  show EP X pins σ Q (.ref h'.objs.size) _
  have keep : ∀ c o, s.heap.get? c = some o → h''.get? c = some o := fun c o e => by
    have hlt : c < s.heap.objs.size := Heap.lt_size e
    exact hk2 c o (fun z => by
      have : c = s.heap.objs.size + 4 ∨ c = s.heap.objs.size + 3 ∨ c = s.heap.objs.size ∨ c = s.heap.objs.size + 1 := by simpa using z
      refine absurd hlt (Nat.not_lt.mpr ?_)
      rcases this with z | z | z | z
      · rw [z]; exact Nat.le_add_right _ _
      · rw [z]; exact Nat.le_add_right _ _
      · rw [z]; exact Nat.le_refl _
      · rw [z]; exact Nat.le_add_right _ _) (hk c o e)
  have hle : s.heap.objs.size ≤ h'.objs.size := by rw [hsz]; omega
  have hm : (h'.objs.size == sysModules) = false := beq_eq_false_iff_ne.mpr (Nat.ne_of_gt (Nat.lt_of_lt_of_le I.big hle))
  have hlen : (mergeK [] (ks.zip ys)).length ≤ sizeLine := by
    refine Nat.le_trans (length_mergeK _ []) ?_
    rw [List.length_nil, Nat.zero_add, List.length_zip]
    omega
  exact ⟨.ref h'.objs.size, upd H h'.objs.size (.dK (mergeK [] (ks.zip ys))), I.laid (t' := tk) keep hle (show ObjOk X.prog X.w _ _ _ (.dK (mergeK [] (ks.zip ys))) from ⟨hlen, hm, merged [] (ks.zip its2), KV.merge (kv_zip r2) .nil, hd⟩), rfl, q _ (I.hok.fresh hle)⟩
theorem pe_dictZip {e e2 : Expr} {ta : TA} {p p2 pos pos2 : Pos} (hcalm : X.calm = true) (hg : Gl X "dict") (hm : X.mg "dict" = none) (hgz : Gl X "zip") (hmz : X.mg "zip" = none) (ha : PA X [e, e2] ta)
    (he : starEach [.Call (.Name "zip" p2) [e, e2] [] pos2] X.env = (false, eval (.Call (.Name "zip" p2) [e, e2] [] pos2) X.env) :: starEach [] X.env := by rfl)
    (hs : starEach [e, e2] X.env = (false, eval e X.env) :: starEach [e2] X.env := by rfl) (hpl : (backTo pos2 (starEach [e2] X.env)).any (·.1) = false := by rfl) :
    PE X (.Call (.Name "dict" p) [.Call (.Name "zip" p2) [e, e2] [] pos2] [] pos) (tDictZip X.K ta) := by
  refine ⟨fun pins s σ H Q I h => ?_⟩
  refine wpAny_Call_Name_kw (ld_blt I hg hm PyProof.Rows.boot_dict ?_)
  refine PyProof.Rows.callWith_type1 ?_ he rfl
  rw [he]
  refine Calls.spliced_cons ?_
  refine Call_ (ld_blt I hgz hmz PyProof.Rows.boot_zip (PyProof.Rows.callWith_type1 (thn (ha.run pos2 pins s σ H _ I h) fun us s1 ⟨vs, H1, I1, r1, q1⟩ => ?_) hs hpl))
  obtain ⟨a, b, ks, ys, rfl, hqx, hqy, hl, q⟩ := q1
  cases r1 with
  | cons r rr =>
    cases rr with
    | cons r' rr =>
      cases rr
      cases r
      cases r'
      obtain ⟨its, rv, p1, hz⟩ := I1.tuple hqx
      rw [rv.length] at hz
      have isT : s1.heap.IsTuple a its.toArray := p1
      have la : a < s1.heap.objs.size := let ⟨_, z, _⟩ := isT; Heap.lt_size z
      have d1 : ∀ i, a ≠ i → ∀ A : Around, A.handled = none → Draws X.prog X.w A i [i, a] its.toArray.size (fun i v => its.toArray[i]? = some v) (fun k h => h.IsTupleIter i a k ∧ h.IsTuple a its.toArray) := fun i hn A hA => Draws.tuple hA i a hn its.toArray
      rcases hqy with hqy | hqy
      · obtain ⟨its2, rv2, p2, _⟩ := I1.list hqy
        have lb : b < s1.heap.objs.size := p2.lt
        exact dictZip_run hcalm I1 (begins_tuple a its.toArray) (begins_list b its2.toArray) isT p2.isList la lb d1 (fun i hn A hA => Draws.list hA i b hn its2.toArray)
          (fun i h g x => ⟨⟨_, g, rfl, rfl⟩, x⟩) (fun i h g x => ⟨⟨_, g, rfl, rfl⟩, x⟩)
          (fun j i h ⟨⟨o, ho, _⟩, ⟨o2, ho2, _⟩⟩ c hc => by
            rcases List.mem_cons.mp hc with rfl | hc
            · exact ⟨o, ho⟩
            · rw [List.mem_singleton.mp hc]; exact ⟨o2, ho2⟩)
          (fun j i h ⟨⟨o, ho, _⟩, ⟨o2, ho2, _⟩⟩ c hc => by
            rcases List.mem_cons.mp hc with rfl | hc
            · exact ⟨o, ho⟩
            · rw [List.mem_singleton.mp hc]; exact ⟨o2, ho2⟩) rv rv2 hl hz q
      · obtain ⟨its2, rv2, p2, _⟩ := I1.tuple hqy
        have isT2 : s1.heap.IsTuple b its2.toArray := p2
        have lb : b < s1.heap.objs.size := let ⟨_, z, _⟩ := isT2; Heap.lt_size z
        exact dictZip_run hcalm I1 (begins_tuple a its.toArray) (begins_tuple b its2.toArray) isT isT2 la lb d1 (fun i hn A hA => Draws.tuple hA i b hn its2.toArray)
          (fun i h g x => ⟨⟨_, g, rfl, rfl⟩, x⟩) (fun i h g x => ⟨⟨_, g, rfl, rfl⟩, x⟩)
          (fun j i h ⟨⟨o, ho, _⟩, ⟨o2, ho2, _⟩⟩ c hc => by
            rcases List.mem_cons.mp hc with rfl | hc
            · exact ⟨o, ho⟩
            · rw [List.mem_singleton.mp hc]; exact ⟨o2, ho2⟩)
          (fun j i h ⟨⟨o, ho, _⟩, ⟨o2, ho2, _⟩⟩ c hc => by
            rcases List.mem_cons.mp hc with rfl | hc
            · exact ⟨o, ho⟩
            · rw [List.mem_singleton.mp hc]; exact ⟨o2, ho2⟩) rv rv2 hl hz q
end
end Gd

/-! dict(t), t a tuple of pairs that is known to its object (dict() asks it for keys). -/
namespace Gd
open PySem PySem.Spec PyProof.Rows L2 Evl Pd
/-- (a, b, ..): known to the object -/
def tTupF (t : TA) : TE := fun σ H Q => t σ H fun xs H1 => xs.length ≤ sizeLine ∧ ∀ p us, Vals xs us → H1 p = none → Q (.ref p) (upd H1 p (.frz { cls := .type "tuple", data := .seq us.toArray } (.tup xs)))
section
variable {X : Cx}
theorem pe_tupF {es : List Expr} {t : TA} {pos : Pos} {x1} (h : PA X es t) : PE X (.Tuple es x1 pos) (tTupF t) := by
  refine ⟨fun pins s σ H Q I hq => ?_⟩
  refine wpAny_Tuple_spliced (thn (h.run pos pins s σ H _ I hq) fun us s1 ⟨xs, H1, I1, r, z, q⟩ => ⟨by rw [← r.length]; exact z, ?_⟩)
  have hf : H1 s1.heap.objs.size = none := I1.hok.fresh (Nat.le_refl _)
  refine ⟨.ref s1.heap.objs.size, upd H1 s1.heap.objs.size (.frz { cls := .type "tuple", data := .seq us.toArray } (.tup xs)), I1.laid (t' := s1.toks) (fun b u e => Heap.get?_push_of_some _ e) (Nat.le_refl _) ?_, rfl, q _ us r hf⟩
  exact ⟨Heap.get?_push_size _ rfl, z, us, r, ⟨_, Heap.get?_push_size _ rfl, rfl, _, rfl⟩⟩
theorem pairs_of2 {pins : List (Addr × Obj)} {σ : L2.St} {H : Hp} {s : Shared} (I : Inv X pins σ H s) : ∀ {ps : List Addr} {kvs : List (Key × V)}, Paired (fun p kv => SqT X.K H p [kV kv.1, kv.2]) ps kvs →
    ∃ (prs : List (Key × Value)) (us : List Value), KV kvs prs ∧ prs.length = ps.length ∧ us.length = ps.length ∧ ∀ (j : Nat) (q : Key × Value) (u : Value), prs[j]? = some q → us[j]? = some u → ∃ b : Addr, ps[j]? = some b ∧ IsTup s.heap b #[u, q.2] ∧ keyIs q.1 u = true
  | _, _, .nil => ⟨[], [], .nil, rfl, rfl, fun j q u e => by simp at e⟩
  | _, _, .cons (a := p) (b := kv) h t => by
    obtain ⟨prs, us, r, hl, hl2, hp⟩ := pairs_of2 I t
    obtain ⟨its, rv, ht, _⟩ := I.tuple h
    obtain ⟨u, y, ei, ru, ry⟩ := vals2 rv
    subst ei
    refine ⟨(kv.1, y) :: prs, u :: us, .cons ⟨rfl, ry⟩ r, by rw [List.length_cons, List.length_cons, hl], by rw [List.length_cons, List.length_cons, hl2], fun j q u' e e' => ?_⟩
    cases j with
    | zero =>
      cases e
      cases e'
      exact ⟨p, rfl, ht, kV_is (P := X.prog) (w := X.w) ru⟩
    | succ j =>
      obtain ⟨b, e1, e2, e3⟩ := hp j q u' (by simpa using e) (by simpa using e')
      exact ⟨b, by simpa using e1, e2, e3⟩
def rDictT (K : PySem.W.Frag) : List V → Hp → VK → Prop := fun xs H Q => ∃ (a : Addr) (o : Obj) (ps : List Addr) (kvs : List (Key × V)), xs = [.ref a] ∧ H a = some (.frz o (.tup (ps.map V.ref))) ∧ o.cls = .type "tuple" ∧ o.dict = none ∧
  Paired (fun p kv => SqT K H p [kV kv.1, kv.2]) ps kvs ∧ ∀ p, H p = none → Q (.ref p) (upd H p (.dK (mergeK [] kvs)))
theorem call_dictT (hcalm : X.calm = true) : CallR X (.type "dict") (rDictT X.K) := by
  rintro pins s σ H xs us Q I r ⟨a, o, ps, kvs, rfl, ha, hc, hd, hp, q⟩
  obtain ⟨u, rfl, rx⟩ := vals1 r
  cases (show u = Value.ref a from rx)
  have ok : ObjOk X.prog X.w H s.heap a (.frz o (.tup (ps.map V.ref))) := I.hok a _ ha
  obtain ⟨hget, hz, its, rv, o', ho', _, n, hdat⟩ := ok
  rw [hget] at ho'
  cases ho'
  have ei := refs_at rv
  subst ei
  rw [List.length_map] at hz
  obtain ⟨prs, us, rel, hl, hl2, hpr⟩ := pairs_of2 I hp
  have hlz : (us.zip (prs.map (·.2))).length = ps.length := by rw [List.length_zip, List.length_map, hl, hl2, Nat.min_self]
  have items : PairItems s.heap (ps.map Value.ref).toArray (fun j => ps.getD j 0) (us.zip (prs.map (·.2))) := by
    refine ⟨by rw [hlz]; simp, fun j k v e => ?_⟩
    obtain ⟨e1, e2⟩ := List.getElem?_zip_eq_some.mp e
    rw [List.getElem?_map] at e2
    cases e3 : prs[j]? with
    | none => rw [e3] at e2; cases e2
    | some qq =>
      rw [e3] at e2
      cases e2
      obtain ⟨b, hb, ht, _⟩ := hpr j qq k e3 e1
      have hg : ps.getD j 0 = b := by rw [List.getD_eq_getElem?_getD, hb]; rfl
      refine ⟨?_, ?_⟩
      · show (ps.map Value.ref).toArray[j]? = some (Value.ref (ps.getD j 0))
        rw [hg]
        simp [hb]
      · show PairAt s.heap (ps.getD j 0) k qq.2
        rw [hg]
        exact .inl ht
  have P := PairArg.tuple (prog := X.prog) (w := X.w) a (ps.map Value.ref).toArray (fun j => ps.getD j 0) (us.zip (prs.map (·.2)))
  have hcs : PairsHave (mixKind X.prog X.w) (us.zip (prs.map (·.2))).length (PairRel (us.zip (prs.map (·.2)))) prs := by
    refine ⟨by rw [hlz, hl], fun i key v e => ?_⟩
    obtain ⟨e1, e2⟩ := List.getElem?_zip_eq_some.mp (show (us.zip (prs.map (·.2)))[i]? = some (key, v) from e)
    rw [List.getElem?_map] at e2
    cases e3 : prs[i]? with
    | none => rw [e3] at e2; cases e2
    | some qq =>
      rw [e3] at e2
      cases e2
      obtain ⟨b, hb, ht, hk⟩ := hpr i qq key e3 e1
      exact ⟨qq.1, rfl, hk⟩
  refine PySem.call_dict_pairs (knd := mixKind X.prog X.w) P (I.ok.hd hcalm) ⟨⟨o, n, hget, hc, hd, hdat⟩, items⟩ hcs (by rw [hlz]; exact hz) fun h' tk hd' k => ?_
  have hm : (s.heap.objs.size == sysModules) = false := beq_eq_false_iff_ne.mpr (Nat.ne_of_gt I.big)
  have hlen : (mergeK [] kvs).length ≤ sizeLine := by
    refine Nat.le_trans (length_mergeK kvs []) ?_
    rw [List.length_nil, Nat.zero_add, rel.length, hl]
    exact hz
  exact ⟨.ref s.heap.objs.size, upd H s.heap.objs.size (.dK (mergeK [] kvs)), I.laid (t' := tk) (fun b o e => k b o List.not_mem_nil e) (Nat.le_refl _) (show ObjOk X.prog X.w _ _ _ (.dK (mergeK [] kvs)) from ⟨hlen, hm, merged [] prs, KV.merge rel .nil, hd'⟩), rfl, q _ (I.hok.fresh (Nat.le_refl _))⟩
end
/-- a module: a tuple of (name, data), known to its object -/
def ModAt (K : PySem.W.Frag) (H : Hp) (m : Addr) (mods : List (Str × PyData)) : Prop := ∃ (o : Obj) (ps : List Addr), H m = some (.frz o (.tup (ps.map V.ref))) ∧ o.cls = .type "tuple" ∧ o.dict = none ∧ PVs K H (ps.map V.ref) (mods.map fun e => .tuple [.str e.1, e.2])
theorem ModAt.mono {K : PySem.W.Frag} {H H' : Hp} {m : Addr} {mods : List (Str × PyData)} (h : ModAt K H m mods) (e : ∀ o u, H m = some (.frz o u) → H' m = some (.frz o u)) (t : Tx H H') : ModAt K H' m mods :=
  let ⟨o, ps, h1, h2, h3, h4⟩ := h
  ⟨o, ps, e _ _ h1, h2, h3, h4.tx t⟩
theorem ModAt.ex {K : PySem.W.Frag} {H H' : Hp} {m : Addr} {mods : List (Str × PyData)} (h : ModAt K H m mods) (e : Ex H H') : ModAt K H' m mods := h.mono (fun _ _ x => e _ _ x) (tx_of e)
section
variable {K : PySem.W.Frag} {H H' : Hp} {σ : L2.St} {ta te : TE}
theorem mod_pairs : ∀ {mods : List (Str × PyData)} {ps : List Addr}, PVs K H (ps.map V.ref) (mods.map fun e => .tuple [.str e.1, e.2]) → ∃ kvs : List (Key × V), Paired (fun p (kv : Key × V) => SqT K H p [kV kv.1, kv.2]) ps kvs ∧ kvs.length = mods.length ∧ ∀ (i : Nat) (e : Str × PyData), mods[i]? = some e → ∃ v, kvs[i]? = some (Sum.inr e.1, v) ∧ PV K H v e.2
  | [], ps, h => by
    cases ps with
    | nil => exact ⟨[], .nil, rfl, fun i e h => by cases h⟩
    | cons p ps => cases h
  | e :: mods, ps, h => by
    cases ps with
    | nil => cases h
    | cons p ps =>
      cases h with
      | cons a b =>
        obtain ⟨p', xs, e', hx, px⟩ := pv_tup a
        cases e'
        obtain ⟨kvs, h1, h2, h3⟩ := mod_pairs (mods := mods) (ps := ps) b
        cases px with
        | cons p1 px => cases px with
          | cons p2 px =>
            cases px
            cases pv_str p1
            refine ⟨(Sum.inr e.1, _) :: kvs, .cons hx.sq h1, by simp [h2], fun i e2 hi => ?_⟩
            cases i with
            | zero =>
              cases hi
              exact ⟨_, rfl, p2⟩
            | succ i => exact h3 i e2 (by simpa using hi)
/-- dict(module)[name] -/
theorem ep_modGet {x : Str} {m : Addr} {mods : List (Str × PyData)} {d : PyData} {i : Nat} (h : Ev ta σ H (.ref m)) (hm : ModAt K H m mods) (hy : ∀ H1, Ev te σ H1 (.str x)) (hi : mods[i]? = some (x, d)) (hn : (mods.map (·.1)).Nodup) : EvP K (tDGet (tCB (rDictT K) (tCons ta tNil)) te) σ H d := fun H1 e Q q =>
  h H1 e _ fun H2 e2 => by
    obtain ⟨o, ps, h1, h2, h3, h4⟩ := hm.ex (e.trans e2)
    obtain ⟨kvs, hp, hl, hk⟩ := mod_pairs h4
    refine ⟨m, o, ps, kvs, rfl, h1, h2, h3, hp, fun p hp0 => ?_⟩
    obtain ⟨v, hv, pv⟩ := hk i _ hi
    have en : Ex H2 (upd H2 p (.dK (mergeK [] kvs))) := Ex.new hp0
    have keys : kvs.map (·.1) = mods.map fun e => (Sum.inr e.1 : Key) := by
      refine List.ext_getElem? fun j => ?_
      rw [List.getElem?_map, List.getElem?_map]
      cases hj : mods[j]? with
      | none =>
        rw [List.getElem?_eq_none_iff.mpr (by rw [hl]; exact List.getElem?_eq_none_iff.mp hj)]
        rfl
      | some e =>
        obtain ⟨v, hv, _⟩ := hk j e hj
        rw [hv]
        rfl
    have hnk : (kvs.map (·.1)).Nodup := by
      rw [keys]
      have : (mods.map fun e => (Sum.inr e.1 : Key)) = (mods.map (·.1)).map fun s => (Sum.inr s : Key) := by rw [List.map_map]; rfl
      rw [this]
      exact List.Pairwise.map _ (fun a b hne e => hne (Sum.inr.inj e)) hn
    have hmerge : ∀ {more acc : List (Key × V)}, ((acc ++ more).map (·.1)).Nodup → mergeK acc more = acc ++ more := by
      intro more
      induction more with
      | nil => intro acc _; simp [mergeK]
      | cons q more ih =>
        intro acc h
        obtain ⟨k, v⟩ := q
        show mergeK (putK acc k v) more = _
        rw [List.map_append] at h
        have hk : k ∉ acc.map (·.1) := fun z => (List.nodup_append.mp h).2.2 k z k (by simp) rfl
        have hput : putK acc k v = acc ++ [(k, v)] := by
          unfold putK
          rw [if_neg]
          intro z
          obtain ⟨p, hp, e⟩ := List.any_eq_true.mp z
          exact hk (List.mem_map.mpr ⟨p, hp, of_decide_eq_true e⟩)
        rw [hput, ih (by rw [List.append_assoc, List.map_append]; exact h), List.append_assoc]
        rfl
    have hval : ∀ {kvs : List (Key × V)} {j : Nat}, (kvs.map (·.1)).Nodup → kvs[j]? = some (Sum.inr x, v) → valV kvs (Sum.inr x) = some v := by
      intro kvs
      induction kvs with
      | nil => intro j _ h; cases h
      | cons q kvs ih =>
        intro j hn h
        rw [List.map_cons] at hn
        obtain ⟨n1, n2⟩ := List.nodup_cons.mp hn
        cases j with
        | zero =>
          cases h
          rw [valV_pos rfl]
        | succ j =>
          have h' : kvs[j]? = some (Sum.inr x, v) := by simpa using h
          have hne : q.1 ≠ Sum.inr x := fun z => n1 (z ▸ List.mem_map.mpr ⟨_, List.mem_of_getElem? h', rfl⟩)
          rw [valV_neg hne]
          exact ih n2 h'
    refine hy _ _ (Ex.refl _) _ fun H3 e3 => ⟨p, v, rfl, ?_, q v H3 ((e2.trans en).trans e3) (pv.ex (en.trans e3))⟩
    have h5 : H3 p = some (.dK kvs) := by
      have := e3 _ _ (upd_same (H := H2) (a := p) (o := .dK (mergeK [] kvs)))
      rw [hmerge (acc := []) (by rw [List.nil_append]; exact hnk), List.nil_append] at this
      exact this
    rw [← hval hnk hv]
    exact DGet.k (k := (Sum.inr x : Key)) h5
end
end Gd

/-! Runs that tell what fuel is left. Plain Lean. -/
namespace K36
open PySem L2 Pd Gd
def go3 (w : Nat) (g : Gr) : Nat → Nat → CS → Nat → Option (Nat × Mem × Nat)
  | 0, _, _, _ => none
  | gas + 1, k, s, fuel => match g[k]? with
    | none => none
    | some b => if fuel < calls b.steps then none else match b.fin with
      | .ret o => some (rdO w (execAll w s b.steps).e o, (execAll w s b.steps).m, fuel - calls b.steps)
      | .jump j => if fuel - calls b.steps = 0 then none else go3 w g gas j (execAll w s b.steps) (fuel - calls b.steps - 1)
      | .fork o i j => if fuel - calls b.steps = 0 then none else go3 w g gas (if rdO w (execAll w s b.steps).e o > 0 then i else j) (execAll w s b.steps) (fuel - calls b.steps - 1)
theorem go_go3 (w : Nat) (g : Gr) : ∀ (gas k : Nat) (s : CS) (fuel : Nat), go w g gas k s fuel = (go3 w g gas k s fuel).map fun r => (r.1, r.2.1)
  | 0, _, _, _ => rfl
  | gas + 1, k, s, fuel => by
    unfold go go3
    cases g[k]? with
    | none => rfl
    | some b =>
      dsimp only
      by_cases h : fuel < calls b.steps
      · rw [if_pos h, if_pos h]
        rfl
      · rw [if_neg h, if_neg h]
        cases b.fin with
        | ret o => rfl
        | jump j =>
          dsimp only
          by_cases h0 : fuel - calls b.steps = 0
          · rw [if_pos h0, if_pos h0]
            rfl
          · rw [if_neg h0, if_neg h0]
            exact go_go3 w g gas _ _ _
        | fork o i j =>
          dsimp only
          by_cases h0 : fuel - calls b.steps = 0
          · rw [if_pos h0, if_pos h0]
            rfl
          · rw [if_neg h0, if_neg h0]
            exact go_go3 w g gas _ _ _
def calG : Gr := [⟨[.store (.num 1) (.nm .a)], .ret (.nm .a)⟩]
theorem go3_cal {w : Nat} (hw : Wd w) (gas : Nat) (s : CS) (fuel : Nat) : go3 w calG (gas + 1) 0 s fuel = some (s.e .a, s.m.set 1 (s.e .a), fuel) := by
  have h1 : (1 : Nat) % 2 ^ w % 8 = 1 := by rcases hw.cases with rfl | rfl | rfl | rfl <;> decide
  show (if fuel < 0 then none else some (s.e .a, s.m.set (1 % 2 ^ w % 8) (s.e .a), fuel - 0)) = _
  rw [if_neg (Nat.not_lt_zero _), h1]
  rfl
theorem calls_app (p q : List Stp) : calls (p ++ q) = calls p + calls q := by
  unfold calls
  rw [List.filter_append, List.length_append]
theorem calls_one (s : Stp) : calls [s] = if isCall s = true then 1 else 0 := by cases s <;> rfl
theorem calls_take {steps : List Stp} {i : Nat} {s : Stp} (h : steps[i]? = some s) : calls (steps.take (i + 1)) = calls (steps.take i) + if isCall s = true then 1 else 0 := by
  rw [List.take_add_one, h, calls_app]
  exact congrArg _ (calls_one s)
theorem calls_le (steps : List Stp) (i : Nat) : calls (steps.take i) ≤ calls steps := by
  conv => rhs; rw [← List.take_append_drop i steps]
  rw [calls_app]
  omega
theorem calls_none {steps : List Stp} (h : ∀ s ∈ steps, isCall s = false) : calls steps = 0 := by
  induction steps with
  | nil => rfl
  | cons s rest ih =>
    have : calls (s :: rest) = calls [s] + calls rest := calls_app [s] rest
    rw [this, calls_one, h s List.mem_cons_self, ih fun t ht => h t (List.mem_cons_of_mem _ ht)]
    rfl
theorem exec_take {w : Nat} {s0 : CS} {steps : List Stp} {i : Nat} {s : Stp} (h : steps[i]? = some s) : execAll w s0 (steps.take (i + 1)) = exec w (execAll w s0 (steps.take i)) s := by
  unfold execAll
  rw [List.take_add_one, h, List.foldl_append]
  rfl
/-- all words are words -/
structure SOk (w : Nat) (s : CS) : Prop where
  e : ∀ n, s.e n < 2 ^ w
  len : s.m.length = 8
  m : ∀ x ∈ s.m, x < 2 ^ w
theorem rdO_lt {w : Nat} {s : CS} (h : SOk w s) (o : Opd) : rdO w s.e o < 2 ^ w := by
  cases o with
  | nm n => exact h.e n
  | num i => exact Nat.mod_lt _ (pow_pos2 w)
theorem set_lt {w : Nat} {m : Mem} {i v : Nat} (h : ∀ x ∈ m, x < 2 ^ w) (hv : v < 2 ^ w) : ∀ x ∈ m.set i v, x < 2 ^ w := fun x hx => by
  rcases List.mem_or_eq_of_mem_set hx with z | z
  · exact h x z
  · rw [z]
    exact hv
theorem setE_lt {w : Nat} {e : Env} {n : Nm} {v : Nat} (h : ∀ n, e n < 2 ^ w) (hv : v < 2 ^ w) : ∀ k, setE e n v k < 2 ^ w := fun k => by
  unfold setE
  split
  · exact hv
  · exact h k
theorem sok_exec {w : Nat} (hw : Wd w) {s : CS} (h : SOk w s) (st : Stp) : SOk w (exec w s st) := by
  have hp := pow_pos2 w
  cases st with
  | op v o a b => exact ⟨setE_lt h.e (opX_lt hw o (rdO_lt h a) (rdO_lt h b)), h.len, h.m⟩
  | copy v a => exact ⟨setE_lt h.e (rdO_lt h a), h.len, h.m⟩
  | load v a =>
    refine ⟨setE_lt h.e ?_, h.len, h.m⟩
    rw [List.getD_eq_getElem?_getD]
    cases hg : s.m[rdO w s.e a % 8]? with
    | none => exact hp
    | some x => exact h.m x (List.mem_of_getElem? hg)
  | store a b => exact ⟨h.e, by show (s.m.set _ _).length = 8; rw [List.length_set]; exact h.len, set_lt h.m (rdO_lt h b)⟩
  | call v a => exact ⟨setE_lt h.e (rdO_lt h a), by show (s.m.set _ _).length = 8; rw [List.length_set]; exact h.len, set_lt h.m (rdO_lt h a)⟩
theorem sok_all {w : Nat} (hw : Wd w) : ∀ (steps : List Stp) {s : CS}, SOk w s → SOk w (execAll w s steps)
  | [], _, h => h
  | st :: rest, _, h => sok_all hw rest (sok_exec hw h st)
/-- the names' words at a begin -/
def envOf (ps : List Nm) (ws : List Nat) : Env := fun n => ((ps.zip ws).find? fun p => decide (p.1 = n)).elim 0 (·.2)
theorem envOf_lt {w : Nat} {ps : List Nm} {ws : List Nat} (h : ∀ v ∈ ws, v < 2 ^ w) (n : Nm) : envOf ps ws n < 2 ^ w := by
  unfold envOf
  cases hf : (ps.zip ws).find? fun p => decide (p.1 = n) with
  | none => exact pow_pos2 w
  | some p => exact h _ (List.of_mem_zip (List.mem_of_find?_eq_some hf)).2
/-! ### names in a dict -/
structure EnvK (kvs : List (Key × V)) (e : Env) : Prop where
  nd : (kvs.map (·.1)).Nodup
  nm : Nms (kvs.map (·.1))
  val : ∀ n, valV kvs (nk n) = some (.int (e n : Int)) ∨ (valV kvs (nk n) = none ∧ e n = 0)
theorem EnvK.len {kvs : List (Key × V)} {e : Env} (h : EnvK kvs e) : kvs.length ≤ 5 := by
  have := nms_len h.nm h.nd
  rwa [List.length_map] at this
theorem valV_putK (kvs : List (Key × V)) (k j : Key) (v : V) : valV (putK kvs k v) j = if k = j then some v else valV kvs j := by
  unfold putK
  by_cases hk : (kvs.any fun kv => decide (kv.1 = k)) = true
  · rw [if_pos hk]
    induction kvs with
    | nil => cases hk
    | cons p kvs ih =>
      rw [List.map_cons]
      by_cases e : p.1 = k
      · rw [if_pos e]
        by_cases ej : p.1 = j
        · rw [valV_pos (p := (p.1, v)) ej, if_pos (e.symm.trans ej)]
        · rw [valV_neg (p := (p.1, v)) ej, valV_neg ej, if_neg (fun z => ej (e.trans z))]
          by_cases hk2 : (kvs.any fun kv => decide (kv.1 = k)) = true
          · rw [ih hk2, if_neg (fun z => ej (e.trans z))]
          · have : kvs.map (fun kv => if kv.1 = k then (kv.1, v) else kv) = kvs := by
              refine (List.map_congr_left fun q hq => ?_).trans (List.map_id _)
              rw [if_neg fun z => hk2 (List.any_eq_true.mpr ⟨q, hq, decide_eq_true z⟩)]
              rfl
            rw [this]
      · rw [if_neg e]
        have hk2 : (kvs.any fun kv => decide (kv.1 = k)) = true := by
          rw [List.any_cons, decide_eq_false e, Bool.false_or] at hk
          exact hk
        by_cases ej : p.1 = j
        · rw [valV_pos ej, valV_pos ej, if_neg (fun z => e (ej.trans z.symm))]
        · rw [valV_neg ej, valV_neg ej, ih hk2]
  · rw [if_neg hk]
    induction kvs with
    | nil =>
      by_cases e : k = j
      · rw [if_pos e]
        exact valV_pos (p := (k, v)) e
      · rw [if_neg e]
        exact valV_neg (p := (k, v)) e
    | cons p kvs ih =>
      rw [List.any_cons] at hk
      have h1 : ¬ p.1 = k := fun z => hk (by rw [decide_eq_true z]; rfl)
      have h2 : ¬ (kvs.any fun kv => decide (kv.1 = k)) = true := fun z => hk (by rw [z, Bool.or_true])
      rw [List.cons_append]
      by_cases ej : p.1 = j
      · rw [valV_pos ej, valV_pos ej, if_neg (fun z => h1 (ej.trans z.symm))]
      · rw [valV_neg ej, valV_neg ej, ih h2]
theorem keys_putK (kvs : List (Key × V)) (k : Key) (v : V) : (putK kvs k v).map (·.1) = addK (kvs.map (·.1)) k := by
  unfold putK addK
  by_cases hk : (kvs.any fun kv => decide (kv.1 = k)) = true
  · have hm : k ∈ kvs.map (·.1) := by
      obtain ⟨p, hp, e⟩ := List.any_eq_true.mp hk
      exact List.mem_map.mpr ⟨p, hp, of_decide_eq_true e⟩
    rw [if_pos hk, if_pos hm, List.map_map]
    refine List.map_congr_left fun p _ => ?_
    simp only [Function.comp]
    split <;> rfl
  · have hm : k ∉ kvs.map (·.1) := fun z => by
      obtain ⟨p, hp, e⟩ := List.mem_map.mp z
      exact hk (List.any_eq_true.mpr ⟨p, hp, decide_eq_true e⟩)
    rw [if_neg hk, if_neg hm, List.map_append]
    rfl
theorem EnvK.put {kvs : List (Key × V)} {e : Env} (h : EnvK kvs e) (n : Nm) (v : Nat) : EnvK (putK kvs (nk n) (.int (v : Int))) (setE e n v) where
  nd := by rw [keys_putK]; exact nodup_addK h.nd
  nm := by
    rw [keys_putK]
    exact fun k hk => (mem_addK.mp hk).elim (h.nm k) fun e => ⟨n, e⟩
  val := fun m => by
    rw [valV_putK]
    unfold setE
    by_cases hm : m = n
    · rw [if_pos (by rw [hm]), if_pos hm]
      exact .inl rfl
    · rw [if_neg (fun z => hm (nk_inj z).symm), if_neg hm]
      exact h.val m
theorem env0 {ps : List Nm} {ws : List Nat} (hn : ps.Nodup) (hl : ps.length = ws.length) : EnvK ((ps.map nk).zip (ws.map fun (x : Nat) => V.int (x : Int))) (envOf ps ws) := by
  have keys : ((ps.map nk).zip (ws.map fun (x : Nat) => V.int (x : Int))).map (·.1) = ps.map nk := List.map_fst_zip (by simp [hl])
  refine ⟨by rw [keys]; exact List.Pairwise.map nk (fun a b hne e => hne (nk_inj e)) hn, by rw [keys]; exact fun k hk => let ⟨n, _, e⟩ := List.mem_map.mp hk; ⟨n, e.symm⟩, fun n => ?_⟩
  clear keys
  unfold envOf
  induction ps generalizing ws with
  | nil => exact .inr ⟨rfl, rfl⟩
  | cons p ps ih =>
    cases ws with
    | nil => cases hl
    | cons v ws =>
      rw [List.map_cons, List.map_cons, List.zip_cons_cons, List.zip_cons_cons, List.find?_cons]
      by_cases h : p = n
      · rw [valV_pos (p := (nk p, V.int (v : Int))) (by rw [h]), decide_eq_true h]
        exact .inl rfl
      · rw [valV_neg (p := (nk p, V.int (v : Int))) (fun z => h (nk_inj z)), decide_eq_false h]
        exact ih (List.nodup_cons.mp hn).2 (by simpa using hl)
end K36

namespace K36
open PySem PySem.Spec PyProof.Rows L2 Evl Pd Gd Dk
abbrev sLRead : Stmt := topS 46
theorem scLRead : FnScope ["w", "operand", "own"] ["w", "operand", "own"] (defScope sLRead) := ⟨rfl, rfl, rfl, by decide +kernel, rfl, by decide +kernel, by decide +kernel⟩
/-- the dict of the names' words -/
def EnvAt (H : Hp) (a : Addr) (e : Env) : Prop := ∃ kvs, H a = some (.dK kvs) ∧ EnvK kvs e
theorem EnvAt.ex {H H' : Hp} {a : Addr} {e : Env} (h : EnvAt H a e) (x : Ex H H') : EnvAt H' a e := let ⟨kvs, h1, h2⟩ := h; ⟨kvs, x _ _ h1, h2⟩
def spRead (K : PySem.W.Frag) : Sp := fun vs H Q _ => ∃ (w : Nat) (u : V) (a : Addr) (o : Opd) (e : Env), vs = [.int (w : Int), u, .ref a] ∧ Wd w ∧ PV K H u o.d ∧ EnvAt H a e ∧ ∀ H', Ex H H' → Q (.int (rdO w e o : Int)) H'
section
variable {K : PySem.W.Frag} {H : Hp} {σ : L2.St}
theorem ev_read {tw to ta : TE} {E : XK} {w : Nat} {a : Addr} {o : Opd} {e : Env} (hw : Wd w) (h1 : Ev tw σ H (.int (w : Int))) (h2 : EvP K to σ H o.d) (h3 : Ev ta σ H (.ref a)) (h4 : EnvAt H a e) : Ev (tCall (spRead K) [] E (tCons tw (tCons to (tCons ta tNil)))) σ H (.int (rdO w e o : Int)) := fun H1 x Q q =>
  h1 H1 x _ fun H2 x2 => h2 H2 (x.trans x2) _ fun u H3 x3 pu => h3 H3 ((x.trans x2).trans x3) _ fun H4 x4 => ⟨w, u, a, o, e, rfl, hw, pu.ex x4, h4.ex (((x.trans x2).trans x3).trans x4), fun H5 x5 => q H5 (((x2.trans x3).trans x4).trans x5)⟩
/-- d.get(k, x) -/
theorem ev_dget2 {td ty tx : TE} {a : Addr} {kvs : List (Key × V)} {k : Key} {z : V} (h : Ev td σ H (.ref a)) (hd : H a = some (.dK kvs)) (hy : Ev ty σ H (kV k)) (hz : Ev tx σ H z) : Ev (tDGet2 td ty tx) σ H ((valV kvs k).getD z) := fun H1 e Q q =>
  h H1 e _ fun H2 e2 => ⟨a, rfl, .inl ⟨kvs, .inl (e2 _ _ (e _ _ hd))⟩, hy H2 (e.trans e2) _ fun H3 e3 => hz H3 ((e.trans e2).trans e3) _ fun H4 e4 => ⟨_, DGet.k (((e2.trans e3).trans e4) _ _ (e _ _ hd)), q H4 ((e2.trans e3).trans e4)⟩⟩
end
section
variable {P : Program} {w : World} {K : PySem.W.Frag} {mg : Str → Option Value} {base : Heap}
theorem ok_lread {f : Addr} {fd : FuncData} (F : Fun K "_law_read" "_law_read" sLRead f fd) (ms : mg "isinstance" = none) (mt : mg "str" = none) : FnOk P w K mg base CX0 1 f fd ["w", "operand", "own"] (spRead K) := by
  refine F.ok scLRead (fun vs H Q E h => ?_) (fun cdv A outer s H vs Q E hr h => ?_)
  · obtain ⟨w, u, a, o, e, rfl, _⟩ := h
    rfl
  · obtain ⟨w, u, a, o, e, rfl, hw, pu, ⟨kvs, hk, he⟩, q⟩ := h
    have hu := hu_of hr
    refine ⟨_, pss_one (ps_ret (pe_ifExp (pt_val (pe_callB call_isi (by rfl) ms (by decide +kernel) (pa_cons (pv 1) (pa_cons (pe_bltn (v := .ty "str") (u := .type "str") (by rfl) mt (by decide +kernel) rfl) pa_nil)))) (pe_dget2 hu (pv 2) (pv 1) pe_int ⟨by rfl, by rfl, by rfl, by rfl⟩)
      (pe_op op_sub (pv 1) (pe_op op_mul (pe_op op_shl pe_int (pv 0)) (pe_op op_fdivN (pv 1) (pe_op op_shl pe_int (pv 0))))))), ?_⟩
    refine s_ret (v := .int (rdO w e o : Int)) (ev_if (et_B (ev_isS (ep_var rfl pu) ev_c)) (fun hb => ?_) (fun hb => ?_)) fun H1 e1 => q H1 e1
    · cases o with
      | num i => cases hb
      | nm n =>
        cases pv_str pu
        refine ev_is (ev_dget2 (k := nk n) (ev_var rfl) hk (ev_var rfl) ev_c) ?_
        rcases he.val n with h | ⟨h, h0⟩
        · rw [h]
          rfl
        · rw [h]
          show V.int 0 = V.int ((e n : Nat) : Int)
          rw [h0]
          rfl
    · cases o with
      | nm n => cases hb
      | num i =>
        cases pv_int pu
        refine ev_is (modL hw (ev_var rfl) (ev_var rfl) (shl1 (ev_var rfl) (w_le hw)) (shl1 (ev_var rfl) (w_le hw))) ?_
        show V.int _ = V.int ((i.val % 2 ^ w : Nat) : Int)
        simp
end
end K36

/-! The state of a run in the heap. -/
namespace K36
open PySem PySem.Spec PyProof.Rows L2 Evl Pd Gd Dk
def iV (l : List Nat) : List V := l.map fun (x : Nat) => V.int (x : Int)
theorem iV_len (l : List Nat) : (iV l).length = l.length := List.length_map _
theorem iV_set (l : List Nat) (i v : Nat) : (iV l).set i (.int (v : Int)) = iV (l.set i v) := by
  unfold iV
  rw [List.map_set]
theorem iV_app (l m : List Nat) : iV l ++ iV m = iV (l ++ m) := by
  unfold iV
  rw [List.map_append]
theorem iV_at {l : List Nat} {i x : Nat} (h : l[i]? = some x) : (iV l)[i]? = some (.int (x : Int)) := by
  unfold iV
  rw [List.getElem?_map, h]
  rfl
structure StAt (H : Hp) (st cl : Addr) (fu : Nat) (mem : Mem) : Prop where
  s : H st = some (.lst [.int (fu : Int), .ref cl])
  c : H cl = some (.lst (iV mem))
theorem StAt.ex {H H' : Hp} {st cl : Addr} {fu : Nat} {mem : Mem} (h : StAt H st cl fu mem) (e : Ex H H') : StAt H' st cl fu mem := ⟨e _ _ h.s, e _ _ h.c⟩
/-- the places of a run: its state, its cells, its own names, its trace -/
structure Pl (H : Hp) (st cl oa tr : Addr) : Prop where
  sc : st ≠ cl
  os : oa ≠ st
  oc : oa ≠ cl
  ts : tr ≠ st
  tc : tr ≠ cl
  ot : oa ≠ tr
  fo : H oa = none
  ft : H tr = none
structure GI (H H' : Hp) (st cl oa tr : Addr) (s : CS) (fu : Nat) (ks : List Nat) : Prop where
  kp : Exl2 st cl H H'
  tx : Tx H H'
  sa : StAt H' st cl fu s.m
  ea : EnvAt H' oa s.e
  ta : H' tr = some (.lst (iV ks))
section
variable {H H' H2 : Hp} {st cl oa tr : Addr} {s : CS} {fu : Nat} {ks : List Nat}
theorem GI.ex (g : GI H H' st cl oa tr s fu ks) (e : Ex H' H2) : GI H H2 st cl oa tr s fu ks := ⟨g.kp.trans (exl2_of e), g.tx.trans (tx_of e), g.sa.ex e, g.ea.ex e, e _ _ g.ta⟩
theorem Exl2.mut {c d p : Addr} {H H' : Hp} {o : HO} (e : Exl2 c d H H') (h : H p = none) : Exl2 c d H (upd H' p o) := fun a u h1 n m => by
  rw [upd_ne (fun z => by rw [← z, h1] at h; cases h)]
  exact e a u h1 n m
theorem GI.putE {kvs : List (Key × V)} {n : Nm} {v : Nat} (g : GI H H' st cl oa tr s fu ks) (p : Pl H st cl oa tr) (hk : H' oa = some (.dK kvs)) (he : EnvK kvs s.e) : GI H (upd H' oa (.dK (putK kvs (nk n) (.int (v : Int))))) st cl oa tr ⟨setE s.e n v, s.m⟩ fu ks where
  kp := g.kp.mut p.fo
  tx := g.tx.trans (Tx.updD hk)
  sa := ⟨by rw [upd_ne (Ne.symm p.os)]; exact g.sa.s, by rw [upd_ne (Ne.symm p.oc)]; exact g.sa.c⟩
  ea := ⟨_, upd_same, he.put n v⟩
  ta := by rw [upd_ne (Ne.symm p.ot)]; exact g.ta
theorem GI.putF {f2 : Nat} (g : GI H H' st cl oa tr s fu ks) (p : Pl H st cl oa tr) : GI H (upd H' st (.lst [.int (f2 : Int), .ref cl])) st cl oa tr s f2 ks where
  kp := g.kp.trans Exl2.one
  tx := g.tx.trans (Tx.updL g.sa.s)
  sa := ⟨upd_same, by rw [upd_ne (Ne.symm p.sc)]; exact g.sa.c⟩
  ea := let ⟨kvs, h1, h2⟩ := g.ea; ⟨kvs, by rw [upd_ne p.os]; exact h1, h2⟩
  ta := by rw [upd_ne p.ts]; exact g.ta
theorem GI.putM {m : Mem} (g : GI H H' st cl oa tr s fu ks) (p : Pl H st cl oa tr) : GI H (upd H' cl (.lst (iV m))) st cl oa tr ⟨s.e, m⟩ fu ks where
  kp := g.kp.trans Exl2.two
  tx := g.tx.trans (Tx.updL g.sa.c)
  sa := ⟨by rw [upd_ne p.sc]; exact g.sa.s, upd_same⟩
  ea := let ⟨kvs, h1, h2⟩ := g.ea; ⟨kvs, by rw [upd_ne p.oc]; exact h1, h2⟩
  ta := by rw [upd_ne p.tc]; exact g.ta
theorem GI.putT {k2 : List Nat} (g : GI H H' st cl oa tr s fu ks) (p : Pl H st cl oa tr) : GI H (upd H' tr (.lst (iV k2))) st cl oa tr s fu k2 where
  kp := g.kp.mut p.ft
  tx := g.tx.trans (Tx.updL g.ta)
  sa := ⟨by rw [upd_ne (Ne.symm p.ts)]; exact g.sa.s, by rw [upd_ne (Ne.symm p.tc)]; exact g.sa.c⟩
  ea := let ⟨kvs, h1, h2⟩ := g.ea; ⟨kvs, by rw [upd_ne p.ot]; exact h1, h2⟩
  ta := upd_same
/-- a call within -/
theorem GI.call {f2 : Nat} {m : Mem} (g : GI H H' st cl oa tr s fu ks) (p : Pl H st cl oa tr) (x : Exl2 st cl H' H2) (t : Tx H' H2) (h : StAt H2 st cl f2 m) : GI H H2 st cl oa tr ⟨s.e, m⟩ f2 ks where
  kp := g.kp.trans x
  tx := g.tx.trans t
  sa := h
  ea := let ⟨kvs, h1, h2⟩ := g.ea; ⟨kvs, x _ _ h1 p.os p.oc, h2⟩
  ta := x _ _ g.ta p.ts p.tc
end
/-- what a run tells -/
def GoR (H : Hp) (st cl : Addr) (Q : VK) : Option (Nat × Mem × Nat) → Prop
  | none => ∀ H', Exl2 st cl H H' → Tx H H' → Q .non H'
  | some (v, mem, fu) => ∀ t tr ks H', Exl2 st cl H H' → Tx H H' → H' t = some (.tup [.int (v : Int), .ref tr]) → H' tr = some (.lst (iV ks)) → ks.length ≤ 2000 → StAt H' st cl fu mem → Q (.ref t) H'
def noCalls (g : Gr) : Prop := ∀ b ∈ g, ∀ s ∈ b.steps, isCall s = false
def spGo (K : PySem.W.Frag) (c : Bool) : Sp := fun vs H Q _ => ∃ (m a st cl : Addr) (w : Nat) (x : Str) (mods : List (Str × PyData)) (i : Nat) (ps : List Nm) (g : Gr) (ws : List Nat) (fu : Nat) (mem : Mem),
  vs = [.ref m, .int (w : Int), .str x, .ref a, .ref st] ∧ Wd w ∧ ModAt K H m mods ∧ mods[i]? = some (x, gD ps g) ∧ (mods.map (·.1)).Nodup ∧ ps.Nodup ∧ ps.length = ws.length ∧ (SqL K H a (iV ws) ∨ SqT K H a (iV ws)) ∧
  StAt H st cl fu mem ∧ st ≠ cl ∧ (∀ v ∈ ws, v < 2 ^ w) ∧ mem.length = 8 ∧ (∀ v ∈ mem, v < 2 ^ w) ∧ GGood g ∧ 0 < g.length ∧ fu ≤ 1000 ∧
  (noCalls g ∨ (c = true ∧ ∃ j : Nat, mods[j]? = some (("f" : Str), gD [.a] calG))) ∧ GoR H st cl Q (go3 w g (fu + 1) 0 ⟨envOf ps ws, mem⟩ fu)
section
variable {K : PySem.W.Frag} {H H' : Hp} {σ : L2.St} {D : Ends} {tz : L2.TS} {ta te ty tv tw to : TE} {E : XK} {st cl oa tr : Addr} {s : CS} {fu : Nat} {ks : List Nat}
/-- own[name] = word -/
theorem s_putE (K : PySem.W.Frag) {n : Nm} {v : Nat} (g : GI H H' st cl oa tr s fu ks) (p : Pl H st cl oa tr) (hv : Ev tv σ H' (.int (v : Int))) (ha : ∀ H1, Ex H' H1 → Ev ta σ H1 (.ref oa)) (hy : ∀ H1, Ex H' H1 → Ev ty σ H1 (.str n.s))
    (k : ∀ H1, GI H H1 st cl oa tr ⟨setE s.e n v, s.m⟩ fu ks → Tx H' H1 → D.nx σ H1) : sDPut ta ty tv D σ H' := by
  obtain ⟨kvs, hk, he⟩ := g.ea
  have := he.len
  refine s_dputP (K := K) (d := natD v) (ep_evI hv) ha hk hy (by omega) fun v1 H1 e1 p1 => ?_
  cases pv_int p1
  exact k _ ((g.ex e1).putE p (e1 _ _ hk) he) ((tx_of e1).trans (Tx.updD (e1 _ _ hk)))
/-- state[0], state[1] -/
theorem ev_st0 (g : StAt H st cl fu s.m) (h : Ev ta σ H (.ref st)) : Ev (tOp (rIxL K) ta (tC (.int 0))) σ H (.int (fu : Int)) := ev_op h ev_c (rv_ixL (SqL.of g.s) rfl)
theorem ev_st1 (g : StAt H st cl fu s.m) (h : Ev ta σ H (.ref st)) : Ev (tOp (rIxL K) ta (tC (.int 1))) σ H (.ref cl) := ev_op h ev_c (rv_ixL (SqL.of g.s) rfl)
/-- place - 8 * (place // 8) -/
theorem ev_mod8 {x : Nat} (h : ∀ H1, Ex H H1 → Ev te σ H1 (.int (x : Int))) : Ev (tOp (rI0 fun i j => .int (i - j)) te (tOp (rI CMul fun i j => .int (i * j)) (tC (.int 8)) (tOp (rI CDivN fun i j => .int (i.fdiv j)) te (tC (.int 8))))) σ H (.int ((x % 8 : Nat) : Int)) :=
  ev_is (ev_op (h H (Ex.refl H)) (ev_op ev_c (ev_op (h H (Ex.refl H)) ev_c (rv_I (C := CDivN) (g := fun i j => .int (i.fdiv j)) ⟨by decide, by decide⟩)) (rv_I (C := CMul) (g := fun i j => .int (i * j)) (.inl ⟨by decide, by decide⟩))) rv_I0) (by
    congr 1
    rw [Int.fdiv_eq_ediv_of_nonneg _ (by decide)]
    omega)
/-- if state[0] == 0 -/
theorem et_st0 (g : StAt H st cl fu s.m) (h : Ev ta σ H (.ref st)) : EvT (tTest (tOp rEq (tOp (rIxL K) ta (tC (.int 0))) (tC (.int 0)))) σ H (decide (fu = 0)) :=
  et_test (ev_is (ev_op (ev_st0 (s := s) g h) ev_c (rv_eq rfl)) (by
    congr 1
    exact decide_eq_decide.mpr ⟨fun z => by have := V.int.inj z; omega, fun z => by rw [z]; rfl⟩))
/-- state[0] = state[0] - 1 -/
theorem q_dec (g : GI H H' st cl oa tr s fu ks) (p : Pl H st cl oa tr) (hf : fu ≠ 0) (h : ∀ H1, Ex H' H1 → Ev ta σ H1 (.ref st)) (k : ∀ H1, GI H H1 st cl oa tr s (fu - 1) ks → Tx H' H1 → Exl2 st cl H' H1 → tz D σ H1) :
    tSeq (tAsg (tOp (rI0 fun i j => .int (i - j)) (tOp (rIxL K) ta (tC (.int 0))) (tC (.int 1))) (gSub ta (tC (.int 0)) rSetL)) tz D σ H' :=
  q_setL (j := 0) g.sa.s (ev_is (ev_op (ev_st0 (K := K) (s := s) g.sa (h H' (Ex.refl H'))) ev_c rv_I0) (show V.int ((fu : Int) - 1) = V.int ((fu - 1 : Nat) : Int) by congr 1; omega)) (h H' (Ex.refl H')) ev_c (by simp) fun H1 e1 =>
    k _ ((g.ex e1).putF (f2 := fu - 1) p) ((tx_of e1).trans (Tx.updL (e1 _ _ g.sa.s))) ((exl2_of e1).trans Exl2.one)
end
end K36

namespace K36
open PySem PySem.Spec PyProof.Rows L2 Evl Pd Gd Dk
abbrev sLGo : Stmt := topS 47
abbrev nmGo : List Str := ["module", "w", "name", "args", "state", "graph", "own", "last", "number", "trace", "steps", "end", "phis", "step", "place", "cells", "words", "operand", "told", "goal"]
theorem scGo : FnScope ["module", "w", "name", "args", "state", "graph", "own", "last", "number", "trace", "steps", "end", "phis", "step", "place", "cells", "words", "operand", "told", "goal"] ["module", "w", "name", "args", "state"] (defScope sLGo) := ⟨rfl, rfl, rfl, by decide +kernel, rfl, by decide +kernel, by decide +kernel⟩
theorem pe_no {X : Cx} {e : Expr} : PE X e (fun _ _ _ => False) := ⟨fun pins s σ H Q I h => h.elim⟩
def tNo : TE := fun _ _ _ => False
theorem go3_at {w : Nat} {g : Gr} {gas k : Nat} {s : CS} {fuel : Nat} {b : Blk} (h : g[k]? = some b) : go3 w g (gas + 1) k s fuel = if fuel < calls b.steps then none else match b.fin with
      | .ret o => some (rdO w (execAll w s b.steps).e o, (execAll w s b.steps).m, fuel - calls b.steps)
      | .jump j => if fuel - calls b.steps = 0 then none else go3 w g gas j (execAll w s b.steps) (fuel - calls b.steps - 1)
      | .fork o i j => if fuel - calls b.steps = 0 then none else go3 w g gas (if rdO w (execAll w s b.steps).e o > 0 then i else j) (execAll w s b.steps) (fuel - calls b.steps - 1) := by
  rw [go3, h] <;> rfl
theorem upd_id {H : Hp} {a : Addr} {o : HO} (h : H a = some o) : upd H a o = H := by
  funext b
  by_cases e : b = a
  · rw [e, upd_same, h]
  · rw [upd_ne e]
theorem modAt_kp {K : PySem.W.Frag} {H H' : Hp} {m st cl : Addr} {mods : List (Str × PyData)} {fu : Nat} {mem : Mem} (h : ModAt K H m mods) (hs : StAt H st cl fu mem) (x : Exl2 st cl H H') (t : Tx H H') : ModAt K H' m mods :=
  h.mono (fun o u e => x _ _ e (fun z => by rw [z, hs.s] at e; cases e) (fun z => by rw [z, hs.c] at e; cases e)) t
theorem q_dict0 {K : PySem.W.Frag} {H : Hp} {σ : L2.St} {D : Ends} {tz : L2.TS} {te : TE} {i : Nat} (h : EvL te σ H []) (k : ∀ dp H1, H dp = none → Ex H H1 → H1 dp = some (.dK []) → tz D (σ.set i (some (.ref dp))) H1) : tSeq (tAsg (tCB (rDictP K) (tCons te tNil)) (gName i)) tz D σ H :=
  h H (Ex.refl H) _ fun lp H1 hlp e1 h1 => ⟨lp, [], [], rfl, SqL.of h1, .nil, fun dp hdp => k dp _ (fresh_back e1 hdp) (e1.trans (Ex.new hdp)) upd_same⟩
theorem q_upd0 {K : PySem.W.Frag} {H : Hp} {σ : L2.St} {D : Ends} {tz : L2.TS} {ta te : TE} {a b : Addr} {kvs : List (Key × V)} (hk : H a = some (.dK kvs)) (hb : H b = some (.dK [])) (hne : a ≠ b) (hl : kvs.length ≤ 100000) (h1 : Ev ta σ H (.ref a)) (h2 : Ev te σ H (.ref b)) (k : ∀ H1, Ex H H1 → tz D σ H1) :
    tSeq (tDrop (tBM K "dict" rUpd ta (tCons te tNil))) tz D σ H := h1 H (Ex.refl H) _ fun H1 e1 => ⟨.inr (.inr (.inl ⟨rfl, .inl ⟨_, e1 _ _ hk⟩⟩)), h2 H1 e1 _ fun H2 e2 => ⟨a, b, kvs, [], rfl, rfl, hne, e2 _ _ (e1 _ _ hk), e2 _ _ (e1 _ _ hb), by rw [List.length_nil]; exact sz_of (by omega), by
    rw [show mergeK kvs [] = kvs from rfl, upd_id (e2 _ _ (e1 _ _ hk))]
    exact k H2 (e1.trans e2)⟩⟩
/-- told = f(a, b, c, d, e) -/
theorem q_call5 {H : Hp} {σ : L2.St} {D : Ends} {tz : L2.TS} {E : XK} {sp : Sp} {i : Nat} {t1 t2 t3 t4 t5 : TE} {v1 v2 v3 v4 v5 : V} (h1 : Ev t1 σ H v1) (h2 : Ev t2 σ H v2) (h3 : Ev t3 σ H v3) (h4 : Ev t4 σ H v4) (h5 : Ev t5 σ H v5)
    (k : ∀ H1, Ex H H1 → sp [v1, v2, v3, v4, v5] H1 (fun v H2 => tz D (σ.set i (some v)) H2) E) : tSeq (tAsg (tCall sp [] E (tCons t1 (tCons t2 (tCons t3 (tCons t4 (tCons t5 tNil)))))) (gName i)) tz D σ H :=
  h1 H (Ex.refl H) _ fun H1 e1 => h2 H1 e1 _ fun H2 e2 => h3 H2 (e1.trans e2) _ fun H3 e3 => h4 H3 ((e1.trans e2).trans e3) _ fun H4 e4 => h5 H4 (((e1.trans e2).trans e3).trans e4) _ fun H5 e5 => k H5 ((((e1.trans e2).trans e3).trans e4).trans e5)
theorem calG_good : GGood calG := ⟨by decide, (fun b h => by cases List.mem_singleton.mp h; decide), fun b h j hj => by cases List.mem_singleton.mp h; cases hj⟩
theorem calG_none : noCalls calG := fun b h s hs => by
  cases List.mem_singleton.mp h
  cases List.mem_singleton.mp hs
  rfl
def nextG (w : Nat) (e : Env) : End → Nat
  | .ret _ => 0
  | .jump j => j
  | .fork o i j => if rdO w e o > 0 then i else j
abbrev stG (m : Addr) (w : Nat) (x : Str) (a st : Addr) (v5 : V) (oa : Addr) (y7 : V) (k : Nat) (tr : Addr) (y10 y11 y12 y13 y14 y15 y16 y18 y19 : Option V) : L2.St :=
  [some (.ref m), some (.int (w : Int)), some (.str x), some (.ref a), some (.ref st), some v5, some (.ref oa), some y7, some (.int (k : Int)), some (.ref tr), y10, y11, y12, y13, y14, y15, y16, none, y18, y19]
section
variable {P : Program} {w : World} {K : PySem.W.Frag} {mg : Str → Option Value} {base : Heap}
theorem ok_go {f : Addr} {fd : FuncData} {c : Bool} {n : Nat} {sp : Sp} (F : Fun K "_law_go" "_law_go" sLGo f fd) (hn : 2 ≤ n) (hin : c = true → ∀ vs H Q E, spGo K false vs H Q E → sp vs H Q E)
    (GG : FnOk P w K mg base CX0 n f fd ["module", "w", "name", "args", "state"] sp) (kG : PySem.W.keepIn K (.ref f) = true) (bG : Binds K fd ["module", "w", "name", "args", "state"] []) (gG : mg "_law_go" = some (.ref f))
    {fR fO : Addr} {fdR fdO : FuncData} (GR : FnOk P w K mg base CX0 1 fR fdR ["w", "operand", "own"] (spRead K)) (kR : PySem.W.keepIn K (.ref fR) = true) (bR : Binds K fdR ["w", "operand", "own"] []) (gR : mg "_law_read" = some (.ref fR))
    (GO : FnOk P w K mg base CX0 2 fO fdO ["w", "op", "a", "b"] (spOperate K)) (kO : PySem.W.keepIn K (.ref fO) = true) (bO : Binds K fdO ["w", "op", "a", "b"] []) (gO : mg "_law_op" = some (.ref fO))
    (md : mg "dict" = none) (mz : mg "zip" = none) : FnOk P w K mg base CX0 (n + 1) f fd ["module", "w", "name", "args", "state"] (spGo K c) := by
  refine F.ok scGo (fun vs H Q E h => ?_) (fun cdv A outer s H vs Q E hr h => ?_)
  · obtain ⟨m, a, st, cl, w, x, mods, i, ps, g, ws, fu, mem, rfl, _⟩ := h
    rfl
  · obtain ⟨m, a, st, cl, w, x, mods, i, ps, g, ws, fu, mem, rfl, hw, hM, hi, hnd, hps, hlen, hargs, hst, hsc, hws, hm8, hmw, hg, hg0, hfu, hcl, q⟩ := h
    have hu := hu_of hr
    have hr1 : Room 1 _ := hr.mono (by omega)
    have hr2 : Room 2 _ := hr.mono hn
    refine ⟨_, pss_cons (ps_set (i := 5) scGo.nd rfl (.inl rfl) (pe_dget hu (pe_callTy (r := rDictT K) (call_dictT rfl) (by rfl) md (by decide +kernel) (pa_cons (pv 0) pa_nil)) (pv 2) (fun _ _ => rfl)))
      (pss_cons (ps_set (i := 6) scGo.nd rfl (.inr rfl) (pe_dictZip rfl (by rfl) md (by rfl) mz (pa_cons (pe_ix ix_tup (pv 5) pe_int (fun _ _ => rfl)) (pa_cons (pv 3) pa_nil))))
      (pss_cons (ps_set (i := 7) scGo.nd rfl (.inr rfl) pe_non)
      (pss_cons (ps_set (i := 8) scGo.nd rfl (.inl rfl) pe_int)
      (pss_cons (ps_set (i := 9) scGo.nd rfl (.inl rfl) (pe_lst pa_nil))
      (pss_one (ps_while PassesOwn.never (pt_val pe_bl)
        (pss_cons (ps_expr (pe_bm PySem.F.plainAttrs_list PySem.F.slot_list_append PySem.F.type_list_append mt_append (pv 9) (pa_cons (pv 8) pa_nil)))
        (pss_cons (ps_asg (pe_ix ix_tup (pe_ix ix_tup (pv 5) pe_int (fun _ _ => rfl)) (pv 8) (fun _ _ => rfl)) (pg_tup rfl (pgs_cons (pg_name (i := 10) scGo.nd rfl (.inl rfl)) (pgs_cons (pg_name (i := 11) scGo.nd rfl (.inl rfl)) pgs_nil))))
        (pss_cons (ps_set (i := 12) scGo.nd rfl (.inl rfl) (pe_callTy (r := rDictP K) (call_dictP rfl) (by rfl) md (by decide +kernel) (pa_cons (pe_lc (own := [("step", 13)]) (g := gName 13) (tt := tTest (tOp rEq (tOp (rIxT K) (tVar 13) (tC (.int 0))) (tC (.str "phi")))) (te := tNo) rfl scGo.nd (pi_tup (pv 10)) (blkOk_by (N := nmGo) (sc := defScope sLGo) (by decide +kernel))
            (fun _ _ _ _ _ => pg_name (i := 13) scGo.nd rfl (Or.inl rfl)) (fun _ _ _ _ _ => pts_one (pt_cmpR op_eq (pe_ix ix_tup (pv 13) pe_int (fun _ _ => rfl)) pe_str (nomark _))) (fun _ _ _ _ _ => pe_no)) pa_nil)))
        (pss_cons (ps_expr (pe_bm PySem.F.plainAttrs_dict PySem.F.slot_dict_update PySem.F.type_dict_update mt_update (pv 6) (pa_cons (pv 12) pa_nil)))
        (pss_cons (ps_for PassesOwn.never rfl (pi_tup (pv 10)) (pg_name (i := 13) scGo.nd rfl (.inl rfl))
          (pss_one (ps_if (pt_cmpR op_eq (pe_ix ix_tup (pv 13) pe_int (fun _ _ => rfl)) pe_str (nomark _))
            (pss_one (ps_dput hu (pv 6) (pe_ix ix_tup (pv 13) pe_int (fun _ _ => rfl)) (pe_call GO hr2 (by rfl) gO kO bO .nil pass0 (pa_cons (pv 1) (pa_cons (pe_ix ix_tup (pv 13) pe_int (fun _ _ => rfl)) (pa_cons (pe_call GR hr1 (by rfl) gR kR bR .nil pass0 (pa_cons (pv 1) (pa_cons (pe_ix ix_tup (pv 13) pe_int (fun _ _ => rfl)) (pa_cons (pv 6) pa_nil)))) (pa_cons (pe_call GR hr1 (by rfl) gR kR bR .nil pass0 (pa_cons (pv 1) (pa_cons (pe_ix ix_tup (pv 13) pe_int (fun _ _ => rfl)) (pa_cons (pv 6) pa_nil)))) pa_nil))))) rfl))
            (pss_one (ps_if (pt_cmpR op_eq (pe_ix ix_tup (pv 13) pe_int (fun _ _ => rfl)) pe_str (nomark _))
              (pss_one (ps_dput hu (pv 6) (pe_ix ix_tup (pv 13) pe_int (fun _ _ => rfl)) (pe_call GR hr1 (by rfl) gR kR bR .nil pass0 (pa_cons (pv 1) (pa_cons (pe_ix ix_tup (pv 13) pe_int (fun _ _ => rfl)) (pa_cons (pv 6) pa_nil)))) rfl))
              (pss_one (ps_if (pt_cmpR op_eq (pe_ix ix_tup (pv 13) pe_int (fun _ _ => rfl)) pe_str (nomark _))
                (pss_cons (ps_set (i := 14) scGo.nd rfl (.inl rfl) (pe_call GR hr1 (by rfl) gR kR bR .nil pass0 (pa_cons (pv 1) (pa_cons (pe_ix ix_tup (pv 13) pe_int (fun _ _ => rfl)) (pa_cons (pv 6) pa_nil)))))
                (pss_one (ps_dput hu (pv 6) (pe_ix ix_tup (pv 13) pe_int (fun _ _ => rfl)) (pe_ix ix_list (pe_ix ix_list (pv 4) pe_int (fun _ _ => rfl)) (pe_op op_sub (pv 14) (pe_op op_mul pe_int (pe_op op_fdivN (pv 14) pe_int))) (fun _ _ => rfl)) rfl)))
                (pss_one (ps_if (pt_cmpR op_eq (pe_ix ix_tup (pv 13) pe_int (fun _ _ => rfl)) pe_str (nomark _))
                  (pss_cons (ps_set (i := 14) scGo.nd rfl (.inl rfl) (pe_call GR hr1 (by rfl) gR kR bR .nil pass0 (pa_cons (pv 1) (pa_cons (pe_ix ix_tup (pv 13) pe_int (fun _ _ => rfl)) (pa_cons (pv 6) pa_nil)))))
                  (pss_cons (ps_set (i := 15) scGo.nd rfl (.inl rfl) (pe_ix ix_list (pv 4) pe_int (fun _ _ => rfl)))
                  (pss_one (ps_asg (pe_call GR hr1 (by rfl) gR kR bR .nil pass0 (pa_cons (pv 1) (pa_cons (pe_ix ix_tup (pv 13) pe_int (fun _ _ => rfl)) (pa_cons (pv 6) pa_nil)))) (pg_sub (pv 15) (pe_op op_sub (pv 14) (pe_op op_mul pe_int (pe_op op_fdivN (pv 14) pe_int))) set_list)))))
                  (pss_one (ps_if (pt_cmpR op_eq (pe_ix ix_tup (pv 13) pe_int (fun _ _ => rfl)) pe_str (nomark _))
                    (pss_cons (ps_setLc (i := 16) (own := [("operand", 17)]) (g := gName 17) (tt := tYes) (te := tCall (spRead K) [] E0 (tCons (tVar 1) (tCons (tVar 17) (tCons (tVar 6) tNil)))) rfl scGo.nd rfl rfl (sw_true rfl rfl rfl (by decide +kernel)) (pi_tup (pe_ix ix_tup (pv 13) pe_int (fun _ _ => rfl))) (blkOk_by (N := nmGo) (sc := defScope sLGo) (by decide +kernel))
                      (fun _ _ _ _ _ => pg_name (i := 17) scGo.nd rfl (Or.inl rfl)) (fun _ _ _ _ _ => pts_nil) (fun _ _ _ _ _ => pe_call GR hr1 (by rfl) gR kR bR .nil pass0 (pa_cons (pv 1) (pa_cons (pv 17) (pa_cons (pv 6) pa_nil)))))
                    (pss_cons (ps_if (pt_cmpR op_eq (pe_ix ix_list (pv 4) pe_int (fun _ _ => rfl)) pe_int (nomark _)) (pss_one (ps_ret pe_non)) pss_nil)
                    (pss_cons (ps_asg (pe_op op_sub (pe_ix ix_list (pv 4) pe_int (fun _ _ => rfl)) pe_int) (pg_sub (pv 4) pe_int set_list))
                    (pss_cons (ps_set (i := 18) scGo.nd rfl (.inl rfl) (pe_call GG hr (by rfl) gG kG bG .nil pass0 (pa_cons (pv 0) (pa_cons (pv 1) (pa_cons (pe_ix ix_tup (pv 13) pe_int (fun _ _ => rfl)) (pa_cons (pv 16) (pa_cons (pv 4) pa_nil)))))))
                    (pss_cons (ps_if (pt_cmpR op_isN (pv 18) pe_non (nomark _)) (pss_one (ps_ret pe_non)) pss_nil)
                    (pss_one (ps_dput hu (pv 6) (pe_ix ix_tup (pv 13) pe_int (fun _ _ => rfl)) (pe_ix ix_tup (pv 18) pe_int (fun _ _ => rfl)) rfl)))))))
                    pss_nil)))))))))))
        (pss_cons (ps_if (pt_cmpR op_eq (pe_ix ix_tup (pv 11) pe_int (fun _ _ => rfl)) pe_str (nomark _)) (pss_one (ps_ret (pe_tup (pa_cons (pe_call GR hr1 (by rfl) gR kR bR .nil pass0 (pa_cons (pv 1) (pa_cons (pe_ix ix_tup (pv 11) pe_int (fun _ _ => rfl)) (pa_cons (pv 6) pa_nil)))) (pa_cons (pv 9) pa_nil))))) pss_nil)
        (pss_cons (ps_if (pt_cmpR op_eq (pe_ix ix_list (pv 4) pe_int (fun _ _ => rfl)) pe_int (nomark _)) (pss_one (ps_ret pe_non)) pss_nil)
        (pss_cons (ps_asg (pe_op op_sub (pe_ix ix_list (pv 4) pe_int (fun _ _ => rfl)) pe_int) (pg_sub (pv 4) pe_int set_list))
        (pss_cons (ps_set (i := 19) scGo.nd rfl (.inl rfl) (pe_ifExp (pt_cmpR op_eq (pe_ix ix_tup (pv 11) pe_int (fun _ _ => rfl)) pe_str (nomark _)) (pe_ix ix_tup (pv 11) pe_int (fun _ _ => rfl)) (pe_ifExp (pt_cmpR op_gt (pe_call GR hr1 (by rfl) gR kR bR .nil pass0 (pa_cons (pv 1) (pa_cons (pe_ix ix_tup (pv 11) pe_int (fun _ _ => rfl)) (pa_cons (pv 6) pa_nil)))) pe_int (nomark _)) (pe_ix ix_tup (pv 11) pe_int (fun _ _ => rfl)) (pe_ix ix_tup (pv 11) pe_int (fun _ _ => rfl)))))
        (pss_one (ps_asg (pe_tup (pa_cons (pv 8) (pa_cons (pv 19) pa_nil))) (pg_tup rfl (pgs_cons (pg_name (i := 7) scGo.nd rfl (.inr rfl)) (pgs_cons (pg_name (i := 8) scGo.nd rfl (.inl rfl)) pgs_nil)))))))))))))))))))), ?_⟩
    refine q_asgP (K := K) (ep_modGet (ev_var rfl) hM (fun _ => ev_var rfl) hi hnd) fun v5 H1 e1 p5 => ?_
    refine ep_ixT (K := K) (i := 0) (d := .tuple (ps.map Nm.d)) (ep_var rfl p5) ev_c rfl H1 (Ex.refl H1) _ fun vp H2 e2 pp => ?_
    obtain ⟨ap, xp, rfl, hxp, pxp⟩ := pv_tup pp
    have hkv : xp = (ps.map nk).map kV := by
      have h1 : ps.map Nm.d = (ps.map Nm.s).map PyData.str := by rw [List.map_map]; rfl
      rw [h1] at pxp
      rw [pxp.of_strs, List.map_map, List.map_map]
      rfl
    subst hkv
    refine ev_var (v := .ref a) rfl H2 (Ex.refl H2) _ fun H3 e3 => ?_
    have e13 := (e1.trans e2).trans e3
    refine ⟨ap, a, ps.map nk, iV ws, rfl, (hxp.tx (tx_of e3)).sq, hargs.elim (fun h => .inl (ex_l e13 h)) (fun h => .inr (ex_t e13 h)), by rw [List.length_map, iV_len]; exact hlen, fun oa hoa => ?_⟩
    have hE0 : EnvK ((ps.map nk).zip (iV ws)) (envOf ps ws) := env0 hps hlen
    have hmerge : mergeK [] ((ps.map nk).zip (iV ws)) = (ps.map nk).zip (iV ws) := mergeK_new (acc := []) (by rw [List.nil_append]; exact hE0.nd)
    rw [hmerge]
    have eo0 : Ex H3 (upd H3 oa (.dK ((ps.map nk).zip (iV ws)))) := Ex.new hoa
    refine q_asg ev_c fun H3' e3' => ?_
    have eo := eo0.trans e3'
    refine q_asg ev_c fun H4 e4 => ?_
    refine q_asg ev_c fun H5 e5 => ?_
    refine q_asgPL (K := K) (el_tup eps_nil (by decide)) fun tr vs0 H6 htr e6 hl6 pl6 => ?_
    cases pl6
    have e06 : Ex H H6 := (e13.trans eo).trans ((e4.trans e5).trans e6)
    have ho5 : H5 oa = some (.dK ((ps.map nk).zip (iV ws))) := e5 _ _ (e4 _ _ (e3' _ _ upd_same))
    have hoH : H oa = none := fresh_back e13 hoa
    have htH : H tr = none := fresh_back ((e13.trans eo).trans (e4.trans e5)) htr
    have pl : Pl H st cl oa tr := ⟨hsc, Ne.symm (ne_of_none hst.s hoH), Ne.symm (ne_of_none hst.c hoH), Ne.symm (ne_of_none hst.s htH), Ne.symm (ne_of_none hst.c htH), ne_of_none ho5 htr, hoH, htH⟩
    have g6 : GI H H6 st cl oa tr ⟨envOf ps ws, mem⟩ fu [] := ⟨exl2_of e06, tx_of e06, hst.ex e06, ⟨_, e6 _ _ ho5, hE0⟩, hl6⟩
    have ps6 : PV K H6 v5 (gD ps g) := p5.ex (((e2.trans e3).trans eo).trans ((e4.trans e5).trans e6))
    refine s_while (fun fl σ' H' => ∃ (k : Nat) (s : CS) (ks : List Nat) (gas : Nat) (y7 : V) (y10 y11 y12 y13 y14 y15 y16 y18 y19 : Option V), σ' = stG m w x a st v5 oa y7 k tr y10 y11 y12 y13 y14 y15 y16 y18 y19 ∧ GI H H' st cl oa tr s fl ks ∧ PV K H' v5 (gD ps g) ∧ fl < gas ∧
      go3 w g gas k s fl = go3 w g (fu + 1) 0 ⟨envOf ps ws, mem⟩ fu ∧ k < g.length ∧ ks.length + fl ≤ fu ∧ SOk w s) fu
      ⟨0, _, [], fu + 1, .non, _, _, _, _, _, _, _, _, _, rfl, g6, ps6, Nat.lt_succ_self _, rfl, hg0, by simp, ⟨envOf_lt hws, hm8, hmw⟩⟩ ?_
    rintro fl σ' H' ⟨k, s, ks, gas, y7, y10, y11, y12, y13, y14, y15, y16, y18, y19, rfl, gi, pg, hgas, hgo, hk, hks, hs⟩
    refine ⟨true, et_B ev_c, fun _ H7 e7 => ⟨_, fun _ _ h => h, ?_⟩, fun z => by cases z⟩
    obtain ⟨b, hb⟩ : ∃ b, g[k]? = some b := ⟨_, List.getElem?_eq_getElem hk⟩
    have bm := List.mem_of_getElem? hb
    have b9 := hg.st b bm
    obtain ⟨gas', rfl⟩ : ∃ n, gas = n + 1 := ⟨gas - 1, by omega⟩
    rw [go3_at hb] at hgo
    have gi7 := gi.ex e7
    refine q_app gi7.ta (ev_var rfl) (ev_var rfl) (by rw [iV_len]; omega) fun H8 e8 => ?_
    rw [show iV ks ++ [V.int (k : Int)] = iV (ks ++ [k]) from (iV_app ks [k])]
    have gi8 := (gi7.ex e8).putT (k2 := ks ++ [k]) pl
    have pg8 : PV K (upd H8 tr (.lst (iV (ks ++ [k])))) v5 (gD ps g) := ((pg.ex (e7.trans e8))).tx (Tx.updL (gi7.ex e8).ta)
    generalize upd H8 tr (.lst (iV (ks ++ [k]))) = H9 at gi8 pg8 ⊢
    refine ep_ixT (K := K) (i := k) (d := b.d) (ep_ixT (i := 1) (d := blksD g) (ep_var rfl pg8) ev_c rfl) (ev_var rfl) (by rw [List.getElem?_map, hb]; rfl) H9 (Ex.refl H9) _ fun vb H10 e10 pb => ?_
    refine g_tup2 (d1 := rowD b.steps) (d2 := b.fin.d) pb fun v10 v11 p10 p11 => ?_
    refine q_dict0 (el_lcNo (K := K) (σ := stG m w x a st v5 oa y7 k tr (some v10) (some v11) y12 y13 y14 y15 y16 y18 y19) (tl := tVar 10) (t := tTest (tOp rEq (tOp (rIxT K) (tVar 13) (tC (.int 0))) (tC (.str "phi")))) (te := tNo) (j := 13) (vs := [13]) (ds := b.steps.map Stp.d) (ep_var rfl p10) (by rw [List.length_map]; omega) (fun x => rfl) (fun i x d H11 e11 hd pd => ?_)) fun dp H12 hdp ed hdp2 => ?_
    · obtain ⟨st', hst', rfl⟩ := map_at hd
      exact et_test (ev_is (et_eqS (ev_kind (ep_var rfl pd)) ev_c) (congrArg V.bl (kind_phi st')))
    have e12 := e10.trans ed
    have gi12 := gi8.ex e12
    have pg12 := pg8.ex e12
    have p10' := p10.ex ed
    have p11' := p11.ex ed
    obtain ⟨kv0, hk0, _⟩ := gi8.ea
    obtain ⟨kvs, hkv, hek⟩ := gi12.ea
    have hlen5 := hek.len
    refine q_upd0 hkv hdp2 (ne_of_none (e10 _ _ hk0) hdp) (by omega) (ev_var rfl) (ev_var rfl) fun H14 e1214 => ?_
    have gi14 := gi12.ex e1214
    have pg14 := pg12.ex e1214
    refine q_forTP (K := K) (ds := b.steps.map Stp.d) (ep_var rfl (p10'.ex e1214)) (fun H1 i σ' H' => ∃ y13 y14 y15 y16 y18, σ' = stG m w x a st v5 oa y7 k tr (some v10) (some v11) (some (.ref dp)) y13 y14 y15 y16 y18 y19 ∧ GI H H' st cl oa tr (execAll w s (b.steps.take i)) (fl - calls (b.steps.take i)) (ks ++ [k]) ∧ calls (b.steps.take i) ≤ fl ∧ Tx H1 H')
      (fun H15 e15 => ⟨_, _, _, _, _, rfl, gi14.ex e15, Nat.zero_le _, Tx.refl _⟩) (fun H15 i σ' H' ⟨_, _, _, _, _, _, _, _, t⟩ => t) ?_ ?_
    · rintro H15 i v d σ' H' e15 hd pd ⟨y13, y14, y15, y16, y18, rfl, gI, hC, tx15⟩
      obtain ⟨st', hst', rfl⟩ := map_at hd
      have hsS : SOk w (execAll w s (b.steps.take i)) := sok_all hw _ hs
      have hcl2 := calls_le b.steps (i + 1)
      have nxt : ∀ {y14 y15 y16 y18 : Option V} {H16 : Hp}, GI H H16 st cl oa tr (exec w (execAll w s (b.steps.take i)) st') (fl - calls (b.steps.take i) - if isCall st' = true then 1 else 0) (ks ++ [k]) → (calls (b.steps.take i) + if isCall st' = true then 1 else 0) ≤ fl → Tx H' H16 →
          ∃ y13 y14' y15' y16' y18', stG m w x a st v5 oa y7 k tr (some v10) (some v11) (some (.ref dp)) (some v) y14 y15 y16 y18 y19 = stG m w x a st v5 oa y7 k tr (some v10) (some v11) (some (.ref dp)) y13 y14' y15' y16' y18' y19 ∧ GI H H16 st cl oa tr (execAll w s (b.steps.take (i + 1))) (fl - calls (b.steps.take (i + 1))) (ks ++ [k]) ∧ calls (b.steps.take (i + 1)) ≤ fl ∧ Tx H15 H16 := by
        intro y14 y15 y16 y18 H16 g16 h16 t16
        refine ⟨_, _, _, _, _, rfl, ?_, ?_, tx15.trans t16⟩
        · rw [exec_take hst', calls_take hst', Nat.sub_add_eq]
          exact g16
        · rw [calls_take hst']
          exact h16
      rw [calls_take hst'] at hcl2
      generalize execAll w s (b.steps.take i) = S at gI hsS nxt
      generalize calls (b.steps.take i) = C at gI hC nxt hcl2
      have pk := fun {H16 : Hp} (e : Ex H' H16) {σ : L2.St} (h13 : σ[13]? = some (some v)) (s : Str) => et_test (ev_is (et_eqS (ev_kind (K := K) (ep_var h13 (pd.ex e))) (ev_c (v := .str s))) rfl)
      have pd2 := pd
      rw [st'.d_ds] at pd2
      cases st' with
      | op n o a' b' =>
        refine s_if (et_test (ev_is (et_eqS (ev_kind (ep_var rfl pd)) ev_c) (congrArg V.bl (kind_op (.op n o a' b'))))) (fun _ H16 e16 => ?_) (fun e => by cases e)
        have gJ := gI.ex e16
        have pd3 := pd2.ex e16
        refine s_putE K (n := n) (v := opX w o (rdO w S.e a') (rdO w S.e b')) gJ pl (ev_epI (K := K) (ep_call (ds := [natD w, .str o.s, natD (rdO w S.e a'), natD (rdO w S.e b')]) (eps_cons (ep_ev (ev_var rfl) (.int _)) (eps_cons (ep_ixT (i := 2) (ep_var rfl pd3) ev_c rfl) (eps_cons (ep_evI (ev_read hw (ev_var rfl) (ep_ixT (i := 3) (ep_var rfl pd3) ev_c rfl) (ev_var rfl) gJ.ea)) (eps_cons (ep_evI (ev_read hw (ev_var rfl) (ep_ixT (i := 4) (ep_var rfl pd3) ev_c rfl) (ev_var rfl) gJ.ea)) eps_nil))))
          ⟨w, o, _, _, rfl, hw, rdO_lt hsS a', rdO_lt hsS b', rfl⟩)) (fun _ _ => ev_var rfl) (fun H17 e17 => ev_epS (ep_ixT (i := 1) (ep_var rfl (pd3.ex e17)) ev_c rfl)) fun H17 g17 t17 => nxt g17 hC ((tx_of e16).trans t17)
      | copy n a' =>
        refine s_if (et_test (ev_is (et_eqS (ev_kind (ep_var rfl pd)) ev_c) (congrArg V.bl (kind_op (.copy n a'))))) (fun e => by cases e) (fun _ H16 e16 => ?_)
        refine s_if (et_test (ev_is (et_eqS (ev_kind (ep_var rfl (pd.ex e16))) ev_c) (congrArg V.bl (kind_copy (.copy n a'))))) (fun _ H17 e17 => ?_) (fun e => by cases e)
        have ee := e16.trans e17
        have gJ := gI.ex ee
        have pd3 := pd2.ex ee
        exact s_putE K (n := n) (v := rdO w S.e a') gJ pl (ev_read hw (ev_var rfl) (ep_ixT (i := 2) (ep_var rfl pd3) ev_c rfl) (ev_var rfl) gJ.ea) (fun _ _ => ev_var rfl) (fun H17 e17 => ev_epS (ep_ixT (i := 1) (ep_var rfl (pd3.ex e17)) ev_c rfl)) fun H17 g17 t17 => nxt g17 hC ((tx_of ee).trans t17)
      | load n a' =>
        refine s_if (et_test (ev_is (et_eqS (ev_kind (ep_var rfl pd)) ev_c) (congrArg V.bl (kind_op (.load n a'))))) (fun e => by cases e) (fun _ H16 e16 => ?_)
        refine s_if (et_test (ev_is (et_eqS (ev_kind (ep_var rfl (pd.ex e16))) ev_c) (congrArg V.bl (kind_copy (.load n a'))))) (fun e => by cases e) (fun _ H17 e17 => ?_)
        have e17' := e16.trans e17
        refine s_if (et_test (ev_is (et_eqS (ev_kind (ep_var rfl (pd.ex e17'))) ev_c) (congrArg V.bl (kind_load (.load n a'))))) (fun _ H18 e18 => ?_) (fun e => by cases e)
        have ee := e17'.trans e18
        have gJ := gI.ex ee
        refine q_asg (ev_read (K := K) hw (ev_var rfl) (ep_ixT (i := 2) (ep_var rfl (pd2.ex ee)) ev_c rfl) (ev_var rfl) gJ.ea) fun H19 e19 => ?_
        have ef := ee.trans e19
        have gL := gI.ex ef
        have pd3 := pd2.ex ef
        have hlt : rdO w S.e a' % 8 < S.m.length := by rw [hsS.len]; exact Nat.mod_lt _ (by decide)
        have hget : S.m[rdO w S.e a' % 8]? = some (S.m.getD (rdO w S.e a' % 8) 0) := by rw [List.getD_eq_getElem?_getD, List.getElem?_eq_getElem hlt]; rfl
        refine s_putE K (n := n) (v := S.m.getD (rdO w S.e a' % 8) 0) gL pl (ev_op (ev_st1 (s := S) gL.sa (ev_var rfl)) (ev_mod8 fun _ _ => ev_var rfl) (rv_ixL (SqL.of gL.sa.c) (atI_nat (iV_at hget)))) (fun _ _ => ev_var rfl) (fun H17 e17 => ev_epS (ep_ixT (i := 1) (ep_var rfl (pd3.ex e17)) ev_c rfl)) fun H17 g17 t17 => nxt g17 hC ((tx_of ef).trans t17)
      | store a' b' =>
        refine s_if (et_test (ev_is (et_eqS (ev_kind (ep_var rfl pd)) ev_c) (congrArg V.bl (kind_op (.store a' b'))))) (fun e => by cases e) (fun _ H16 e16 => ?_)
        refine s_if (et_test (ev_is (et_eqS (ev_kind (ep_var rfl (pd.ex e16))) ev_c) (congrArg V.bl (kind_copy (.store a' b'))))) (fun e => by cases e) (fun _ H17 e17 => ?_)
        have e17' := e16.trans e17
        refine s_if (et_test (ev_is (et_eqS (ev_kind (ep_var rfl (pd.ex e17'))) ev_c) (congrArg V.bl (kind_load (.store a' b'))))) (fun e => by cases e) (fun _ H18 e18 => ?_)
        have e18' := e17'.trans e18
        refine s_if (et_test (ev_is (et_eqS (ev_kind (ep_var rfl (pd.ex e18'))) ev_c) (congrArg V.bl (kind_store (.store a' b'))))) (fun _ H19 e19 => ?_) (fun e => by cases e)
        have ee := e18'.trans e19
        have gJ := gI.ex ee
        refine q_asg (ev_read (K := K) hw (ev_var rfl) (ep_ixT (i := 1) (ep_var rfl (pd2.ex ee)) ev_c rfl) (ev_var rfl) gJ.ea) fun H20 e20 => ?_
        refine q_asg (ev_st1 (K := K) (s := S) (gJ.ex e20).sa (ev_var rfl)) fun H21 e21 => ?_
        have ef := (ee.trans e20).trans e21
        have gL := gI.ex ef
        have hlt : rdO w S.e a' % 8 < S.m.length := by rw [hsS.len]; exact Nat.mod_lt _ (by decide)
        refine s_setL (j := rdO w S.e a' % 8) gL.sa.c (ev_read (K := K) hw (ev_var rfl) (ep_ixT (i := 2) (ep_var rfl (pd2.ex ef)) ev_c rfl) (ev_var rfl) gL.ea) (ev_var rfl) (ev_mod8 fun _ _ => ev_var rfl) (by rw [iV_len]; exact hlt) fun H22 e22 => ?_
        rw [iV_set]
        exact nxt ((gL.ex e22).putM pl) hC ((tx_of (ef.trans e22)).trans (Tx.updL (gL.ex e22).sa.c))
      | call n a' =>
        refine s_if (et_test (ev_is (et_eqS (ev_kind (ep_var rfl pd)) ev_c) (congrArg V.bl (kind_op (.call n a'))))) (fun e => by cases e) (fun _ H16 e16 => ?_)
        refine s_if (et_test (ev_is (et_eqS (ev_kind (ep_var rfl (pd.ex e16))) ev_c) (congrArg V.bl (kind_copy (.call n a'))))) (fun e => by cases e) (fun _ H17 e17 => ?_)
        have e17' := e16.trans e17
        refine s_if (et_test (ev_is (et_eqS (ev_kind (ep_var rfl (pd.ex e17'))) ev_c) (congrArg V.bl (kind_load (.call n a'))))) (fun e => by cases e) (fun _ H18 e18 => ?_)
        have e18' := e17'.trans e18
        refine s_if (et_test (ev_is (et_eqS (ev_kind (ep_var rfl (pd.ex e18'))) ev_c) (congrArg V.bl (kind_store (.call n a'))))) (fun e => by cases e) (fun _ H19 e19 => ?_)
        have e19' := e18'.trans e19
        refine s_when (et_test (ev_is (et_eqS (ev_kind (ep_var rfl (pd.ex e19'))) ev_c) (congrArg V.bl (kind_call (.call n a'))))) (fun _ H20 e20 => ?_) (fun e => by cases e)
        have ee := e19'.trans e20
        have gJ := gI.ex ee
        have hin' := hin (hcl.resolve_left fun h => by have := h b bm _ (List.mem_of_getElem? hst'); cases this).1
        obtain ⟨j, hj⟩ := (hcl.resolve_left fun h => by have := h b bm _ (List.mem_of_getElem? hst'); cases this).2
        refine q_asgPL (K := K) (el_lcT (K := K) (σ := stG m w x a st v5 oa y7 k tr (some v10) (some v11) (some (.ref dp)) (some v) y14 y15 y16 y18 y19) (tl := tOp (rIxT K) (tVar 13) (tC (.int 3))) (g := gName 17) (te := tCall (spRead K) [] E0 (tCons (tVar 1) (tCons (tVar 17) (tCons (tVar 6) tNil)))) (vs := [17]) (ds := [a'.d]) [natD (rdO w S.e a')] (ep_ixT (i := 3) (ep_var rfl (pd2.ex ee)) ev_c rfl) rfl (by simp) ?_) fun wl vs0 H21 hwl e21 hl21 pl21 => ?_
        · intro i x c dd H5 e5 hc pc hd Q k
          cases i with
          | zero =>
            cases hc
            cases hd
            exact k _ H5 (Ex.refl H5) rfl (ep_evI (ev_read hw (ev_var rfl) (ep_var rfl pc) (ev_var rfl) (gJ.ex e5).ea))
          | succ i => cases hc
        have ef := ee.trans e21
        have gL := gI.ex ef
        cases pl21 with
        | cons p1 p2 =>
        cases p2
        cases pv_int p1
        refine q_when (et_st0 (K := K) (s := S) gL.sa (ev_var rfl)) (fun h0 H22 e22 => ?_) (fun h0 H22 e22 => ?_)
        · have h0 := of_decide_eq_true h0
          rw [if_pos (show fl < calls b.steps by
            have : C + 1 ≤ calls b.steps := hcl2
            omega)] at hgo
          rw [← hgo] at q
          exact s_ret ev_c fun H23 e23 => q H23 (gI.ex ((ef.trans e22).trans e23)).kp (gI.ex ((ef.trans e22).trans e23)).tx
        · have h0 := of_decide_eq_false h0
          refine q_dec (K := K) (gL.ex e22) pl h0 (fun _ _ => ev_var rfl) fun H23 g23 t23 x23 => ?_
          have tx23 : Tx H' H23 := (tx_of (ef.trans e22)).trans t23
          have hwl23 : H23 wl = some (.lst (iV [rdO w S.e a'])) := x23 _ _ (e22 _ _ hl21) (Ne.symm (ne_of_none gJ.sa.s hwl)) (Ne.symm (ne_of_none gJ.sa.c hwl))
          refine q_call5 (v1 := .ref m) (v2 := .int (w : Int)) (v3 := .str "f") (v4 := .ref wl) (v5 := .ref st) (ev_var rfl) (ev_var rfl) (ev_epS (K := K) (ep_ixT (i := 2) (ep_var rfl (pd2.tx tx23)) ev_c rfl)) (ev_var rfl) (ev_var rfl) fun H24 e24 => ?_
          have g24 := g23.ex e24
          refine hin' _ _ _ _ ⟨m, wl, st, cl, w, "f", mods, j, [.a], calG, [rdO w S.e a'], fl - C - 1, S.m, rfl, hw, modAt_kp hM hst g24.kp g24.tx, hj, hnd, by decide, rfl, .inl (SqL.of (e24 _ _ hwl23)), g24.sa, hsc, (fun v hv => by rw [List.mem_singleton.mp hv]; exact rdO_lt hsS a'), hsS.len, hsS.m, calG_good, by decide, by omega, .inl calG_none, ?_⟩
          rw [go3_cal hw]
          intro t tr' ks' H25 x25 t25 ht htr hks hs25
          have g25 := g24.call pl x25 t25 hs25
          have tx25 : Tx H' H25 := (tx23.trans (tx_of e24)).trans t25
          refine q_when (b := false) (et_test (ev_is (ev_op (ev_var (v := .ref t) rfl) ev_c (fun H1 e Q q => ⟨rfl, q H1 (Ex.refl H1)⟩)) (congrArg V.bl (decide_eq_false (by intro z; cases z))))) (fun e => by cases e) (fun _ H26 e26 => ?_)
          refine s_putE K (n := n) (v := rdO w S.e a') (g25.ex e26) pl (ev_op (ev_var (v := .ref t) rfl) ev_c (rv_ixT (SqT.of (e26 _ _ ht)) rfl)) (fun _ _ => ev_var rfl) (fun H17 e17 => ev_epS (K := K) (ep_ixT (i := 1) (ep_var rfl ((pd2.tx tx25).ex (e26.trans e17))) ev_c rfl)) fun H27 g27 t27 => nxt g27 (by show C + 1 ≤ fl; omega) ((tx25.trans (tx_of e26)).trans t27)
    · rintro H15 σ' H' e15 ⟨y13, y14, y15, y16, y18, rfl, gI, hC, tx15⟩
      have tl : b.steps.take (b.steps.map Stp.d).length = b.steps := List.take_of_length_le (by simp)
      rw [tl] at gI hC
      rw [if_neg (by omega)] at hgo
      have t14 : Tx H14 H' := (tx_of e15).trans tx15
      have pE : PV K H' v11 b.fin.d := (p11'.ex e1214).tx t14
      have pgE : PV K H' v5 (gD ps g) := pg14.tx t14
      have hS : SOk w (execAll w s b.steps) := sok_all hw _ hs
      generalize execAll w s b.steps = S at gI hS hgo
      generalize calls b.steps = C at gI hC hgo
      have pE2 := pE
      rw [b.fin.d_ds] at pE2
      refine q_when (et_test (ev_is (et_eqS (ev_epS (K := K) (ep_ixT (i := 0) (ep_var rfl pE2) ev_c b.fin.at0)) ev_c) (congrArg V.bl (end_ret b.fin)))) (fun hr H16 e16 => ?_) (fun hr H16 e16 => ?_)
      · cases hfin : b.fin with
        | jump j => rw [hfin] at hr; cases hr
        | fork o i j => rw [hfin] at hr; cases hr
        | ret o =>
          rw [hfin] at hgo pE2
          rw [← hgo] at q
          have gJ := gI.ex e16
          refine s_retU (eu_tup (ea_cons (ev_read (K := K) (o := o) hw (ev_var rfl) (ep_ixT (i := 1) (ep_var rfl (pE2.ex e16)) ev_c rfl) (ev_var rfl) gJ.ea) (ea_cons (ev_var (v := .ref tr) rfl) ea_nil)) (by simp)) fun t H17 _ e17 ht => ?_
          have gK := gJ.ex e17
          exact q t tr (ks ++ [k]) H17 gK.kp gK.tx ht gK.ta (by rw [List.length_append, List.length_singleton]; omega) gK.sa
      · have hnx : (if fl - C = 0 then none else go3 w g gas' (nextG w S.e b.fin) S (fl - C - 1)) = go3 w g (fu + 1) 0 ⟨envOf ps ws, mem⟩ fu ∧ nextG w S.e b.fin < g.length := by
          have hgl := hg.gl b bm
          cases hfin : b.fin with
          | ret o => rw [hfin] at hr; cases hr
          | jump j =>
            rw [hfin] at hgo hgl
            exact ⟨hgo, hgl j (by simp [End.goals])⟩
          | fork o i j =>
            rw [hfin] at hgo hgl
            refine ⟨hgo, ?_⟩
            show (if rdO w S.e o > 0 then i else j) < g.length
            split
            · exact hgl i (by simp [End.goals])
            · exact hgl j (by simp [End.goals])
        refine q_when (et_st0 (K := K) (s := S) (gI.ex e16).sa (ev_var rfl)) (fun h0 H17 e17 => ?_) (fun h0 H17 e17 => ?_)
        · rw [if_pos (of_decide_eq_true h0)] at hnx
          rw [← hnx.1] at q
          exact s_ret ev_c fun H23 e23 => q H23 (gI.ex ((e16.trans e17).trans e23)).kp (gI.ex ((e16.trans e17).trans e23)).tx
        · have h0 := of_decide_eq_false h0
          rw [if_neg h0] at hnx
          refine q_dec (K := K) (gI.ex (e16.trans e17)) pl h0 (fun _ _ => ev_var rfl) fun H18 g18 t18 _ => ?_
          have tx18 : Tx H' H18 := (tx_of (e16.trans e17)).trans t18
          have pE3 := pE2.tx tx18
          refine q_asg (v := .int (nextG w S.e b.fin : Int)) (ev_if (et_test (ev_is (et_eqS (ev_epS (K := K) (ep_ixT (i := 0) (ep_var rfl pE3) ev_c b.fin.at0)) ev_c) (congrArg V.bl (end_jump b.fin)))) (fun hj => ?_) (fun hj => ?_)) fun H19 e19 => ?_
          · cases hfin : b.fin with
            | ret o => rw [hfin] at hj; cases hj
            | fork o i j => rw [hfin] at hj; cases hj
            | jump j =>
              rw [hfin] at pE3
              exact ev_epI (K := K) (ep_ixT (i := 1) (d := natD j) (ep_var rfl pE3) ev_c rfl)
          · cases hfin : b.fin with
            | ret o => rw [hfin] at hr; cases hr
            | jump j => rw [hfin] at hj; cases hj
            | fork o i j =>
              rw [hfin] at pE3
              have tst := ev_op (r := rI0 fun i j => .bl (decide (i > j))) (ev_read (K := K) (o := o) (E := E0) (tw := tVar 1) (to := tOp (rIxT K) (tVar 11) (tC (.int 1))) (ta := tVar 6) hw (σ := stG m w x a st v5 oa y7 k tr (some v10) (some v11) (some (.ref dp)) y13 y14 y15 y16 y18 y19) (ev_var rfl) (ep_ixT (i := 1) (ep_var rfl pE3) ev_c rfl) (ev_var rfl) g18.ea) (ev_c (v := .int 0)) (rv_I0 (g := fun i j => .bl (decide (i > j))))
              refine ev_if (et_test tst) (fun h => ?_) (fun h => ?_)
              · have h := of_decide_eq_true h
                refine ev_is (ev_epI (K := K) (ep_ixT (i := 2) (d := natD i) (ep_var rfl pE3) ev_c rfl)) ?_
                show V.int (i : Int) = V.int ((if rdO w S.e o > 0 then i else j : Nat) : Int)
                rw [if_pos (by omega)]
              · have h := of_decide_eq_false h
                refine ev_is (ev_epI (K := K) (ep_ixT (i := 3) (d := natD j) (ep_var rfl pE3) ev_c rfl)) ?_
                show V.int (j : Int) = V.int ((if rdO w S.e o > 0 then i else j : Nat) : Int)
                rw [if_neg (by omega)]
          · refine eu_tup (ea_cons (ev_var (v := .int (k : Int)) rfl) (ea_cons (ev_var (v := .int (nextG w S.e b.fin : Int)) rfl) ea_nil)) (by simp) H19 (Ex.refl H19) _ fun t H20 _ e20 ht => ⟨t, _, rfl, SqT.of ht, rfl, _, _, rfl, _, _, rfl, rfl, ?_⟩
            exact ⟨fl - C - 1, by omega, nextG w S.e b.fin, S, ks ++ [k], gas', .int (k : Int), _, _, _, _, _, _, _, _, _, rfl, g18.ex (e19.trans e20), pgE.tx (tx18.trans (tx_of (e19.trans e20))), by omega, hnx.1, hnx.2, by rw [List.length_append, List.length_singleton]; omega, hS⟩
end
end K36

namespace K36
open PySem PySem.Spec PyProof.Rows L2 Evl Pd Gd Dk
abbrev sLResult : Stmt := topS 48
abbrev sLAlike : Stmt := topS 49
theorem scLResult : FnScope ["module", "w", "args", "fuel", "state", "told"] ["module", "w", "args", "fuel"] (defScope sLResult) := ⟨rfl, rfl, rfl, by decide +kernel, rfl, by decide +kernel, by decide +kernel⟩
theorem scLAlike : FnScope ["one", "other", "w", "rows", "fuel", "args", "first", "second"] ["one", "other", "w", "rows", "fuel"] (defScope sLAlike) := ⟨rfl, rfl, rfl, by decide +kernel, rfl, by decide +kernel, by decide +kernel⟩
/-- a module and its first graph -/
structure MG (mods : List (Str × PyData)) (x : Str) (ps : List Nm) (g : Gr) : Prop where
  at0 : mods[0]? = some (x, gD ps g)
  nd : (mods.map (·.1)).Nodup
  pn : ps.Nodup
  gg : GGood g
  g0 : 0 < g.length
  cl : noCalls g ∨ ∃ j : Nat, mods[j]? = some (("f" : Str), gD [.a] calG)
def mem0 : Mem := List.replicate 8 0
def natsD (l : List Nat) : PyData := .tuple (l.map natD)
def RR (K : PySem.W.Frag) (H : Hp) (v : V) : Option (Nat × Mem × Nat) → Prop
  | none => v = .non
  | some (x, mem, _) => ∃ ks : List Nat, PV K H v (.tuple [natD x, natsD mem, natsD ks])
theorem RR.ex {K : PySem.W.Frag} {H H' : Hp} {v : V} {r : Option (Nat × Mem × Nat)} (h : RR K H v r) (e : Ex H H') : RR K H' v r := by
  cases r with
  | none => exact h
  | some r => exact let ⟨ks, p⟩ := h; ⟨ks, p.ex e⟩
def spResult (K : PySem.W.Frag) : Sp := fun vs H Q _ => ∃ (m a : Addr) (w : Nat) (mods : List (Str × PyData)) (x : Str) (ps : List Nm) (g : Gr) (ws : List Nat) (fu : Nat), vs = [.ref m, .int (w : Int), .ref a, .int (fu : Int)] ∧ Wd w ∧ ModAt K H m mods ∧ MG mods x ps g ∧ ps.length = ws.length ∧
  (SqL K H a (iV ws) ∨ SqT K H a (iV ws)) ∧ (∀ v ∈ ws, v < 2 ^ w) ∧ fu ≤ 1000 ∧ ∀ v H', Ex H H' → RR K H' v (go3 w g (fu + 1) 0 ⟨envOf ps ws, mem0⟩ fu) → Q v H'
section
variable {K : PySem.W.Frag} {H : Hp} {σ : L2.St} {D : Ends} {tz : L2.TS}
theorem iV_pvs (l : List Nat) : PVs K H (iV l) (l.map natD) := by
  have := PVs.ints (K := K) (H := H) (l.map fun (x : Nat) => (x : Int))
  rw [List.map_map, List.map_map] at this
  exact this
theorem iV_of {l : List Nat} {vs : List V} (h : PVs K H vs (l.map natD)) : vs = iV l := by
  have h2 : l.map natD = (l.map fun (x : Nat) => (x : Int)).map PyData.int := by rw [List.map_map]; rfl
  rw [h2] at h
  rw [h.of_ints, List.map_map]
  rfl
/-- module[0][0] -/
theorem ev_mod00 {ta : TE} {m : Addr} {mods : List (Str × PyData)} {x : Str} {d : PyData} (h : Ev ta σ H (.ref m)) (hm : ModAt K H m mods) (h0 : mods[0]? = some (x, d)) : Ev (tOp (rIxT K) (tOp (rIxT K) ta (tC (.int 0))) (tC (.int 0))) σ H (.str x) := by
  obtain ⟨o, ps, h1, h2, h3, h4⟩ := hm
  cases mods with
  | nil => cases h0
  | cons e mods =>
    cases h0
    cases ps with
    | nil => cases h4
    | cons p ps =>
      cases h4 with
      | cons p1 p2 => exact ev_epS (ep_ixT (i := 0) (ep_ev (ev_op h ev_c (rv_ixT (i := 0) (v := .ref p) (.inl (.inr ⟨o, h1⟩)) (atI_nat (xs := V.ref p :: ps.map V.ref) (j := 0) rfl))) p1) ev_c rfl)
theorem el_rep8 : EvL (tOp rRep (tLst (tCons (tC (.int 0)) tNil)) (tC (.int 8))) σ H (iV mem0) := fun H1 e Q q =>
  el_lst (σ := σ) (H := H1) (ea_cons (ev_c (v := .int 0)) ea_nil) (by decide) H1 (Ex.refl H1) _ fun l H2 hl e2 hl2 => ⟨l, 8, [.int 0], rfl, rfl, hl2, by decide, by decide, by decide, fun cl hcl => q cl _ (fresh_back e2 hcl) (e2.trans (Ex.new hcl)) upd_same⟩
/-- [n, [0] * 8] -/
theorem q_state {i : Nat} {te : TE} {n : Nat} (h : Ev te σ H (.int (n : Int))) (k : ∀ st cl H1, H st = none → H cl = none → st ≠ cl → Ex H H1 → StAt H1 st cl n mem0 → tz D (σ.set i (some (.ref st))) H1) :
    tSeq (tAsg (tLst (tCons te (tCons (tOp rRep (tLst (tCons (tC (.int 0)) tNil)) (tC (.int 8))) tNil))) (gName i)) tz D σ H :=
  h H (Ex.refl H) _ fun H1 e1 => el_rep8 H1 (Ex.refl H1) _ fun cl H2 hcl e2 h2 => ⟨sz_of (by simp), fun st hst => by
    have e12 : Ex H H2 := e1.trans e2
    have hc : st ≠ cl := fun z => by rw [z, h2] at hst; cases hst
    refine k st cl _ (fresh_back e12 hst) (fresh_back e1 hcl) hc (e12.trans (Ex.new hst)) ⟨upd_same, ?_⟩
    rw [upd_ne (Ne.symm hc)]
    exact h2⟩
end
section
variable {P : Program} {w : World} {K : PySem.W.Frag} {mg : Str → Option Value} {base : Heap}
theorem ok_lresult {f fG : Addr} {fd fdG : FuncData} {n : Nat} (F : Fun K "_law_result" "_law_result" sLResult f fd) (GG : FnOk P w K mg base CX0 n fG fdG ["module", "w", "name", "args", "state"] (spGo K true)) (kG : PySem.W.keepIn K (.ref fG) = true) (bG : Binds K fdG ["module", "w", "name", "args", "state"] []) (gG : mg "_law_go" = some (.ref fG))
    (mt : mg "tuple" = none) : FnOk P w K mg base CX0 (n + 1) f fd ["module", "w", "args", "fuel"] (spResult K) := by
  refine F.ok scLResult (fun vs H Q E h => ?_) (fun cdv A outer s H vs Q E hr h => ?_)
  · obtain ⟨m, a, w, mods, x, ps, g, ws, fu, rfl, _⟩ := h
    rfl
  · obtain ⟨m, a, w, mods, x, ps, g, ws, fu, rfl, hw, hM, mg0, hl, ha, hws, hfu, q⟩ := h
    refine ⟨_, pss_cons (ps_set (i := 4) scLResult.nd rfl (.inl rfl) (pe_lst (pa_cons (pv 3) (pa_cons (pe_op op_rep (pe_lst (pa_cons pe_int pa_nil)) pe_int) pa_nil))))
      (pss_cons (ps_set (i := 5) scLResult.nd rfl (.inl rfl) (pe_call GG hr (by rfl) gG kG bG .nil pass0 (pa_cons (pv 0) (pa_cons (pv 1) (pa_cons (pe_ix ix_tup (pe_ix ix_tup (pv 0) pe_int (fun _ _ => rfl)) pe_int (fun _ _ => rfl)) (pa_cons (pv 2) (pa_cons (pv 4) pa_nil)))))))
      (pss_one (ps_ret (pe_ifExp (pt_cmpR op_isN (pv 5) pe_non (nomark _)) pe_non (pe_tup (pa_cons (pe_ix ix_tup (pv 5) pe_int (fun _ _ => rfl)) (pa_cons (pe_tupleOf (by rfl) mt (pe_ix ix_list (pv 4) pe_int (fun _ _ => rfl))) (pa_cons (pe_tupleOf (by rfl) mt (pe_ix ix_tup (pv 5) pe_int (fun _ _ => rfl))) pa_nil)))))))), ?_⟩
    refine q_state (ev_var rfl) fun st cl H1 hst hcl hsc e1 hs => ?_
    refine q_call5 (v1 := .ref m) (v2 := .int (w : Int)) (v3 := .str x) (v4 := .ref a) (v5 := .ref st) (ev_var rfl) (ev_var rfl) (ev_mod00 (ev_var rfl) (hM.ex e1) mg0.at0) (ev_var rfl) (ev_var rfl) fun H2 e2 => ?_
    have e12 := e1.trans e2
    refine ⟨m, a, st, cl, w, x, mods, 0, ps, g, ws, fu, mem0, rfl, hw, hM.ex e12, mg0.at0, mg0.nd, mg0.pn, hl, ha.elim (fun h => .inl (ex_l e12 h)) (fun h => .inr (ex_t e12 h)), hs.ex e2, hsc, hws, rfl, (fun v hv => by rw [(List.mem_replicate.mp hv).2]; exact pow_pos2 w), mg0.gg, mg0.g0, hfu, mg0.cl.elim .inl (fun h => .inr ⟨rfl, h⟩), ?_⟩
    have back : ∀ {H3 : Hp}, Exl2 st cl H2 H3 → Ex H H3 := fun x a o ha => x a o (e12 _ _ ha) (ne_of_none ha hst) (ne_of_none ha hcl)
    cases hr3 : go3 w g (fu + 1) 0 ⟨envOf ps ws, mem0⟩ fu with
    | none =>
      rw [hr3] at q
      intro H3 x3 t3
      refine s_ret (v := .non) (ev_if (b := true) (et_test (ev_is (ev_op (ev_var (v := .non) rfl) ev_c (fun H1 e Q q => ⟨rfl, q H1 (Ex.refl H1)⟩)) rfl)) (fun _ => ev_c) (fun e => by cases e)) fun H4 e4 => q _ H4 ((back x3).trans e4) rfl
    | some r =>
      obtain ⟨x', mem', fu'⟩ := r
      rw [hr3] at q
      intro t tr ks H3 x3 t3 ht htr hks hs3
      have b3 := back x3
      refine s_retP (K := K) (d := .tuple [natD x', natsD mem', natsD ks]) (ep_if (b := false) (et_test (ev_is (ev_op (ev_var (v := .ref t) rfl) ev_c (fun H1 e Q q => ⟨rfl, q H1 (Ex.refl H1)⟩)) (congrArg V.bl (decide_eq_false (by intro z; cases z))))) (fun e => by cases e) (fun _ => ?_)) fun v H4 e4 pv => q v H4 (b3.trans e4) ⟨ks, pv⟩
      refine ep_tup (eps_cons (ep_evI (ev_op (ev_var (v := .ref t) rfl) ev_c (rv_ixT (SqT.of ht) rfl))) (eps_cons ?_ (eps_cons ?_ eps_nil))) (by simp)
      · exact ep_tupleS (ev_op (ev_var (v := .ref st) rfl) ev_c (rv_ixL (SqL.of hs3.s) rfl)) hs3.c (iV_pvs mem')
      · exact ep_tupleS (ev_op (ev_var (v := .ref t) rfl) ev_c (rv_ixT (SqT.of ht) rfl)) htr (iV_pvs ks)
end
def AlikeR (w : Nat) (ps ps' : List Nm) (g g' : Gr) (fu : Nat) (ws : List Nat) : Prop := ∀ r, go w g (fu + 1) 0 ⟨envOf ps ws, mem0⟩ fu = some r → go w g' (3 * fu + 1) 0 ⟨envOf ps' ws, mem0⟩ (3 * fu) = some r
def spAlike (K : PySem.W.Frag) : Sp := fun vs H Q _ => ∃ (m1 m2 rl : Addr) (w : Nat) (mods mods' : List (Str × PyData)) (x x' : Str) (ps ps' : List Nm) (g g' : Gr) (rs : List V) (rows : List (List Nat)) (fu : Nat), vs = [.ref m1, .ref m2, .int (w : Int), .ref rl, .int (fu : Int)] ∧ Wd w ∧ ModAt K H m1 mods ∧ MG mods x ps g ∧ ModAt K H m2 mods' ∧ MG mods' x' ps' g' ∧
  H rl = some (.lst rs) ∧ PVs K H rs (rows.map natsD) ∧ (∀ ws ∈ rows, ps.length = ws.length ∧ ps'.length = ws.length ∧ (∀ v ∈ ws, v < 2 ^ w) ∧ AlikeR w ps ps' g g' fu ws) ∧ 3 * fu ≤ 1000 ∧ ∀ H', Ex H H' → Q (.bl true) H'
section
variable {K : PySem.W.Frag} {H : Hp} {σ : L2.St} {D : Ends} {tz : L2.TS} {E : XK}
theorem natsD_can (l : List Nat) : PyData.canLay0 (natsD l) = true := by
  unfold natsD
  rw [PyData.canLay0]
  exact canAll_map _ (fun n => by simp [natD, PyData.canLay0]) l
theorem two_shaped (x : Nat) (l : List Nat) : SeqAt.shaped (.tuple [natD x, natsD l]) = true := shaped_of (by
    simp [PyData.canLay0, PyData.canLayAll0, natD, natsD_can]) (by
    have := depthAll_map natD 0 (fun n => by simp [natD, PyData.depth]) l
    have h2 : (natsD l).depth ≤ 1 := by unfold natsD; rw [PyData.depth]; omega
    simp only [PyData.depth, PyData.depthAll, natD]
    omega)
theorem two_eqv (x : Nat) (l : List Nat) : PyData.eqv (.tuple [natD x, natsD l]) (.tuple [natD x, natsD l]) = true := by
  have hn : nob (.tuple [natD x, natsD l]) = true := by
    have h2 : nob (natsD l) = true := by unfold natsD; rw [nob]; exact nobs_map _ (fun n => rfl) l
    simp [nob, nobs, natD, h2]
  exact (eqv_iff _ _ hn hn).mpr rfl
/-- x = _law_result(..) -/
theorem q_result {i : Nat} {t1 t2 t3 t4 : TE} {m a : Addr} {w : Nat} {mods : List (Str × PyData)} {x : Str} {ps : List Nm} {g : Gr} {ws : List Nat} {fu : Nat} (h1 : Ev t1 σ H (.ref m)) (h2 : Ev t2 σ H (.int (w : Int))) (h3 : Ev t3 σ H (.ref a)) (h4 : Ev t4 σ H (.int (fu : Int)))
    (hw : Wd w) (hM : ModAt K H m mods) (mg0 : MG mods x ps g) (hl : ps.length = ws.length) (ha : SqT K H a (iV ws)) (hws : ∀ v ∈ ws, v < 2 ^ w) (hfu : fu ≤ 1000) (k : ∀ v H1, Ex H H1 → RR K H1 v (go3 w g (fu + 1) 0 ⟨envOf ps ws, mem0⟩ fu) → tz D (σ.set i (some v)) H1) :
    tSeq (tAsg (tCall (spResult K) [] E (tCons t1 (tCons t2 (tCons t3 (tCons t4 tNil))))) (gName i)) tz D σ H :=
  h1 H (Ex.refl H) _ fun H1 e1 => h2 H1 e1 _ fun H2 e2 => h3 H2 (e1.trans e2) _ fun H3 e3 => h4 H3 ((e1.trans e2).trans e3) _ fun H4 e4 =>
    have x := ((e1.trans e2).trans e3).trans e4
    ⟨m, a, w, mods, _, ps, g, ws, fu, rfl, hw, hM.ex x, mg0, hl, .inr (ex_t x ha), hws, hfu, fun v H5 e5 r => k v H5 (x.trans e5) r⟩
end
section
variable {P : Program} {w : World} {K : PySem.W.Frag} {mg : Str → Option Value} {base : Heap}
theorem ok_alike {f fR : Addr} {fd fdR : FuncData} {n : Nat} (F : Fun K "_law_alike" "_law_alike" sLAlike f fd) (GR : FnOk P w K mg base CX0 n fR fdR ["module", "w", "args", "fuel"] (spResult K)) (kR : PySem.W.keepIn K (.ref fR) = true) (bR : Binds K fdR ["module", "w", "args", "fuel"] []) (gR : mg "_law_result" = some (.ref fR)) : FnOk P w K mg base CX0 (n + 1) f fd ["one", "other", "w", "rows", "fuel"] (spAlike K) := by
  refine F.ok scLAlike (fun vs H Q E h => ?_) (fun cdv A outer s H vs Q E hr h => ?_)
  · obtain ⟨m1, m2, rl, w, mods, mods', x, x', ps, ps', g, g', rs, rows, fu, rfl, _⟩ := h
    rfl
  · obtain ⟨m1, m2, rl, w, mods, mods', x, x', ps, ps', g, g', rs, rows, fu, rfl, hw, hM, mg1, hM', mg2, hrl, prs, hrows, hfu, q⟩ := h
    refine ⟨_, pss_cons (ps_for PassesOwn.never rfl (pi_list (pv 3)) (pg_name (i := 5) scLAlike.nd rfl (.inl rfl))
        (pss_cons (ps_set (i := 6) scLAlike.nd rfl (.inl rfl) (pe_call GR hr (by rfl) gR kR bR .nil pass0 (pa_cons (pv 0) (pa_cons (pv 2) (pa_cons (pv 5) (pa_cons (pv 4) pa_nil))))))
        (pss_cons (ps_set (i := 7) scLAlike.nd rfl (.inl rfl) (pe_call GR hr (by rfl) gR kR bR .nil pass0 (pa_cons (pv 1) (pa_cons (pv 2) (pa_cons (pv 5) (pa_cons (pe_op op_mul pe_int (pv 4)) pa_nil))))))
        (pss_one (ps_if (PW.pt (pw_and (pt_cmpR op_notN (pv 6) pe_non (nomark _)) (pw_and1 (PW.pt (pw_or (pt_cmpR op_isN (pv 7) pe_non (nomark _)) (pw_or1 (pt_cmpR (op_neD hr.units) (pe_slice sl_tupA (pv 6) po_none (po_some pe_int)) (pe_slice sl_tupA (pv 7) po_none (po_some pe_int)) (nomark _)))))))) (pss_one (ps_ret pe_bl)) pss_nil)))))
      (pss_one (ps_ret pe_bl)), ?_⟩
    refine q_forL (ev_var rfl) (SqL.of hrl) (fun i σ' H' => ∃ y5 y6 y7, σ' = [some (.ref m1), some (.ref m2), some (.int (w : Int)), some (.ref rl), some (.int (fu : Int)), y5, y6, y7] ∧ Ex H H') (fun H1 e1 => ⟨_, _, _, rfl, e1⟩) (fun i σ' H' _ ⟨_, _, _, _, e⟩ => SqL.of (e _ _ hrl)) ?_ ?_
    · rintro i v σ' H1 hv ⟨y5, y6, y7, rfl, e1⟩
      obtain ⟨ws, hws, pv⟩ : ∃ ws, ws ∈ rows ∧ PV K H v (natsD ws) := by
        clear hrows hrl
        induction rows generalizing rs i with
        | nil =>
          cases prs
          cases hv
        | cons w0 rows ih =>
          cases prs with
          | cons p1 p2 =>
            cases i with
            | zero =>
              cases hv
              exact ⟨w0, List.mem_cons_self, p1⟩
            | succ i =>
              obtain ⟨ws, h1, h2⟩ := ih _ p2 _ (by simpa using hv)
              exact ⟨ws, List.mem_cons_of_mem _ h1, h2⟩
      obtain ⟨l1, l2, hlt, hal⟩ := hrows ws hws
      obtain ⟨a, xs, rfl, hx, px⟩ := pv_tup pv
      rw [iV_of px] at hx
      refine q_result (K := K) (ev_var rfl) (ev_var rfl) (ev_var (v := .ref a) rfl) (ev_var rfl) hw (hM.ex e1) mg1 l1 (hx.tx (tx_of e1)).sq hlt (by omega) fun v6 H2 e2 r6 => ?_
      have e12 := e1.trans e2
      refine q_result (K := K) (fu := 3 * fu) (ev_var rfl) (ev_var rfl) (ev_var (v := .ref a) rfl) (ev_is (ev_op (r := rI CMul fun i j => .int (i * j)) ev_c (ev_var (v := .int (fu : Int)) rfl) (rv_I (.inl ⟨by decide, by omega⟩))) (show V.int ((3 : Int) * fu) = V.int ((3 * fu : Nat) : Int) by congr 1)) hw (hM'.ex e12) mg2 l2 (hx.tx (tx_of e12)).sq hlt hfu fun v7 H3 e3 r7 => ?_
      have e13 := e12.trans e3
      cases hr6 : go3 w g (fu + 1) 0 ⟨envOf ps ws, mem0⟩ fu with
      | none =>
        rw [hr6] at r6
        cases (show v6 = .non from r6)
        exact s_when (b := false && false) (et_and (et_test (ev_is (ev_op (ev_var (v := .non) rfl) ev_c (fun H1 e Q q => ⟨rfl, q H1 (Ex.refl H1)⟩)) rfl)) (fun z => by cases z)) (fun e => by cases e) (fun _ H4 e4 => ⟨_, _, _, rfl, e13.trans e4⟩)
      | some r =>
        have h7 := hal (r.1, r.2.1) (by rw [go_go3, hr6]; rfl)
        rw [go_go3] at h7
        cases hr7 : go3 w g' (3 * fu + 1) 0 ⟨envOf ps' ws, mem0⟩ (3 * fu) with
        | none => rw [hr7] at h7; cases h7
        | some r' =>
          rw [hr7] at h7 r7
          rw [hr6] at r6
          obtain ⟨x1, l1', f1⟩ := r
          obtain ⟨x2, l2', f2⟩ := r'
          cases h7
          obtain ⟨ks, p6⟩ := r6
          obtain ⟨ks', p7⟩ := r7
          obtain ⟨a6, xs6, rfl, hx6, px6⟩ := pv_tup p6
          obtain ⟨a7, xs7, rfl, hx7, px7⟩ := pv_tup p7
          have hsh := two_shaped x1 l1'
          refine s_when (b := true && (false || false)) (et_and (et_test (ev_is (ev_op (ev_var (v := .ref a6) rfl) ev_c (fun H1 e Q q => ⟨rfl, q H1 (Ex.refl H1)⟩)) (congrArg V.bl (by rw [decide_eq_false (by intro z; cases z)]; rfl)))) (fun _ => et_or (et_test (ev_is (ev_op (ev_var (v := .ref a7) rfl) ev_c (fun H1 e Q q => ⟨rfl, q H1 (Ex.refl H1)⟩)) (congrArg V.bl (decide_eq_false (by intro z; cases z))))) fun _ =>
            et_test (ev_is (et_neD (ep_slTo (k := 2) (ep_var rfl (p6.ex e3))) (ep_slTo (k := 2) (ep_var rfl p7)) hsh hsh) (congrArg V.bl (show (!PyData.eqv (.tuple [natD x1, natsD l1']) (.tuple [natD x1, natsD l1'])) = false by rw [two_eqv]; rfl))))) (fun e => by cases e) (fun _ H4 e4 => ⟨_, _, _, rfl, e13.trans e4⟩)
    · rintro σ' H1 ⟨y5, y6, y7, rfl, e1⟩
      exact s_ret ev_c fun H2 e2 => q H2 (e1.trans e2)
end
end K36

namespace Dk
open PySem PySem.Spec PyProof.Rows L2 Evl Pd Gd
section
variable {K : PySem.W.Frag} {H H' : Hp} {σ : L2.St} {D : Ends} {tz tu : L2.TS} {ta : TA} {te tb td tm : TE} {d ls : Addr} {ns : List Int} {S T : PyData → Prop} {E : XK}
/-- [.. for k in range(n)], each drawn, n told -/
theorem exl_rangeN {ta : TA} {j : Nat} {vs : List Nat} {m : Nat} (ha : EvXs K d ls ns ta σ H (fun es => es = [.int (m : Int)])) (hm : m ≤ 1000) (hw : ∀ x, wipe ((wipe σ vs).set j (some x)) vs = wipe σ vs)
    (he : ∀ (i : Nat), EvX K d ls ns te ((wipe σ vs).set j (some (.int (i : Int)))) H S) : EvXL K d ls ns (tLc (iRng1 ta) (gName j) tYes te vs) σ H (fun es => es.length = m ∧ ∀ e ∈ es, S e) := fun H1 a D Q q =>
  ha H1 a D _ fun us es H2 hs a2 D2 pu => by
    subst hs
    obtain ⟨u, rfl, pu1⟩ : ∃ u, us = [u] ∧ PV K H2 u (.int (m : Int)) := by
      cases pu with
      | cons a b => cases b; exact ⟨_, rfl, a⟩
    cases pv_int pu1
    refine ⟨(m : Int), rfl, by omega, by omega, fun Dl hD => ?_⟩
    obtain ⟨n1, n2⟩ := D2.nes hD
    refine lc_range (lo := 0) (n := m) (fun i H' => ∃ (ws : List V) (es : List PyData), es.length = i ∧ (∀ e ∈ es, S e) ∧ H' Dl = some (.lst ws) ∧ PVs K H' ws es ∧ Exl d H2 H' ∧ Deck H' d ls ns) ⟨[], [], rfl, (fun e h => by cases h), upd_same, .nil, exl_of (Ex.new hD), D2.ex (Ex.new hD)⟩ (fun i H' hi p => ?_) (fun H' p => ?_)
    · obtain ⟨ws, es, p1, p2, p3, p4, p5, p6⟩ := p
      have e0 : (0 : Int) + (i : Int) = (i : Int) := Int.zero_add _
      rw [e0]
      refine ⟨hw _, ?_⟩
      show te _ H' fun y H4 => ∃ acc, H4 Dl = some (.lst acc) ∧ acc.length < sizeLine ∧ _
      refine he i H' ((a.trans a2).trans p5) p6 _ fun v e H4 s a4 D4 pv => ⟨ws, a4 _ _ p3 n1, ?_, ws ++ [v], es ++ [e], by simp [p1], fun e' h => ?_, upd_same, ?_, ?_, D4.upd n1 n2⟩
      · rw [p4.length, p1]
        exact sz_lt (by omega)
      · rcases List.mem_append.mp h with h | h
        · exact p2 e' h
        · rw [List.mem_singleton.mp h]
          exact s
      · exact ((p4.tx (p6.tx a4)).append (PVs.one pv)).tx (Tx.updL (a4 _ _ p3 n1))
      · exact (p5.trans a4).mut hD
    · obtain ⟨ws, es, p1, p2, p3, p4, p5, p6⟩ := p
      exact q Dl ws es H' (fresh_backl a2 D2.some hD) ⟨by omega, p2⟩ (a2.trans p5) p6 p3 p4
/-- one number -/
theorem exs_int1 {n : Int} (h : ∀ H1, Exl d H H1 → Ev te σ H1 (.int n)) : EvXs K d ls ns (tCons te tNil) σ H (fun es => es = [.int n]) := fun H1 a D Q q => h H1 a H1 (Ex.refl H1) _ fun H2 e2 => q [.int n] [.int n] H2 rfl (exl_of e2) (D.ex e2) (.cons (.int n) .nil)
/-- a list that is drawn, kept in a name -/
theorem q_asgXL {i : Nat} {R : List PyData → Prop} (h : EvXL K d ls ns te σ H R) (Dk : Deck H d ls ns) (k : ∀ p vs es H1, H p = none → R es → Exl d H H1 → Deck H1 d ls ns → H1 p = some (.lst vs) → PVs K H1 vs es → tz D (σ.set i (some (.ref p))) H1) : tSeq (tAsg te (gName i)) tz D σ H := h H (Exl.refl H) Dk _ k
theorem s_retXL {R : List PyData → Prop} (h : EvXL K d ls ns te σ H R) (Dk : Deck H d ls ns) (k : ∀ p vs es H1, H p = none → R es → Exl d H H1 → Deck H1 d ls ns → H1 p = some (.lst vs) → PVs K H1 vs es → D.rt (.ref p) H1) : tRet te D σ H := h H (Exl.refl H) Dk _ k
end
end Dk
namespace K36
open PySem PySem.Spec PyProof.Rows L2 Evl Pd Gd Dk
abbrev sLRows : Stmt := topS 50
theorem scLRows : FnScope ["d", "w", "many", "j", "k"] ["d", "w", "many"] (defScope sLRows) := ⟨rfl, rfl, rfl, by decide +kernel, rfl, by decide +kernel, by decide +kernel⟩
abbrev scIn : Scope := { kind := .function, names := [(".0", .local), ("k", .local), ("tuple", .globalImplicit), ("range", .globalImplicit), ("d", .cell), ("many", .cell), ("w", .cell)], isGenerator := false, isCoroutine := false }
/-- the rows that are drawn -/
def RowOk (w many : Nat) (ws : List Nat) : Prop := ws.length = many ∧ ∀ v ∈ ws, v < 2 ^ w
def spLRows (K : PySem.W.Frag) : Sp := fun vs H Q _ => ∃ (d ls : Addr) (ns : List Int) (w many : Nat), vs = [.ref d, .int (w : Int), .int (many : Int)] ∧ Deck H d ls ns ∧ ns.length ≤ 63 ∧ Wd w ∧ many ≤ 100 ∧
  ∀ (p : Addr) (vs : List V) (rows : List (List Nat)) (H' : Hp), H p = none → (∀ ws ∈ rows, RowOk w many ws) → Exl d H H' → Deck H' d ls ns → H' p = some (.lst vs) → PVs K H' vs (rows.map natsD) → Q (.ref p) H'
theorem nats_of {w : Nat} : ∀ {es : List PyData}, (∀ e ∈ es, ∃ r : Nat, r < 2 ^ w ∧ e = .int (r : Int)) → ∃ ws : List Nat, ws.length = es.length ∧ (∀ v ∈ ws, v < 2 ^ w) ∧ es = ws.map natD
  | [], _ => ⟨[], rfl, (fun v h => by cases h), rfl⟩
  | e :: es, h => by
    obtain ⟨ws, h1, h2, h3⟩ := nats_of (es := es) fun e' he => h e' (List.mem_cons_of_mem _ he)
    obtain ⟨r, hr, he⟩ := h e List.mem_cons_self
    refine ⟨r :: ws, by simp [h1], fun v hv => ?_, by rw [h3, he]; rfl⟩
    rcases List.mem_cons.mp hv with z | z
    · rw [z]
      exact hr
    · exact h2 v z
theorem rows_of {w m : Nat} : ∀ {es : List PyData}, (∀ e ∈ es, ∃ ws : List Nat, RowOk w m ws ∧ e = natsD ws) → ∃ rows : List (List Nat), (∀ ws ∈ rows, RowOk w m ws) ∧ es = rows.map natsD
  | [], _ => ⟨[], (fun v h => by cases h), rfl⟩
  | e :: es, h => by
    obtain ⟨rows, h2, h3⟩ := rows_of (es := es) fun e' he => h e' (List.mem_cons_of_mem _ he)
    obtain ⟨ws, hr, he⟩ := h e List.mem_cons_self
    refine ⟨ws :: rows, fun v hv => ?_, by rw [h3, he]; rfl⟩
    rcases List.mem_cons.mp hv with z | z
    · rw [z]
      exact hr
    · exact h2 v z
section
variable {P : Program} {w : World} {K : PySem.W.Frag} {mg : Str → Option Value} {base : Heap}
theorem ok_lrows {f fT : Addr} {fd fdT : FuncData} (F : Fun K "_law_rows" "_law_rows" sLRows f fd) (GT : FnOk P w K mg base CX0 1 fT fdT ["d", "many"] spTake) (kT : PySem.W.keepIn K (.ref fT) = true) (bT : Binds K fdT ["d", "many"] []) (gT : mg "_law_take" = some (.ref fT)) (mt : mg "tuple" = none) (mr : mg "range" = none) : FnOk P w K mg base CX0 2 f fd ["d", "w", "many"] (spLRows K) := by
  refine F.ok scLRows (fun vs H Q E h => ?_) (fun cdv A outer s H vs Q E hr h => ?_)
  · obtain ⟨d, ls, ns, w, many, rfl, _⟩ := h
    rfl
  · obtain ⟨d, ls, ns, w, many, rfl, D, hl, hw, hm, q⟩ := h
    refine ⟨_, pss_one (ps_ret (pe_lc (own := [("k", 4)]) (g := gName 4) (tt := tYes) (te := tThen (tLc (iRng1 (tCons (tVar 2) tNil)) (gName 3) tYes (tCall spTake [] E0 (tCons (tVar 0) (tCons (tOp (rI CPow fun i j => .int (i * 2 ^ j.toNat)) (tC (.int 1)) (tVar 1)) tNil))) [3]) (kTup K)) rfl scLRows.nd (pi_range1 rfl mr (pa_cons pe_int pa_nil)) (blkOk_by (N := ["d", "w", "many", "j", "k"]) (sc := defScope sLRows) (by decide +kernel))
        (fun _ _ _ _ _ => pg_name (i := 4) scLRows.nd rfl (Or.inl rfl)) (fun _ _ _ _ _ => pts_nil)
        (fun _ _ _ _ _ => pe_tupleOf (by rfl) mt (pe_lc (own := [("j", 3)]) (g := gName 3) (tt := tYes) (te := tCall spTake [] E0 (tCons (tVar 0) (tCons (tOp (rI CPow fun i j => .int (i * 2 ^ j.toNat)) (tC (.int 1)) (tVar 1)) tNil))) rfl scLRows.nd (pi_range1 rfl mr (pa_cons (pv 2) pa_nil)) (blkOk_by (N := ["d", "w", "many", "j", "k"]) (sc := scIn) (by decide +kernel))
          (fun _ _ _ _ _ => pg_name (i := 3) scLRows.nd rfl (Or.inl rfl)) (fun _ _ _ _ _ => pts_nil) (fun _ _ _ _ _ => pe_call GT hr (by rfl) gT kT bT .nil pass0 (pa_cons (pv 0) (pa_cons (pe_op op_shl pe_int (pv 1)) pa_nil))))))), ?_⟩
    have hp := hw.pow
    refine s_retXL (K := K) (exl_rangeN (m := 4) (S := fun e => ∃ ws : List Nat, RowOk w many ws ∧ e = natsD ws) (exs_int1 fun _ _ => ev_c) (by decide) (fun x => rfl) fun i => ex_tupleOf (exl_rangeN (m := many) (S := fun e => ∃ r : Nat, r < 2 ^ w ∧ e = .int (r : Int)) (exs_int1 fun _ _ => ev_var rfl) (by omega) (fun x => rfl) fun i => ex_take (fun _ _ => ev_var rfl) (fun _ _ => ev_is (shl1 (ev_var rfl) (w_le hw)) (by simp)) (pow_pos2 w) (by omega) hl) fun es ⟨h1, h2⟩ => ?_) D fun p vs es H1 hp ⟨_, hR⟩ a1 D1 hl1 ps => ?_
    · obtain ⟨ws, a1, a2, a3⟩ := nats_of h2
      exact ⟨ws, ⟨by omega, a2⟩, by rw [a3]; rfl⟩
    · obtain ⟨rows, r1, rfl⟩ := rows_of hR
      exact q p vs rows H1 hp r1 a1 D1 hl1 ps
end
end K36

namespace K36
open PySem PySem.Spec PyProof.Rows L2 Evl Pd Gd Dk
abbrev sLTerms : Stmt := topS 51
theorem scLTerms : FnScope ["steps", "terms", "acts", "step", "parts", "own", "part"] ["steps"] (defScope sLTerms) := ⟨rfl, rfl, rfl, by decide +kernel, rfl, by decide +kernel, by decide +kernel⟩
structure TmAt (K : PySem.W.Frag) (H : Hp) (td ta : Addr) (r : RS) : Prop where
  ne : td ≠ ta
  te : DAt K H td (kdOf r.terms)
  ac : ∃ as, H ta = some (.lst as) ∧ PVs K H as (r.acts.map Act.d)
section
variable {K : PySem.W.Frag} {H H' : Hp} {σ : L2.St} {td ta : Addr} {r : RS} {D : Ends} {tz : L2.TS}
theorem TmAt.ex (R : TmAt K H td ta r) (e : Ex H H') : TmAt K H' td ta r := ⟨R.ne, R.te.ex e, let ⟨as, h1, h2⟩ := R.ac; ⟨as, e _ _ h1, h2.ex e⟩⟩
theorem TmAt.act (R : TmAt K H td ta r) {as : List V} (h : H ta = some (.lst as)) (pa : PVs K H as (r.acts.map Act.d)) {v : V} {a : Act} (p1 : PV K H v a.d) : TmAt K (upd H ta (.lst (as ++ [v]))) td ta ⟨r.terms, r.acts ++ [a]⟩ := by
  have tx : Tx H (upd H ta (.lst (as ++ [v]))) := Tx.updL h
  obtain ⟨ks, h1, h2⟩ := R.te
  refine ⟨R.ne, ⟨ks, by rw [upd_ne R.ne]; exact h1, h2.tx tx⟩, as ++ [v], upd_same, ?_⟩
  show PVs K _ _ ((r.acts ++ [a]).map Act.d)
  rw [List.map_append]
  exact (pa.append (PVs.one p1)).tx tx
theorem TmAt.put (R : TmAt K H td ta r) {ks : List (Key × V)} (h : H td = some (.dK ks)) (pk : KDat K H ks (kdOf r.terms)) {v : V} {n : Nm} {t : Tm} (p1 : PV K H v t.d) : TmAt K (upd H td (.dK (putK ks (Sum.inr n.s) v))) td ta ⟨tput r.terms n t, r.acts⟩ := by
  have tx : Tx H (upd H td (.dK (putK ks (Sum.inr n.s) v))) := Tx.updD h
  obtain ⟨as, h1, h2⟩ := R.ac
  refine ⟨R.ne, ⟨_, upd_same, ?_⟩, as, by rw [upd_ne (Ne.symm R.ne)]; exact h1, h2.tx tx⟩
  rw [← putD_kd]
  exact (pk.put _ p1).tx tx
/-- {"op": t[3:], "store": t[1:], "call": ..}.get(t[0], t[2:]) -/
abbrev tParts (K : PySem.W.Frag) (j : Nat) : TE := tDGet2 (tDisp [(tC (.str "op"), tSl (rSlA K) (tVar j) (tPart (tC (.int 3))) tNoPart), (tC (.str "store"), tSl (rSlA K) (tVar j) (tPart (tC (.int 1))) tNoPart), (tC (.str "call"), tIf (tTest (tOp rEq (tOp (rIxT K) (tVar j) (tC (.int 0))) (tC (.str "call")))) (tOp (rIxT K) (tVar j) (tC (.int 3))) (tTup tNil))])
  (tOp (rIxT K) (tVar j) (tC (.int 0))) (tSl (rSlA K) (tVar j) (tPart (tC (.int 2))) tNoPart)
theorem ep_parts {j : Nat} {v : V} {s : Stp} (h : σ[j]? = some (some v)) (p : PV K H v s.d) : EvP K (tParts K j) σ H (.tuple (s.reads.map Opd.d)) := by
  intro H1 e1 Q q
  have p1 := p.ex e1
  refine fun dp hdp => ?_
  have en : Ex H1 (upd H1 dp (.dK [])) := Ex.new hdp
  have sl : ∀ {G : Hp} (k : Nat), Ex H1 G → EvP K (tSl (rSlA K) (tVar j) (tPart (tC (.int (k : Int)))) tNoPart) σ G (.tuple (s.ds.drop k)) := fun k e => ep_slT (ep_var h (by rw [← s.d_ds]; exact p1.ex e))
  have kd : ∀ {G : Hp}, Ex H1 G → Ev (tOp (rIxT K) (tVar j) (tC (.int 0))) σ G (.str s.kind) := fun e => ev_kind (ep_var h (p1.ex e))
  refine ev_c (v := .str "op") _ (Ex.refl _) _ fun G1 g1 => sl (G := G1) 3 (en.trans g1) G1 (Ex.refl G1) _ fun v1 G2 g2 q1 => ?_
  refine ev_c (v := .str "store") G2 (Ex.refl _) _ fun G3 g3 => sl (G := G3) 1 ((en.trans g1).trans (g2.trans g3)) G3 (Ex.refl G3) _ fun v2 G4 g4 q2 => ?_
  have g14 := ((en.trans g1).trans (g2.trans g3)).trans g4
  refine ev_c (v := .str "call") G4 (Ex.refl _) _ fun G5 g5 => ?_
  have g15 := g14.trans g5
  have c3 : EvP K (tIf (tTest (tOp rEq (tOp (rIxT K) (tVar j) (tC (.int 0))) (tC (.str "call")))) (tOp (rIxT K) (tVar j) (tC (.int 3))) (tTup tNil)) σ G5 (.tuple (match s with | .call _ a => [a.d] | _ => [])) := by
    refine ep_if (et_test (ev_is (et_eqS (kd g15) ev_c) (congrArg V.bl (kind_call s)))) (fun hb => ?_) (fun hb => ?_)
    · cases s with
      | call n a => exact ep_ixT (i := 3) (ep_var h (by rw [← Stp.d_ds]; exact p1.ex g15)) ev_c rfl
      | op _ _ _ _ => cases hb
      | copy _ _ => cases hb
      | load _ _ => cases hb
      | store _ _ => cases hb
    · cases s with
      | call n a => cases hb
      | op _ _ _ _ => exact ep_tup eps_nil (by simp)
      | copy _ _ => exact ep_tup eps_nil (by simp)
      | load _ _ => exact ep_tup eps_nil (by simp)
      | store _ _ => exact ep_tup eps_nil (by simp)
  refine c3 G5 (Ex.refl G5) _ fun v3 G6 g6 q3 => ?_
  have g26 := (((g2.trans g3).trans g4).trans g5).trans g6
  refine ⟨(g1.trans g26) _ _ upd_same, [(Sum.inr "op", v1), (Sum.inr "store", v2), (Sum.inr "call", v3)], rfl, by simp, ?_⟩
  have hm : mergeK [] [((Sum.inr "op" : Key), v1), (Sum.inr "store", v2), (Sum.inr "call", v3)] = [((Sum.inr "op" : Key), v1), (Sum.inr "store", v2), (Sum.inr "call", v3)] := mergeK_new (acc := []) (by
    show [(Sum.inr "op" : Key), Sum.inr "store", Sum.inr "call"].Nodup
    decide +kernel)
  rw [hm]
  have hdG : G6 dp = some (.dK []) := (g1.trans g26) _ _ upd_same
  have eG : Ex H1 (upd G6 dp (.dK [((Sum.inr "op" : Key), v1), (Sum.inr "store", v2), (Sum.inr "call", v3)])) := Ex.mut (en.trans (g1.trans g26)) hdp
  have tG : Tx G6 (upd G6 dp (.dK [((Sum.inr "op" : Key), v1), (Sum.inr "store", v2), (Sum.inr "call", v3)])) := Tx.updD hdG
  have q1' := (q1.ex (((g3.trans g4).trans g5).trans g6)).tx tG
  have q2' := (q2.ex (g5.trans g6)).tx tG
  have q3' := q3.tx tG
  refine ⟨dp, rfl, .inl ⟨_, .inl upd_same⟩, kd eG _ (Ex.refl _) _ fun G7 g7 => sl (G := G7) 2 (eG.trans g7) G7 (Ex.refl G7) _ fun v4 G8 g8 q4 => ?_⟩
  have g78 := g7.trans g8
  refine ⟨_, DGet.k (k := Sum.inr s.kind) (g78 _ _ upd_same), ?_⟩
  have fin : ∀ {v : V} {d : PyData}, PV K G8 v d → d = .tuple (s.reads.map Opd.d) → Q v G8 := fun p e => q _ _ (eG.trans g78) (by rw [← e]; exact p)
  have ne1 : ∀ {a b : Str}, decide (a = b) = false → ¬ (Sum.inr a : Key) = Sum.inr b := fun h e => by
    rw [decide_eq_true (Sum.inr.inj e)] at h
    cases h
  cases s with
  | op n o a b =>
    rw [show (Stp.op n o a b).kind = "op" from rfl, valV_pos (p := ((Sum.inr "op" : Key), v1)) (k := Sum.inr "op") rfl]
    exact fin (q1'.ex g78) rfl
  | store a b =>
    rw [show (Stp.store a b).kind = "store" from rfl, valV_neg (p := ((Sum.inr "op" : Key), v1)) (ne1 (by decide +kernel)), valV_pos (p := ((Sum.inr "store" : Key), v2)) (k := Sum.inr "store") rfl]
    exact fin (q2'.ex g78) rfl
  | call n a =>
    rw [show (Stp.call n a).kind = "call" from rfl, valV_neg (p := ((Sum.inr "op" : Key), v1)) (ne1 (by decide +kernel)), valV_neg (p := ((Sum.inr "store" : Key), v2)) (ne1 (by decide +kernel)), valV_pos (p := ((Sum.inr "call" : Key), v3)) (k := Sum.inr "call") rfl]
    exact fin (q3'.ex g78) rfl
  | copy n a =>
    rw [show (Stp.copy n a).kind = "copy" from rfl, valV_neg (p := ((Sum.inr "op" : Key), v1)) (ne1 (by decide +kernel)), valV_neg (p := ((Sum.inr "store" : Key), v2)) (ne1 (by decide +kernel)), valV_neg (p := ((Sum.inr "call" : Key), v3)) (ne1 (by decide +kernel))]
    exact fin q4 rfl
  | load n a =>
    rw [show (Stp.load n a).kind = "load" from rfl, valV_neg (p := ((Sum.inr "op" : Key), v1)) (ne1 (by decide +kernel)), valV_neg (p := ((Sum.inr "store" : Key), v2)) (ne1 (by decide +kernel)), valV_neg (p := ((Sum.inr "call" : Key), v3)) (ne1 (by decide +kernel))]
    exact fin q4 rfl
/-- terms.get(part, ("in", part)) if it is a text, else part -/
abbrev tPartOf (K : PySem.W.Frag) : TE := tIf (tB (tCB (rIsi K) (tCons (tVar 6) (tCons (tC (.ty "str")) tNil)))) (tDGet2 (tVar 1) (tVar 6) (tTup (tCons (tC (.str "in")) (tCons (tVar 6) tNil)))) (tVar 6)
theorem ep_partOf {v : V} {o : Opd} (h1 : σ[1]? = some (some (.ref td))) (h6 : σ[6]? = some (some v)) (p : PV K H v o.d) (R : TmAt K H td ta r) : EvP K (tPartOf K) σ H (tOf r.terms o).d := by
  refine ep_if (et_B (ev_isS (ep_var h6 p) ev_c)) (fun hb => ?_) (fun hb => ?_)
  · cases o with
    | num i => cases hb
    | nm n =>
      cases pv_str p
      have h := ep_dget2 (K := K) (σ := σ) (H := H) (ta := tVar 1) (ty := tVar 6) (tx := tTup (tCons (tC (.str "in")) (tCons (tVar 6) tNil))) (s := n.s) (dz := (Tm.inp n).d) (ev_var h1) R.te (ev_var h6) (ep_tup (eps_cons ep_str (eps_cons (ep_ev (ev_var h6) (.str _)) eps_nil)) (by simp))
      have e3 : (valD (kdOf r.terms) (Sum.inr n.s)).getD (Tm.inp n).d = (tOf r.terms (.nm n)).d := by
        rw [valD_kd]
        show _ = ((tget r.terms n).getD (.inp n)).d
        cases tget r.terms n <;> rfl
      rw [e3] at h
      exact h
  · cases o with
    | nm n => cases hb
    | num i => exact ep_var h6 p
/-- return (a, b), a a thing, b data -/
theorem s_retV2 {t1 t2 : TE} {a : V} {d : PyData} (h1 : Ev t1 σ H a) (h2 : EvP K t2 σ H d) (k : ∀ t u H1, Ex H H1 → H1 t = some (.tup [a, u]) → PV K H1 u d → D.rt (.ref t) H1) : tRet (tTup (tCons t1 (tCons t2 tNil))) D σ H :=
  h1 H (Ex.refl H) _ fun H1 e1 => h2 H1 e1 _ fun u H2 e2 pu => ⟨sz_of (by simp), fun t ht => k t u _ ((e1.trans e2).trans (Ex.new ht)) upd_same (pu.ex (Ex.new ht))⟩
/-- own = own[::-1] -/
theorem s_rev2 {i : Nat} {te : TE} {l : Addr} {v w : V} (h : Ev te σ H (.ref l)) (hl : H l = some (.lst [v, w])) (k : ∀ p H1, Ex H H1 → H1 p = some (.lst [w, v]) → D.nx (σ.set i (some (.ref p))) H1) : tAsg (tRevL K te) (gName i) D σ H :=
  h H (Ex.refl H) _ fun H1 e1 => ⟨l, [v, w], rfl, SqL.of (e1 _ _ hl), fun p hp => k p _ (e1.trans (Ex.new hp)) upd_same⟩
end
section
variable {P : Program} {w : World} {K : PySem.W.Frag} {mg : Str → Option Value} {base : Heap}
theorem ok_lterms {f : Addr} {fd : FuncData} {n : Nat} (F : Fun K "_law_terms" "_law_terms" sLTerms f fd) (ms : mg "isinstance" = none) (mstr : mg "str" = none) (ml : mg "len" = none) (mt : mg "tuple" = none) : FnG P w K mg base 1 f fd ["steps"] (spTermsOf K) := by
  refine ofBody F scLTerms (fun vs H Q E h => ?_) (fun cdv A outer s H vs Q E hr hG h => ?_)
  · obtain ⟨v, steps, rfl, _⟩ := h
    rfl
  · obtain ⟨v, steps, rfl, pv1, hl, q⟩ := h
    have hu := hu_of hr
    refine ⟨_, pss_cons (ps_set (i := 1) scLTerms.nd rfl (.inr rfl) pe_dnewK)
      (pss_cons (ps_set (i := 2) scLTerms.nd rfl (.inl rfl) (pe_lst pa_nil))
      (pss_cons (ps_for PassesOwn.never rfl (pi_tup (pv 0)) (pg_name (i := 3) scLTerms.nd rfl (.inl rfl))
        (pss_cons (ps_set (i := 4) scLTerms.nd rfl (.inl rfl) (pe_dget2 hu (pe_disp (pps_cons pe_str (pe_slice sl_tupA (pv 3) (po_some pe_int) po_none) (pps_cons pe_str (pe_slice sl_tupA (pv 3) (po_some pe_int) po_none) (pps_cons pe_str (pe_ifExp (pt_cmpR op_eq (pe_ix ix_tup (pv 3) pe_int (fun _ _ => rfl)) pe_str (nomark _)) (pe_ix ix_tup (pv 3) pe_int (fun _ _ => rfl)) (pe_tup pa_nil)) pps_nil))) (by rfl) (by rfl) (by decide) (by decide)) (pe_ix ix_tup (pv 3) pe_int (fun _ _ => rfl)) (pe_slice sl_tupA (pv 3) (po_some pe_int) po_none) ⟨by rfl, by rfl, by rfl, by rfl⟩))
        (pss_cons (ps_setLc (i := 5) (own := [("part", 6)]) (g := gName 6) (tt := tYes) (te := tPartOf K) rfl scLTerms.nd rfl rfl (sw_true rfl rfl rfl (by decide +kernel)) (pi_tup (pv 4)) (blkOk_by (N := ["steps", "terms", "acts", "step", "parts", "own", "part"]) (sc := defScope sLTerms) (by decide +kernel))
          (fun _ _ _ _ _ => pg_name (i := 6) scLTerms.nd rfl (Or.inl rfl)) (fun _ _ _ _ _ => pts_nil) (fun _ _ _ _ _ => pe_ifExp (pt_val (pe_callB call_isi (by rfl) ms (by decide +kernel) (pa_cons (pv 6) (pa_cons (pe_bltn (v := .ty "str") (u := .type "str") (by rfl) mstr (by decide +kernel) rfl) pa_nil)))) (pe_dget2 hu (pv 1) (pv 6) (pe_tup (pa_cons pe_str (pa_cons (pv 6) pa_nil))) ⟨by rfl, by rfl, by rfl, by rfl⟩) (pv 6)))
        (pss_one (ps_if (pt_cmpR op_eq (pe_ix ix_tup (pv 3) pe_int (fun _ _ => rfl)) pe_str (nomark _))
          (pss_one (ps_expr (pe_bm PySem.F.plainAttrs_list PySem.F.slot_list_append PySem.F.type_list_append mt_append (pv 2) (pa_cons (pe_tup (pa_cons pe_str (pa_cons (pe_ix ix_list (pv 5) pe_int (fun _ _ => rfl)) (pa_cons (pe_ix ix_list (pv 5) pe_int (fun _ _ => rfl)) pa_nil)))) pa_nil))))
          (pss_one (ps_if (pt_cmpR op_eq (pe_ix ix_tup (pv 3) pe_int (fun _ _ => rfl)) pe_str (nomark _))
            (pss_cons (ps_expr (pe_bm PySem.F.plainAttrs_list PySem.F.slot_list_append PySem.F.type_list_append mt_append (pv 2) (pa_cons (pe_tup (pa_cons pe_str (pa_cons (pe_ix ix_tup (pv 3) pe_int (fun _ _ => rfl)) (pa_cons (pe_tupleOf (by rfl) mt (pv 5)) pa_nil)))) pa_nil)))
            (pss_one (ps_dput hu (pv 1) (pe_ix ix_tup (pv 3) pe_int (fun _ _ => rfl)) (pe_tup (pa_cons pe_str (pa_cons (pe_op op_sub (pe_callB call_len_seq (by rfl) ml PySem.boot_len (pa_cons (pv 2) pa_nil)) pe_int) pa_nil))) rfl)))
            (pss_one (ps_if (pt_cmpR op_eq (pe_ix ix_tup (pv 3) pe_int (fun _ _ => rfl)) pe_str (nomark _))
              (pss_one (ps_dput hu (pv 1) (pe_ix ix_tup (pv 3) pe_int (fun _ _ => rfl)) (pe_tup (pa_cons pe_str (pa_cons (pe_ix ix_list (pv 5) pe_int (fun _ _ => rfl)) (pa_cons (pe_callB call_len_seq (by rfl) ml PySem.boot_len (pa_cons (pv 2) pa_nil)) pa_nil)))) rfl))
              (pss_one (ps_if (pt_cmpR op_eq (pe_ix ix_tup (pv 3) pe_int (fun _ _ => rfl)) pe_str (nomark _))
                (pss_one (ps_dput hu (pv 1) (pe_ix ix_tup (pv 3) pe_int (fun _ _ => rfl)) (pe_ix ix_list (pv 5) pe_int (fun _ _ => rfl)) rfl))
                (pss_cons (ps_if (PW.pt (pw_and (pt_cmpR op_in_seq (pe_ix ix_tup (pv 3) pe_int (fun _ _ => rfl)) (pe_tup (pa_cons pe_str (pa_cons pe_str (pa_cons pe_str (pa_cons pe_str (pa_cons pe_str (pa_cons pe_str pa_nil))))))) (by rfl)) (pw_and1 (pt_cmpR op_lt_str (pe_callTy (call_strG hG (room100 hr)) (by rfl) mstr (by decide +kernel) (pa_cons (pe_ix ix_list (pv 5) pe_int (fun _ _ => rfl)) pa_nil)) (pe_callTy (call_strG hG (room100 hr)) (by rfl) mstr (by decide +kernel) (pa_cons (pe_ix ix_list (pv 5) pe_int (fun _ _ => rfl)) pa_nil)) (nomark _)))))
                  (pss_one (ps_set (i := 5) scLTerms.nd rfl (.inl rfl) (pe_revL (pv 5)))) pss_nil)
                (pss_one (ps_dput hu (pv 1) (pe_ix ix_tup (pv 3) pe_int (fun _ _ => rfl)) (pe_tup (pa_cons (pe_ix ix_tup (pv 3) pe_int (fun _ _ => rfl)) (pa_cons (pe_ix ix_list (pv 5) pe_int (fun _ _ => rfl)) (pa_cons (pe_ix ix_list (pv 5) pe_int (fun _ _ => rfl)) pa_nil)))) rfl))))))))))))))
      (pss_one (ps_ret (pe_tup (pa_cons (pv 1) (pa_cons (pe_tupleOf (by rfl) mt (pv 2)) pa_nil))))))), ?_⟩
    refine q_asgS es_new fun td H1 htd e1 s1 => ?_
    refine q_asgPL (K := K) (el_tup eps_nil (by decide)) fun ta vs0 H2 hta e2 hl2 pl2 => ?_
    cases pl2
    have e12 := e1.trans e2
    have hta0 : H ta = none := fresh_back e1 hta
    have hd2 := e2 _ _ s1.at_
    have R0 : TmAt K H2 td ta .empty := ⟨ne_of_none s1.at_ hta, ⟨[], hd2, trivial⟩, [], hl2, .nil⟩
    refine q_forTP (K := K) (ds := steps.map Stp.d) (ep_var rfl (pv1.ex e12)) (fun H3 i σ' H' => ∃ y3 y4 y5, σ' = [some v, some (.ref td), some (.ref ta), y3, y4, y5, none] ∧ TmAt K H' td ta (rd (steps.take i)) ∧ Ex H H' ∧ Tx H3 H')
      (fun H3 e3 => ⟨_, _, _, rfl, R0.ex e3, e12.trans e3, Tx.refl _⟩) (fun H3 i σ' H' ⟨_, _, _, _, _, _, t⟩ => t) ?_ ?_
    · rintro H3 i x d σ' H4 e3 hd pd ⟨y3, y4, y5, rfl, R, ex, tx⟩
      obtain ⟨st, hst, rfl⟩ := map_at hd
      have hi : i < steps.length := (List.getElem?_eq_some_iff.mp hst).1
      have fit : RFit 8 (rd (steps.take i)) := rd_fit (by rw [List.length_take]; omega)
      have nxt : rd (steps.take (i + 1)) = rstep ltT (rd (steps.take i)) st := by
        unfold rd
        rw [List.take_add_one, hst, readAll_app]
        rfl
      rw [nxt]
      generalize rd (steps.take i) = r at R fit
      have na := fit.na
      have nt := fit.nt
      refine q_asgP (K := K) (ep_parts rfl pd) fun v4 H5 e5 p4 => ?_
      have hrl : st.reads.length ≤ 2 := by cases st <;> simp [Stp.reads]
      refine q_asgPL (K := K) (el_lcT (K := K) (σ := [some v, some (.ref td), some (.ref ta), some x, some v4, y5, none]) (tl := tVar 4) (g := gName 6) (te := tPartOf K) (vs := [6]) (ds := st.reads.map Opd.d) (st.reads.map fun o => (tOf r.terms o).d) (ep_var rfl p4) (by simp) (by rw [List.length_map]; omega) ?_) fun ol ws H6 hol e6 hl6 pl6 => ?_
      · intro j y c dd H7 e7 hc pc hd2 Q k
        obtain ⟨o, ho, rfl⟩ := map_at hc
        obtain ⟨o', ho', rfl⟩ := map_at hd2
        rw [ho] at ho'
        cases ho'
        exact k _ H7 (Ex.refl H7) rfl (ep_partOf rfl rfl pc (R.ex (e5.trans e7)))
      have e56 := e5.trans e6
      have pst := fun {G : Hp} (e : Ex H6 G) => pd.ex (e56.trans e)
      have put : ∀ {σ : L2.St} {Hx : Hp} {tv : TE} {r' : RS} {n : Nm} {t : Tm} {D : Ends}, σ[1]? = some (some (.ref td)) → σ[3]? = some (some x) → TmAt K Hx td ta r' → Ex H Hx → Tx H4 Hx → r'.terms.length ≤ 8 → st.ds[1]? = some n.d → EvP K tv σ Hx t.d →
          (∀ H', TmAt K H' td ta ⟨tput r'.terms n t, r'.acts⟩ → Ex H H' → Tx H4 H' → D.nx σ H') → sDPut (tVar 1) (tOp (rIxT K) (tVar 3) (tC (.int 1))) tv D σ Hx := by
        intro σ Hx tv r' n t D h1 h3 Rx exx txx lx hn hv k
        obtain ⟨ks, hk, pk⟩ := Rx.te
        have lk := pk.length
        refine s_dputP (K := K) hv (fun H7 e7 => ev_var h1) hk (fun H7 e7 => ev_epS (K := K) (ep_ixT (i := 1) (ep_var h3 (by rw [← st.d_ds]; exact (pd.tx txx).ex e7)) ev_c hn)) (by rw [lk]; unfold kdOf; rw [List.length_map]; omega) fun v7 H7 e7 p7 => ?_
        exact k _ ((Rx.ex e7).put (e7 _ _ hk) (pk.ex e7) p7) (Ex.mut (exx.trans e7) htd) ((txx.trans (tx_of e7)).trans (Tx.updD (e7 _ _ hk)))
      have tx46 := tx_of e56
      cases st with
      | store a b =>
        refine s_if (et_test (ev_is (et_eqS (ev_kind (K := K) (ep_var rfl (pst (Ex.refl _)))) ev_c) (congrArg V.bl (kind_store (.store a b))))) (fun _ H7 e7 => ?_) (fun e => by cases e)
        have R7 := R.ex (e56.trans e7)
        obtain ⟨as, h1, h2⟩ := R7.ac
        have la := h2.length
        rw [List.length_map] at la
        refine s_appF (K := K) (d := (Act.store (tOf r.terms a) (tOf r.terms b)).d) h1 (ev_var rfl) (ep_tup (eps_cons ep_str (eps_cons (ep_ixL (i := 0) (ev_var rfl) (SqL.of (e7 _ _ hl6)) (pl6.ex e7) ev_c rfl) (eps_cons (ep_ixL (i := 1) (ev_var rfl) (SqL.of (e7 _ _ hl6)) (pl6.ex e7) ev_c rfl) eps_nil))) (by simp)) (by omega) fun v3 H8 e8 p3 => ?_
        exact ⟨_, _, _, rfl, (R7.ex e8).act (e8 _ _ h1) (h2.ex e8) p3, Ex.mut (ex.trans (e56.trans (e7.trans e8))) hta0, (tx.trans (tx_of (e56.trans (e7.trans e8)))).trans (Tx.updL (e8 _ _ h1))⟩
      | call n a =>
        refine s_if (et_test (ev_is (et_eqS (ev_kind (K := K) (ep_var rfl (pst (Ex.refl _)))) ev_c) (congrArg V.bl (kind_store (.call n a))))) (fun e => by cases e) (fun _ H7 e7 => ?_)
        refine s_if (et_test (ev_is (et_eqS (ev_kind (K := K) (ep_var rfl (pst e7))) ev_c) (congrArg V.bl (kind_call (.call n a))))) (fun _ H8 e8 => ?_) (fun e => by cases e)
        have e78 := e7.trans e8
        have e48 := e56.trans e78
        have R8 := R.ex e48
        obtain ⟨as, h1, h2⟩ := R8.ac
        have la := h2.length
        rw [List.length_map] at la
        have p8 := pst e78
        rw [Stp.d_ds] at p8
        refine q_appF (K := K) (d := (Act.call (tOf r.terms a)).d) h1 (ev_var rfl) (ep_tup (eps_cons ep_str (eps_cons (ep_ixT (i := 2) (ep_var rfl p8) ev_c rfl) (eps_cons (ep_tupleS (ev_var rfl) (e78 _ _ hl6) (pl6.ex e78)) eps_nil))) (by simp)) (by omega) fun v3 H9 e9 p3 => ?_
        have R9 := (R8.ex e9).act (e9 _ _ h1) (h2.ex e9) p3
        have x9 : Ex H (upd H9 ta (.lst (as ++ [v3]))) := Ex.mut (ex.trans (e48.trans e9)) hta0
        have t9 : Tx H4 (upd H9 ta (.lst (as ++ [v3]))) := (tx_of (e48.trans e9)).trans (Tx.updL (e9 _ _ h1))
        refine put (r' := ⟨r.terms, r.acts ++ [Act.call (tOf r.terms a)]⟩) (n := n) (t := .call r.acts.length) rfl rfl R9 x9 t9 nt rfl ?_ fun H' R' x' t' => ⟨_, _, _, rfl, R', x', tx.trans t'⟩
        refine ep_tup (ds := [.str "call", natD r.acts.length]) (eps_cons ep_str (eps_cons (ep_evI (ev_is (ev_op (ev_len (ev_var rfl) (SqL.of upd_same)) ev_c rv_I0) ?_)) eps_nil)) (by simp)
        rw [List.length_append, la]
        exact congrArg V.int (by simp)
      | load n a =>
        refine s_if (et_test (ev_is (et_eqS (ev_kind (K := K) (ep_var rfl (pst (Ex.refl _)))) ev_c) (congrArg V.bl (kind_store (.load n a))))) (fun e => by cases e) (fun _ H7 e7 => ?_)
        refine s_if (et_test (ev_is (et_eqS (ev_kind (K := K) (ep_var rfl (pst e7))) ev_c) (congrArg V.bl (kind_call (.load n a))))) (fun e => by cases e) (fun _ H8 e8 => ?_)
        refine s_if (et_test (ev_is (et_eqS (ev_kind (K := K) (ep_var rfl (pst (e7.trans e8)))) ev_c) (congrArg V.bl (kind_load (.load n a))))) (fun _ H9 e9 => ?_) (fun e => by cases e)
        have e79 := (e7.trans e8).trans e9
        have e49 := e56.trans e79
        have R9 := R.ex e49
        obtain ⟨as, h1, h2⟩ := R9.ac
        have la := h2.length
        rw [List.length_map] at la
        refine put (r' := r) (n := n) (t := .load (tOf r.terms a) r.acts.length) rfl rfl R9 (ex.trans e49) (tx_of e49) nt rfl ?_ fun H' R' x' t' => ⟨_, _, _, rfl, R', x', tx.trans t'⟩
        refine ep_tup (ds := [.str "load", (tOf r.terms a).d, natD r.acts.length]) (eps_cons ep_str (eps_cons (ep_ixL (i := 0) (ev_var rfl) (SqL.of (e79 _ _ hl6)) (pl6.ex e79) ev_c rfl) (eps_cons (ep_evI (ev_is (ev_len (ev_var rfl) (SqL.of h1)) ?_)) eps_nil))) (by simp)
        rw [la]
      | copy n a =>
        refine s_if (et_test (ev_is (et_eqS (ev_kind (K := K) (ep_var rfl (pst (Ex.refl _)))) ev_c) (congrArg V.bl (kind_store (.copy n a))))) (fun e => by cases e) (fun _ H7 e7 => ?_)
        refine s_if (et_test (ev_is (et_eqS (ev_kind (K := K) (ep_var rfl (pst e7))) ev_c) (congrArg V.bl (kind_call (.copy n a))))) (fun e => by cases e) (fun _ H8 e8 => ?_)
        refine s_if (et_test (ev_is (et_eqS (ev_kind (K := K) (ep_var rfl (pst (e7.trans e8)))) ev_c) (congrArg V.bl (kind_load (.copy n a))))) (fun e => by cases e) (fun _ H9 e9 => ?_)
        have e79 := (e7.trans e8).trans e9
        refine s_if (et_test (ev_is (et_eqS (ev_kind (K := K) (ep_var rfl (pst e79))) ev_c) (congrArg V.bl (kind_copy (.copy n a))))) (fun _ H10 e10 => ?_) (fun e => by cases e)
        have e710 := e79.trans e10
        have e410 := e56.trans e710
        exact put (r' := r) (n := n) (t := tOf r.terms a) rfl rfl (R.ex e410) (ex.trans e410) (tx_of e410) nt rfl (ep_ixL (i := 0) (ev_var rfl) (SqL.of (e710 _ _ hl6)) (pl6.ex e710) ev_c rfl) fun H' R' x' t' => ⟨_, _, _, rfl, R', x', tx.trans t'⟩
      | op n o a b =>
        refine s_if (et_test (ev_is (et_eqS (ev_kind (K := K) (ep_var rfl (pst (Ex.refl _)))) ev_c) (congrArg V.bl (kind_store (.op n o a b))))) (fun e => by cases e) (fun _ H7 e7 => ?_)
        refine s_if (et_test (ev_is (et_eqS (ev_kind (K := K) (ep_var rfl (pst e7))) ev_c) (congrArg V.bl (kind_call (.op n o a b))))) (fun e => by cases e) (fun _ H8 e8 => ?_)
        refine s_if (et_test (ev_is (et_eqS (ev_kind (K := K) (ep_var rfl (pst (e7.trans e8)))) ev_c) (congrArg V.bl (kind_load (.op n o a b))))) (fun e => by cases e) (fun _ H9 e9 => ?_)
        have e79 := (e7.trans e8).trans e9
        refine s_if (et_test (ev_is (et_eqS (ev_kind (K := K) (ep_var rfl (pst e79))) ev_c) (congrArg V.bl (kind_copy (.op n o a b))))) (fun e => by cases e) (fun _ H10 e10 => ?_)
        have e710 := e79.trans e10
        have e410 := e56.trans e710
        have fa := fit.fit (by decide) (fit.opd a)
        have fb := fit.fit (by decide) (fit.opd b)
        have p10 := pst e710
        rw [Stp.d_ds] at p10
        have hcomm : decide (o ∈ [Op.add, .mul, .and, .or, .xor, .eq]) = o.comm := by cases o <;> rfl
        refine q_when (b := o.comm && ltT (tOf r.terms b) (tOf r.terms a)) (et_and (et_test (ev_is (inOps [.add, .mul, .and, .or, .xor, .eq] (ev_epS (K := K) (ep_ixT (i := 2) (ep_var rfl p10) ev_c rfl)) (ea_cons ev_c (ea_cons ev_c (ea_cons ev_c (ea_cons ev_c (ea_cons ev_c (ea_cons ev_c ea_nil)))))) (by decide)) (congrArg V.bl hcomm))) fun _ => et_test (ev_ltS (ev_strG (ep_ixL (i := 1) (ev_var rfl) (SqL.of (e710 _ _ hl6)) (pl6.ex e710) ev_c rfl) fb) (ev_strG (ep_ixL (i := 0) (ev_var rfl) (SqL.of (e710 _ _ hl6)) (pl6.ex e710) ev_c rfl) fa))) (fun h H11 e11 => ?_) (fun h H11 e11 => ?_)
        · have e711 := e710.trans e11
          obtain ⟨w1, w2, rfl, pw1, pw2⟩ := pvs2 pl6
          refine s_rev2 (ev_var rfl) (e711 _ _ hl6) fun pr H12 e12' hpr => ?_
          have e712 := e711.trans e12'
          have e412 := e56.trans e712
          refine put (r' := r) (n := n) (t := .op o (tOf r.terms b) (tOf r.terms a)) rfl rfl (R.ex e412) (ex.trans e412) (tx_of e412) nt rfl (ep_tup (eps_cons (ep_ixT (i := 2) (ep_var rfl (p10.ex (e11.trans e12'))) ev_c rfl) (eps_cons (ep_ixL (i := 0) (ev_var rfl) (SqL.of hpr) (.cons (pw2.ex e712) (.cons (pw1.ex e712) .nil)) ev_c rfl) (eps_cons (ep_ixL (i := 1) (ev_var rfl) (SqL.of hpr) (.cons (pw2.ex e712) (.cons (pw1.ex e712) .nil)) ev_c rfl) eps_nil))) (by simp)) fun H' R' x' t' => ⟨_, _, _, rfl, ?_, x', tx.trans t'⟩
          dsimp only [rstep]
          rw [if_pos h]
          exact R'
        · have e711 := e710.trans e11
          have e411 := e56.trans e711
          refine put (r' := r) (n := n) (t := .op o (tOf r.terms a) (tOf r.terms b)) rfl rfl (R.ex e411) (ex.trans e411) (tx_of e411) nt rfl (ep_tup (eps_cons (ep_ixT (i := 2) (ep_var rfl (p10.ex e11)) ev_c rfl) (eps_cons (ep_ixL (i := 0) (ev_var rfl) (SqL.of (e711 _ _ hl6)) (pl6.ex e711) ev_c rfl) (eps_cons (ep_ixL (i := 1) (ev_var rfl) (SqL.of (e711 _ _ hl6)) (pl6.ex e711) ev_c rfl) eps_nil))) (by simp)) fun H' R' x' t' => ⟨_, _, _, rfl, ?_, x', tx.trans t'⟩
          dsimp only [rstep]
          rw [if_neg (by rw [h]; decide)]
          exact R'
    · rintro H3 σ' H4 e3 ⟨y3, y4, y5, rfl, R, ex, tx⟩
      rw [List.length_map, List.take_length] at R
      obtain ⟨as, ha, pa⟩ := R.ac
      refine s_retV2 (K := K) (ev_var (v := .ref td) rfl) (ep_tupleS (ev_var rfl) ha pa) fun t u H5 e5 ht pu => ?_
      exact q t td u H5 (ex.trans e5) ht (R.ex e5).te pu
end
end K36


/-! a != b of two pairs whose items are alike, each by its own rule. -/
namespace PySem.SeqAt
open AutoSeq1 (wpAny_loadPart')
open MeetsSeq MeetsSeq2 MeetsSeq3
section
variable {prog : Program} {w : World} {A : Around} {E : Value → Shared → Prop} {s : Shared} {l b : Addr} {x1 x2 y1 y2 : Value} {Q : Value → Shared → Prop}
theorem ne_pair0 {items items2 : Array Value} (hzip : items.toList.zip items2.toList = [(x1, y1), (x2, y2)]) (hsz : items.size = items2.size) (hl : s.heap.IsTuple l items) (hb : s.heap.IsTuple b items2) (hu : A.units < cLine) (h1 : ∀ (E : Value → Shared → Prop) (Q : Bool → Shared → Prop), Q true s → wpAny (model prog w) A.in1 (eqBool x1 y1) Q E s)
    (h2 : ∀ (E : Value → Shared → Prop) (Q : Bool → Shared → Prop), Q true s → wpAny (model prog w) A.in1 (eqBool x2 y2) Q E s) (h : Q (.bool false) s) : wpAny (model prog w) A (compareOp .NotEq (.ref l) (.ref b)) Q E s := by
  obtain ⟨⟨cls, dd, data, sl⟩, ho, hc, n, hd⟩ := id hl
  obtain ⟨⟨cls2, dd2, data2, sl2⟩, ho2, hc2, n2, hd2⟩ := id hb
  simp only at hc hd hc2 hd2
  subst hc hd hc2 hd2
  obtain ⟨hp, g, d, tk, os⟩ := s
  refine wpAny_richCompare_same_room (op := .NotEq) ⟨_, ho, rfl⟩ ⟨_, ho2, rfl⟩ F.slot_tuple_ne (wpAny_call_entry F.slot_tuple_ne ⟨_, ho, rfl⟩ F.entry_tuple_ne ?_ (F.args_tuple_ne_2 _ _)) hu
  have f2 := AutoSeq1.sub_tuple_tuple
  wp_walk using wpAny_loadPart' ho, wpAny_loadPart' ho2
  generalize items.toList.zip items2.toList = L at hzip ⊢
  subst hzip
  simp only [List.forIn'.loop]
  refine wpAny_bind (wpAny_bind (h1 _ _ ?_))
  show wpAny _ _ (pure (ForInStep.yield (none, ()))) _ _ _
  refine wpAny_pure ?_
  refine wpAny_bind (wpAny_bind (h2 _ _ ?_))
  show wpAny _ _ (pure (ForInStep.yield (none, ()))) _ _ _
  refine wpAny_pure ?_
  refine wpAny_pure ?_
  wp_walk
  exact ⟨_, rfl, by simpa [Builtin.Tuple.tupleCompareSizes, bne, hsz] using h⟩
theorem ne_pair (hl : s.heap.IsTuple l #[x1, x2]) (hb : s.heap.IsTuple b #[y1, y2]) (hu : A.units < cLine) (h1 : ∀ (E : Value → Shared → Prop) (Q : Bool → Shared → Prop), Q true s → wpAny (model prog w) A.in1 (eqBool x1 y1) Q E s)
    (h2 : ∀ (E : Value → Shared → Prop) (Q : Bool → Shared → Prop), Q true s → wpAny (model prog w) A.in1 (eqBool x2 y2) Q E s) (h : Q (.bool false) s) : wpAny (model prog w) A (compareOp .NotEq (.ref l) (.ref b)) Q E s := ne_pair0 (items := #[x1, x2]) (items2 := #[y1, y2]) rfl rfl hl hb hu h1 h2 h
end
end PySem.SeqAt

namespace Gd
open PySem PySem.Spec PyProof.Rows L2 Evl Pd
/-- (d, t) != (d', t'), dicts of data and data that are alike -/
def rNePair (K : PySem.W.Frag) : R2 := fun x y H Q => ∃ (a b d1 d2 : Addr) (u1 u2 : V) (kd ld : KD) (e1 e2 : PyData), x = .ref a ∧ y = .ref b ∧ H a = some (.tup [.ref d1, u1]) ∧ H b = some (.tup [.ref d2, u2]) ∧ DAt K H d1 kd ∧ DAt K H d2 ld ∧ (∀ p ∈ kd, SeqAt.shaped p.2 = true) ∧ (∀ p ∈ ld, SeqAt.shaped p.2 = true) ∧
  eqKD kd ld = true ∧ PV K H u1 e1 ∧ PV K H u2 e2 ∧ SeqAt.shaped e1 = true ∧ SeqAt.shaped e2 = true ∧ PyData.eqv e1 e2 = true ∧ Q (.bl false) H
section
variable {X : Cx}
theorem op_nePair (hu : X.A.units + 100 < cLine) : OpR X (compareOp .NotEq) (rNePair X.K) := by
  rintro pins s σ H x y v u Q I rx ry ⟨a, b, d1, d2, u1, u2, kd, ld, e1, e2, rfl, rfl, ha, hb, ⟨ks, ea, da⟩, ⟨ls, eb, db⟩, sk, sl, heq, p1, p2, s1, s2, hev, q⟩
  cases (show v = Value.ref a from rx)
  cases (show u = Value.ref b from ry)
  obtain ⟨its, rv, ht, _⟩ := I.tuple (SqT.of ha)
  obtain ⟨its2, rv2, ht2, _⟩ := I.tuple (SqT.of hb)
  obtain ⟨x1, x2, rfl, r1, r2⟩ := vals2 rv
  obtain ⟨y1, y2, rfl, r3, r4⟩ := vals2 rv2
  cases (show x1 = Value.ref d1 from r1)
  cases (show y1 = Value.ref d2 from r3)
  obtain ⟨_, ya, va, ra, dda⟩ := dk_of I.hok ea
  obtain ⟨_, yb, vb, rb, ddb⟩ := dk_of I.hok eb
  have i1 : X.A.in1.units ≤ X.A.units + 1 := Nat.le_refl _
  have i2 : X.A.in1.in1.units ≤ X.A.units + 2 := Nat.le_refl _
  refine PySem.SeqAt.ne_pair ht ht2 (by omega) (fun E Q hq => ?_) (fun E Q hq => ?_) ⟨.bl false, H, I, rfl, q⟩
  · by_cases hne : d1 = d2
    · subst hne
      exact SeqAt.EqAt.same _ X.prog X.w E Q hq
    unfold eqBool
    refine wpAny_holding ?_
    refine wpAny_ite_split (fun hab => absurd (by have := eq_of_beq hab; injection this) hne) (fun _ => ?_)
    refine wpAny_bind (PySem.W.keq_eq (knd := mixKind X.prog X.w) (r := kd.all fun p => match valD ld p.1 with
      | some e => PyData.eqv p.2 e
      | none => false) ya yb dda ddb (by omega) (fun _ => hitsD I (by omega) rb db sl ra da sk) ?_)
    have hr : (va.length == vb.length && kd.all fun p => match valD ld p.1 with
      | some e => PyData.eqv p.2 e
      | none => false) = true := by
      rw [← heq]
      unfold eqKD
      rw [← ra.length, ← rb.length, da.length, db.length] <;> rfl
    rw [hr]
    exact wpAny_truthy_bool hq
  · obtain ⟨as, q1⟩ := Dp.reads I e1 u1 x2 p1.dp r2
    obtain ⟨bs, q2⟩ := Dp.reads I e2 u2 y2 p2.dp r4
    refine SeqAt.eqAt_reads e1 e2 X.A.in1 s x2 y2 as bs q1 q2 (SeqAt.canLay_of_shaped s1) (SeqAt.canLay_of_shaped s2) (SeqAt.room_of_shaped s1 (by omega)) X.prog X.w E Q ?_
    rw [hev]
    exact hq
end
end Gd

/-! What law asks of rows, of programs of one block, of graphs. -/
namespace K36
open PySem PySem.Spec PyProof.Rows L2 Evl Pd Gd Dk
/-! ### calls of rows that are told the same -/
def isCallA : Act → Bool
  | .call _ => true
  | _ => false
def callsA (as : List Act) : Nat := (as.filter isCallA).length
theorem callsA_step (lt : Tm → Tm → Bool) (r : RS) (s : Stp) : callsA (rstep lt r s).acts = callsA r.acts + if isCall s = true then 1 else 0 := by
  cases s with
  | op v o a b =>
    dsimp only [rstep]
    split <;> rfl
  | copy v a => rfl
  | load v a => rfl
  | store a b =>
    show ((r.acts ++ [_]).filter isCallA).length = _
    rw [List.filter_append, List.length_append]
    rfl
  | call v a =>
    show ((r.acts ++ [_]).filter isCallA).length = _
    rw [List.filter_append, List.length_append]
    rfl
theorem callsA_all (lt : Tm → Tm → Bool) : ∀ (steps : List Stp) (r : RS), callsA (readAll lt r steps).acts = callsA r.acts + calls steps
  | [], r => rfl
  | s :: rest, r => by
    show callsA (readAll lt (rstep lt r s) rest).acts = _
    rw [callsA_all lt rest, callsA_step]
    have : calls (s :: rest) = calls [s] + calls rest := calls_app [s] rest
    rw [this, calls_one]
    omega
theorem same_calls {lt : Tm → Tm → Bool} {one other : List Stp} {alive : List Opd} (h : sameR lt one other alive = true) : calls one = calls other := by
  unfold sameR at h
  rw [Bool.and_eq_true] at h
  have h1 := of_decide_eq_true h.1
  have a := callsA_all lt one .empty
  have b := callsA_all lt other .empty
  rw [h1, b] at a
  have z : callsA RS.empty.acts = 0 := rfl
  rw [z] at a
  omega
/-! ### programs of one block -/
def mainG (steps : List Stp) (n : Nm) : Gr := [⟨steps, .ret (.nm n)⟩]
theorem mainG_good {steps : List Stp} {n : Nm} (h : steps.length ≤ 9) : GGood (mainG steps n) :=
  ⟨by simp [mainG], (fun b hb => by rw [List.mem_singleton.mp hb]; exact h), fun b hb j hj => by rw [List.mem_singleton.mp hb] at hj; cases hj⟩
theorem main_alike {lt : Tm → Tm → Bool} {w : Nat} {one other : List Stp} {alive : List Opd} {n : Nm} (ps : List Nm) (fu : Nat) (ws : List Nat) (h : sameR lt one other alive = true) (hn : Opd.nm n ∈ alive) : AlikeR w ps ps (mainG one n) (mainG other n) fu ws := fun r hr => by
  have hc := same_calls h
  have R := same_run h (w := w) ⟨envOf ps ws, mem0⟩
  have hr' : (if fu < calls one then none else some (rdO w (execAll w ⟨envOf ps ws, mem0⟩ one).e (.nm n), (execAll w ⟨envOf ps ws, mem0⟩ one).m)) = some r := hr
  show (if 3 * fu < calls other then none else some (rdO w (execAll w ⟨envOf ps ws, mem0⟩ other).e (.nm n), (execAll w ⟨envOf ps ws, mem0⟩ other).m)) = some r
  by_cases hf : fu < calls one
  · rw [if_pos hf] at hr'
    cases hr'
  · rw [if_neg hf, R.1, R.2 _ hn] at hr'
    rw [if_neg (by omega)]
    exact hr'
/-! ### graphs -/
theorem sameG_parts {ps ps' : List Nm} {g g' : Gr} {outs : List (List Nm)} (h : sameG ltT ps ps' g g' outs = true) : g.length = g'.length ∧ ∀ k, k < g.length → sameBk ltT g g' outs k = true := by
  unfold sameG at h
  rw [Bool.and_eq_true, Bool.and_eq_true] at h
  exact ⟨of_decide_eq_true h.1.2, fun k hk => List.all_eq_true.mp h.2 k (List.mem_range.mpr hk)⟩
theorem graph_alike {w : Nat} {ps : List Nm} {g g' : Gr} {outs : List (List Nm)} (S : Sol g outs) (h : sameG ltT ps ps g g' outs = true) (fu : Nat) (ws : List Nat) : AlikeR w ps ps g g' fu ws := fun r hr => by
  obtain ⟨hl, hb⟩ := sameG_parts h
  obtain ⟨B, hB1, hB2⟩ := S.sets
  refine same_go (lt := ltT) (B := B) (out := fun k => outs.getD k []) hl (fun k b b' h1 h2 => ?_) hB1 hB2 (fu + 1) 0 ⟨envOf ps ws, mem0⟩ ⟨envOf ps ws, mem0⟩ fu r (fun _ _ => rfl) rfl hr (3 * fu + 1) (3 * fu) (by omega) (by omega)
  have hk := (List.getElem?_eq_some_iff.mp h1).1
  have hs := hb k hk
  have ho : outs[k]? = some (outs.getD k []) := by
    rw [List.getD_eq_getElem?_getD, List.getElem?_eq_getElem (by rw [S.len]; exact hk)]
    rfl
  unfold sameBk at hs
  rw [h1, h2, ho] at hs
  dsimp only at hs
  rw [Bool.and_eq_true] at hs
  exact ⟨of_decide_eq_true hs.1, hs.2, same_calls hs.2⟩
theorem sameG_refl {ps : List Nm} {g : Gr} {outs : List (List Nm)} (hl : outs.length = g.length) : sameG ltT ps ps g g outs = true := by
  unfold sameG
  rw [decide_eq_true rfl, decide_eq_true rfl, Bool.true_and, Bool.true_and]
  refine List.all_eq_true.mpr fun k hk => ?_
  have hk := List.mem_range.mp hk
  unfold sameBk
  rw [List.getElem?_eq_getElem hk, List.getElem?_eq_getElem (by rw [hl]; exact hk)]
  dsimp only
  rw [decide_eq_true rfl, same_refl, Bool.true_and]
theorem sameG_params {ps ps' : List Nm} {g g' : Gr} {outs : List (List Nm)} (h : ps ≠ ps') : sameG ltT ps ps' g g' outs = false := by
  unfold sameG
  rw [decide_eq_false h]
  rfl
/-! ### a swap in a row -/
def swapL (steps : List Stp) (k : Nat) (s t : Stp) : List Stp := steps.take k ++ t :: s :: steps.drop (k + 2)
theorem split2 {steps : List Stp} {k : Nat} {s t : Stp} (h1 : steps[k]? = some s) (h2 : steps[k + 1]? = some t) : steps = steps.take k ++ s :: t :: steps.drop (k + 2) := by
  have hk := (List.getElem?_eq_some_iff.mp h1).1
  have hk2 := (List.getElem?_eq_some_iff.mp h2).1
  have e1 : steps[k] = s := (List.getElem?_eq_some_iff.mp h1).2
  have e2 : steps[k + 1] = t := (List.getElem?_eq_some_iff.mp h2).2
  conv => lhs; rw [← List.take_append_drop k steps]
  rw [List.drop_eq_getElem_cons hk, List.drop_eq_getElem_cons hk2, e1, e2]
theorem swapL_len {steps : List Stp} {k : Nat} {s t : Stp} (h1 : steps[k]? = some s) (h2 : steps[k + 1]? = some t) : (swapL steps k s t).length = steps.length := by
  conv => rhs; rw [split2 h1 h2]
  unfold swapL
  simp
theorem swapL_same {steps : List Stp} {k : Nat} {s t : Stp} (h1 : steps[k]? = some s) (h2 : steps[k + 1]? = some t) (h : ∀ p ∈ hangL steps steps.length, ¬ (p.1 = k ∧ p.2.1 = k + 1)) (alive : List Opd) : sameR ltT steps (swapL steps k s t) alive = true := by
  have := swap_same (lt := ltT) (free_hang h1 h2 h) (steps.take k) (steps.drop (k + 2)) alive
  rw [← split2 h1 h2] at this
  exact this
/-! ### terms and acts as data -/
theorem tput_keys (m : TMap) (n : Nm) (t : Tm) (h : (m.map (·.1)).Nodup) : ((tput m n t).map (·.1)).Nodup := by
  unfold tput
  by_cases e : (m.any fun p => decide (p.1 = n)) = true
  · rw [if_pos e, List.map_map]
    have : (m.map ((fun p : Nm × Tm => p.1) ∘ fun p => if p.1 = n then (p.1, t) else p)) = m.map (·.1) := List.map_congr_left fun p _ => by
      simp only [Function.comp]
      split <;> rfl
    rw [this]
    exact h
  · rw [if_neg e, List.map_append]
    refine List.nodup_append.mpr ⟨h, by simp, fun a ha b hb he => ?_⟩
    rw [List.map_cons, List.map_nil, List.mem_singleton] at hb
    obtain ⟨p, hp, rfl⟩ := List.mem_map.mp ha
    exact e (List.any_eq_true.mpr ⟨p, hp, decide_eq_true (he.trans hb)⟩)
theorem rstep_keys (lt : Tm → Tm → Bool) (r : RS) (s : Stp) (h : (r.terms.map (·.1)).Nodup) : ((rstep lt r s).terms.map (·.1)).Nodup := by
  cases s with
  | op v o a b =>
    dsimp only [rstep]
    split <;> exact tput_keys _ _ _ h
  | copy v a => exact tput_keys _ _ _ h
  | load v a => exact tput_keys _ _ _ h
  | store a b => exact h
  | call v a => exact tput_keys _ _ _ h
theorem readAll_keys (lt : Tm → Tm → Bool) : ∀ (steps : List Stp) (r : RS), (r.terms.map (·.1)).Nodup → ((readAll lt r steps).terms.map (·.1)).Nodup
  | [], _, h => h
  | s :: rest, r, h => readAll_keys lt rest (rstep lt r s) (rstep_keys lt r s h)
theorem tget_mem : ∀ {m : TMap} {n : Nm} {t : Tm}, (m.map (·.1)).Nodup → (n, t) ∈ m → tget m n = some t
  | [], _, _, _, h => by cases h
  | p :: m, n, t, hn, h => by
    rw [tget_cons]
    rcases List.mem_cons.mp h with e | h
    · subst e
      rw [if_pos rfl]
    · rw [List.map_cons] at hn
      obtain ⟨n1, n2⟩ := List.nodup_cons.mp hn
      have hne : ¬ p.1 = n := fun e => n1 (List.mem_map.mpr ⟨(n, t), h, e.symm⟩)
      rw [if_neg hne]
      exact tget_mem n2 h
theorem kd_fit {steps : List Stp} (h : steps.length ≤ 9) : ∀ p ∈ kdOf (rd steps).terms, SeqAt.shaped p.2 = true := fun p hp => by
  obtain ⟨q, hq, rfl⟩ := List.mem_map.mp hp
  have hk := readAll_keys ltT steps .empty (by simp [RS.empty])
  have F := rd_fit h
  have := tget_mem (n := q.1) (t := q.2) hk hq
  exact (F.fit (by decide) (F.tm q.1 q.2 this)).shaped
theorem kd_self (steps : List Stp) : eqKD (kdOf (rd steps).terms) (kdOf (rd steps).terms) = true := by
  unfold eqKD
  rw [Bool.and_eq_true]
  refine ⟨beq_self_eq_true _, List.all_eq_true.mpr fun p hp => ?_⟩
  obtain ⟨q, hq, rfl⟩ := List.mem_map.mp hp
  have hk := readAll_keys ltT steps .empty (by simp [RS.empty])
  have := tget_mem (n := q.1) (t := q.2) hk hq
  rw [show (((Sum.inr q.1.s : Key), q.2.d) : Key × PyData).1 = Sum.inr q.1.s from rfl, valD_kd, this]
  show PyData.eqv q.2.d q.2.d = true
  rw [tm_eqv]
  exact decide_eq_true rfl
theorem acts_shapedT {steps : List Stp} (h : steps.length ≤ 9) : SeqAt.shaped (.tuple ((rd steps).acts.map Act.d)) = true := by
  refine shaped_of ?_ ?_
  · rw [PyData.canLay0]
    exact canAll_map _ act_can _
  · have F := rd_fit h
    rw [PyData.depth]
    have : ∀ l : List Act, (∀ a ∈ l, a ∈ (rd steps).acts) → PyData.depthAll (l.map Act.d) ≤ 20 := by
      intro l
      induction l with
      | nil => intro _; simp [PyData.depthAll]
      | cons a l ih =>
        intro hl
        rw [List.map_cons, PyData.depthAll]
        refine Nat.max_le.mpr ⟨?_, ih fun b hb => hl b (List.mem_cons_of_mem _ hb)⟩
        have := F.acts (Nat.le_refl _) (Nat.le_refl _) a (hl a List.mem_cons_self)
        cases a with
        | store x y =>
          have h1 := this.1.2.1
          have h2 := this.2.2.1
          simp only [Act.d, PyData.depth, PyData.depthAll, tmD_depth]
          omega
        | call x =>
          have h1 := this.2.1
          simp only [Act.d, PyData.depth, PyData.depthAll, tmD_depth]
          omega
    have := this _ fun a ha => ha
    omega
theorem acts_eqvT (s t : List Act) : PyData.eqv (.tuple (s.map Act.d)) (.tuple (t.map Act.d)) = decide (s = t) := eqv_dec (by rw [nob]; exact nobs_map _ actD_nob s) (by rw [nob]; exact nobs_map _ actD_nob t) ⟨fun h => map_inj (fun _ _ => actD_inj) (PyData.tuple.inj h), fun h => by rw [h]⟩
end K36

/-! Law's expressions, one by one. -/
namespace K36
open PySem PySem.Spec PyProof.Rows L2 Evl Pd Gd Dk
section
variable {K : PySem.W.Frag} {H H' : Hp} {σ : L2.St} {D : Ends} {tz tu : L2.TS} {ta tb tc te tk tl : TE} {E : XK} {d ls : Addr} {ns : List Int}
theorem stps_of {R : Stp → Prop} : ∀ {es : List PyData}, (∀ e ∈ es, ∃ s : Stp, R s ∧ e = s.d) → ∃ steps : List Stp, steps.length = es.length ∧ es = steps.map Stp.d
  | [], _ => ⟨[], rfl, rfl⟩
  | e :: es, h => by
    obtain ⟨steps, a1, a3⟩ := stps_of (es := es) fun e' h' => h e' (List.mem_cons_of_mem _ h')
    obtain ⟨s, _, b2⟩ := h e List.mem_cons_self
    exact ⟨s :: steps, by simp [a1], by rw [a3, b2]; rfl⟩
theorem DAt.exl {a : Addr} {kd : KD} (h : DAt K H a kd) (x : Exl d H H') (D : Deck H d ls ns) : DAt K H' a kd := by
  obtain ⟨ks, h1, h2⟩ := h
  have hne : a ≠ d := fun z => by
    obtain ⟨_, _, _, hd, _⟩ := D.dk
    rw [z, hd] at h1
    cases h1
  exact ⟨ks, x _ _ h1 hne, h2.tx (D.tx x)⟩
/-- t[k:], t[:k], k a word -/
theorem ep_slFromE {k : Nat} {ds : List PyData} (h : EvP K te σ H (.tuple ds)) (hk : ∀ H1, Ex H H1 → Ev tk σ H1 (.int (k : Int))) : EvP K (tSl (rSlA K) te (tPart tk) tNoPart) σ H (.tuple (ds.drop k)) := fun H1 e Q q =>
  h H1 e _ fun v H2 e2 p => hk H2 (e.trans e2) H2 (Ex.refl H2) _ fun H3 e3 => ⟨(k : Int), rfl, by
    have q' : ∀ u H4, Ex H3 H4 → PV K H4 u (.tuple (ds.drop k)) → Q u H4 := fun u H4 e4 p4 => q u H4 ((e2.trans e3).trans e4) p4
    exact ep_slT (K := K) (σ := [some v]) (te := tVar 0) (ds := ds) (k := k) (ep_var rfl (p.ex e3)) H3 (Ex.refl H3) Q q' |> fun h => by
      obtain ⟨v', hv, h⟩ := h
      cases hv
      obtain ⟨i, hi, h⟩ := h
      cases hi
      exact h⟩
theorem ep_slToE {k : Nat} {ds : List PyData} (h : EvP K te σ H (.tuple ds)) (hk : ∀ H1, Ex H H1 → Ev tk σ H1 (.int (k : Int))) : EvP K (tSl (rSlA K) te tNoPart (tPart tk)) σ H (.tuple (ds.take k)) := fun H1 e Q q =>
  h H1 e _ fun v H2 e2 p => hk H2 (e.trans e2) H2 (Ex.refl H2) _ fun H3 e3 => ⟨(k : Int), rfl, by
    have q' : ∀ u H4, Ex H3 H4 → PV K H4 u (.tuple (ds.take k)) → Q u H4 := fun u H4 e4 p4 => q u H4 ((e2.trans e3).trans e4) p4
    exact ep_slTo (K := K) (σ := [some v]) (te := tVar 0) (ds := ds) (k := k) (ep_var rfl (p.ex e3)) H3 (Ex.refl H3) Q q' |> fun h => by
      obtain ⟨v', hv, h⟩ := h
      cases hv
      obtain ⟨i, hi, h⟩ := h
      cases hi
      exact h⟩
/-- list(a tuple that is drawn) -/
theorem exl_listT {S : PyData → Prop} {R : List PyData → Prop} (h : EvX K d ls ns te σ H S) (i : ∀ e, S e → ∃ ds, e = .tuple ds ∧ R ds) : EvXL K d ls ns (tCB (rListS K) (tCons te tNil)) σ H R := fun H1 a D Q q =>
  h H1 a D _ fun v e H2 s a2 D2 p => by
    obtain ⟨ds, rfl, r⟩ := i e s
    obtain ⟨ad, us, rfl, hx, px⟩ := pv_tup p
    exact ⟨ad, us, rfl, .inr hx.sq, fun l hl => q l us ds _ (fresh_backl a2 D2.some hl) r (a2.trans (exl_of (Ex.new hl))) (D2.ex (Ex.new hl)) upd_same (px.ex (Ex.new hl))⟩
/-- [x for x in a list if ..], the test drawn -/
theorem exl_filter {m : Addr} {ds : List PyData} {xs : List V} {t : TT} {j : Nat} {vs : List Nat} (hl : ∀ H1, Exl d H H1 → Ev tl σ H1 (.ref m)) (hm : H m = some (.lst xs)) (hmd : m ≠ d) (px : PVs K H xs ds) (hz : ds.length ≤ 1000) (hw : ∀ x, wipe ((wipe σ vs).set j (some x)) vs = wipe σ vs) (hj : ∀ x, ((wipe σ vs).set j (some x))[j]? = some (some x))
    (ht : ∀ x, EvTX d ls ns t ((wipe σ vs).set j (some x)) H) (D0 : Deck H d ls ns) : EvXL K d ls ns (tLc (iList K tl) (gName j) t (tVar j) vs) σ H (fun es => es.length ≤ ds.length ∧ ∀ e ∈ es, e ∈ ds) := fun H1 a D Q q =>
  hl H1 a H1 (Ex.refl H1) _ fun H2 e2 => by
    have a2 : Exl d H H2 := a.trans (exl_of e2)
    have hm2 := a2 _ _ hm hmd
    have D2 := D.ex e2
    have lx := px.length
    refine ⟨m, rfl, ⟨xs, SqL.of hm2⟩, fun Dl hD => ?_⟩
    obtain ⟨n1, n2⟩ := D2.nes hD
    refine lc_list (xs := xs) (fun i H' => ∃ (ws : List V) (es : List PyData), es.length ≤ i ∧ (∀ e ∈ es, e ∈ ds) ∧ H' Dl = some (.lst ws) ∧ PVs K H' ws es ∧ Exl d H2 H' ∧ Deck H' d ls ns) ⟨[], [], Nat.le_refl _, (fun e h => by cases h), upd_same, .nil, exl_of (Ex.new hD), D2.ex (Ex.new hD)⟩
      (fun i H' _ ⟨_, _, _, _, _, _, x, _⟩ => SqL.of (x _ _ hm2 hmd)) (fun i x H' hi p => ?_) (fun H' p => ?_)
    · obtain ⟨ws, es, p1, p2, p3, p4, p5, p6⟩ := p
      obtain ⟨c, hc, pc⟩ := px.get hi
      have hlt := (List.getElem?_eq_some_iff.mp hi).1
      refine ⟨hw _, ht x H' (a2.trans p5) p6 _ fun b H3 a3 D3 => ?_⟩
      have p3' := a3 _ _ p3 n1
      cases b with
      | true =>
        refine ⟨x, hj x, ws, p3', ?_, ws ++ [x], es ++ [c], by simp; omega, fun e he => ?_, upd_same, ?_, (p5.trans a3).mut hD, D3.upd n1 n2⟩
        · rw [p4.length]
          exact sz_lt (by omega)
        · rcases List.mem_append.mp he with he | he
          · exact p2 e he
          · rw [List.mem_singleton.mp he]
            exact List.mem_of_getElem? hc
        · exact ((p4.tx (p6.tx a3)).append (PVs.one (pc.tx (D0.tx (a2.trans (p5.trans a3)))))).tx (Tx.updL p3')
      | false => exact ⟨ws, es, by omega, p2, p3', p4.tx (p6.tx a3), p5.trans a3, D3⟩
    · obtain ⟨ws, es, p1, p2, p3, p4, p5, p6⟩ := p
      exact q Dl ws es H' (fresh_back e2 hD) ⟨by omega, p2⟩ ((exl_of e2).trans p5) p6 p3 p4
/-- a module that is made -/
def EvMod (K : PySem.W.Frag) (te : TE) (σ : L2.St) (H : Hp) (mods : List (Str × PyData)) : Prop := ∀ H1, Ex H H1 → ∀ Q : VK, (∀ p H2, Ex H1 H2 → ModAt K H2 p mods → Q (.ref p) H2) → te σ H1 Q
theorem refs_of : ∀ {ds : List (Str × PyData)} {vs : List V}, PVs K H vs (ds.map fun e => .tuple [.str e.1, e.2]) → ∃ ps : List Addr, vs = ps.map V.ref
  | [], _, h => by cases h; exact ⟨[], rfl⟩
  | e :: ds, _, h => by
    cases h with
    | cons a b =>
      obtain ⟨p, xs, rfl, _, _⟩ := pv_tup a
      obtain ⟨ps, rfl⟩ := refs_of b
      exact ⟨p :: ps, rfl⟩
theorem em_mod {ta : TA} {mods : List (Str × PyData)} (h : EvPs K ta σ H (mods.map fun e => .tuple [.str e.1, e.2])) (hl : mods.length ≤ 100) : EvMod K (tTupF ta) σ H mods := fun H1 e Q q =>
  h H1 e _ fun vs H2 e2 ps => by
    obtain ⟨as, rfl⟩ := refs_of ps
    refine ⟨by rw [ps.length, List.length_map]; exact sz_of (by omega), fun p us r hp => ?_⟩
    exact q p _ (e2.trans (Ex.new hp)) ⟨_, as, upd_same, rfl, rfl, ps.ex (Ex.new hp)⟩
theorem em_var {mods : List (Str × PyData)} {i : Nat} {m : Addr} (h : σ[i]? = some (some (.ref m))) (hm : ModAt K H m mods) : EvMod K (tVar i) σ H mods := fun H1 e Q q => ev_var h H1 (Ex.refl H1) _ fun H2 e2 => q m H2 e2 (hm.ex (e.trans e2))
theorem q_asgMod {i : Nat} {mods : List (Str × PyData)} (h : EvMod K te σ H mods) (k : ∀ p H1, Ex H H1 → ModAt K H1 p mods → tz D (σ.set i (some (.ref p))) H1) : tSeq (tAsg te (gName i)) tz D σ H := h H (Ex.refl H) _ fun p H1 e m => k p H1 e m
theorem ev_alike {t1 t2 t3 t4 t5 : TE} {w : Nat} {mods mods' : List (Str × PyData)} {x x' : Str} {ps ps' : List Nm} {g g' : Gr} {rl : Addr} {rs : List V} {rows : List (List Nat)} {fu : Nat} (h1 : EvMod K t1 σ H mods) (h2 : EvMod K t2 σ H mods') (h3 : Ev t3 σ H (.int (w : Int))) (h4 : Ev t4 σ H (.ref rl)) (h5 : Ev t5 σ H (.int (fu : Int)))
    (hw : Wd w) (m1 : MG mods x ps g) (m2 : MG mods' x' ps' g') (hr : H rl = some (.lst rs)) (pr : PVs K H rs (rows.map natsD)) (hrows : ∀ ws ∈ rows, ps.length = ws.length ∧ ps'.length = ws.length ∧ (∀ v ∈ ws, v < 2 ^ w) ∧ AlikeR w ps ps' g g' fu ws) (hf : 3 * fu ≤ 1000) :
    Ev (tCall (spAlike K) [] E (tCons t1 (tCons t2 (tCons t3 (tCons t4 (tCons t5 tNil)))))) σ H (.bl true) := fun H0 e0 Q q =>
  h1 H0 e0 _ fun a1 H1 e1 M1 => h2 H1 (e0.trans e1) _ fun a2 H2 e2 M2 => h3 H2 ((e0.trans e1).trans e2) _ fun H3 e3 => h4 H3 (((e0.trans e1).trans e2).trans e3) _ fun H4 e4 => h5 H4 ((((e0.trans e1).trans e2).trans e3).trans e4) _ fun H5 e5 =>
    have e25 := (e3.trans e4).trans e5
    have x : Ex H H5 := ((e0.trans e1).trans e2).trans e25
    ⟨a1, a2, rl, w, mods, mods', _, _, ps, ps', g, g', rs, rows, fu, rfl, hw, M1.ex (e2.trans e25), m1, M2.ex e25, m2, x _ _ hr, pr.ex x, hrows, hf, fun H6 e6 => q H6 (((e1.trans e2).trans e25).trans e6)⟩
/-- terms.get(name, ("in", name)) -/
theorem ep_termV {i j : Nat} {td : Addr} {r : RS} {n : Nm} (h1 : σ[i]? = some (some (.ref td))) (h2 : σ[j]? = some (some (.str n.s))) (hD : DAt K H td (kdOf r.terms)) : EvP K (tDGet2 (tVar i) (tVar j) (tTup (tCons (tC (.str "in")) (tCons (tVar j) tNil)))) σ H (tOf r.terms (.nm n)).d := by
  have h := ep_dget2 (K := K) (σ := σ) (H := H) (ta := tVar i) (ty := tVar j) (tx := tTup (tCons (tC (.str "in")) (tCons (tVar j) tNil))) (s := n.s) (dz := (Tm.inp n).d) (ev_var h1) hD (ev_var h2) (ep_tup (eps_cons ep_str (eps_cons (ep_ev (ev_var h2) (.str _)) eps_nil)) (by simp))
  have e3 : (valD (kdOf r.terms) (Sum.inr n.s)).getD (Tm.inp n).d = (tOf r.terms (.nm n)).d := by
    rw [valD_kd]
    show _ = ((tget r.terms n).getD (.inp n)).d
    cases tget r.terms n <;> rfl
  rw [e3] at h
  exact h
/-- terms, acts = _law_terms(x) -/
theorem q_terms {i j : Nat} {steps : List Stp} (h : EvP K te σ H (rowD steps)) (hl : steps.length ≤ 9) (k : ∀ td u H1, Ex H H1 → DAt K H1 td (kdOf (rd steps).terms) → PV K H1 u (.tuple ((rd steps).acts.map Act.d)) → tz D ((σ.set i (some (.ref td))).set j (some u)) H1) :
    tSeq (tAsg (tCall (spTermsOf K) [] E (tCons te tNil)) (gTup K 2 (gCons (gName i) (gCons (gName j) gNil)))) tz D σ H :=
  h H (Ex.refl H) _ fun v H1 e1 p => ⟨v, steps, rfl, p, hl, fun t td u H2 e2 ht hd pu => ⟨t, _, rfl, SqT.of ht, rfl, _, _, rfl, _, _, rfl, rfl, k td u H2 (e1.trans e2) hd pu⟩⟩
/-- terms_of(x) != (terms, acts) -/
theorem et_terms {i j : Nat} {td : Addr} {u : V} {steps : List Stp} (h : EvP K te σ H (rowD steps)) (hl : steps.length ≤ 9) (hi : σ[i]? = some (some (.ref td))) (hj : σ[j]? = some (some u)) (hd : DAt K H td (kdOf (rd steps).terms)) (pu : PV K H u (.tuple ((rd steps).acts.map Act.d))) :
    EvT (tTest (tOp (rNePair K) (tCall (spTermsOf K) [] E (tCons te tNil)) (tTup (tCons (tVar i) (tCons (tVar j) tNil))))) σ H false := fun H0 e0 Q q =>
  h H0 e0 _ fun v H1 e1 p => ⟨v, steps, rfl, p, hl, fun t td' u' H2 e2 ht hd' pu' => ⟨_, hi, _, hj, by
    refine ⟨sz_of (by simp), fun t2 ht2 => ?_⟩
    have en : Ex H2 (upd H2 t2 (.tup [.ref td, u])) := Ex.new ht2
    have x : Ex H _ := ((e0.trans e1).trans e2).trans en
    exact ⟨t, t2, td', td, u', u, _, _, _, _, rfl, rfl, en _ _ ht, upd_same, hd'.ex en, hd.ex x, kd_fit hl, kd_fit hl, kd_self steps, pu'.ex en, pu.ex x, acts_shapedT hl, acts_shapedT hl, by rw [acts_eqvT]; exact decide_eq_true rfl, _, rfl, q _ ((e1.trans e2).trans en)⟩⟩⟩
/-- hang_pairs(x) -/
theorem em_hang {steps : List Stp} (h : EvP K te σ H (rowD steps)) (hl : steps.length ≤ 9) : ∀ H1, Ex H H1 → ∀ Q : VK, (∀ (L : List Trip) u H2, L.Perm (hangL steps steps.length) → Ex H1 H2 → PV K H2 u (.tuple (L.map tripD)) → Q u H2) → tCall (spHang K) [] E (tCons te tNil) σ H1 Q := fun H1 e Q q =>
  h H1 e _ fun v H2 e2 p => ⟨v, steps, rfl, p, hl, fun L u H3 hL e3 pu => q L u H3 hL (e2.trans e3) pu⟩
/-- lives_out(x) -/
theorem em_outs {ps : List Nm} {g : Gr} (h : EvP K te σ H (gD ps g)) (hg : GGood g) : ∀ H1, Ex H H1 → ∀ Q : VK, (∀ outs u H2, Sol g outs → Ex H1 H2 → PV K H2 u (outsD outs) → Q u H2) → tCall (spLivesOut K) [] E (tCons te tNil) σ H1 Q := fun H1 e Q q =>
  h H1 e _ fun v H2 e2 p => ⟨v, ps, g, rfl, p, hg, fun outs u H3 s e3 pu => q outs u H3 s (e2.trans e3) pu⟩
/-- same_blocks(x, y, lives_out(z)) -/
theorem em_same {t1 t2 : TE} {ps ps' : List Nm} {g g' : Gr} {E2 : XK} (h1 : EvP K t1 σ H (gD ps g)) (h2 : EvP K t2 σ H (gD ps' g')) (h3 : EvP K te σ H (gD ps g)) (hg : GGood g) (hg' : GGood g') (l1 : ps.length ≤ 100) (l2 : ps'.length ≤ 100) : ∀ H1, Ex H H1 → ∀ Q : VK, (∀ outs H2, Sol g outs → Ex H1 H2 → Q (.bl (sameG ltT ps ps' g g' outs)) H2) →
    tCall (spSameBlocks K) [] E (tCons t1 (tCons t2 (tCons (tCall (spLivesOut K) [] E2 (tCons te tNil)) tNil))) σ H1 Q := fun H1 e Q q =>
  h1 H1 e _ fun v1 H2 e2 p1 => h2 H2 (e.trans e2) _ fun v2 H3 e3 p2 => em_outs h3 hg H3 ((e.trans e2).trans e3) _ fun outs u H4 S e4 pu => by
    refine ⟨_, _, .cons (p1.ex (e3.trans e4)) (.cons (p2.ex e4) (.cons pu .nil)), ⟨ps, ps', g, g', outs, rfl, l1, l2, ⟨by have := hg.len; omega, hg.st⟩, ⟨by have := hg'.len; omega, hg'.st⟩, S.len, S.small, rfl⟩, fun v H5 e5 p5 => ?_⟩
    cases pv_bl p5
    exact q outs H5 S (((e2.trans e3).trans e4).trans e5)
end
end K36

namespace K36
open PySem PySem.Spec PyProof.Rows L2 Evl Pd Gd Dk
section
variable {K : PySem.W.Frag} {H H' : Hp} {σ : L2.St} {D : Ends} {tz tu : L2.TS} {tb tc te tk tl td : TE} {E : XK} {d ls : Addr} {ns : List Int}
theorem nms_of {L : List Nm} : ∀ {es : List PyData}, (∀ e ∈ es, e ∈ L.map Nm.d) → ∃ al : List Nm, al.length = es.length ∧ es = al.map Nm.d
  | [], _ => ⟨[], rfl, rfl⟩
  | e :: es, h => by
    obtain ⟨al, a1, a3⟩ := nms_of (es := es) fun e' h' => h e' (List.mem_cons_of_mem _ h')
    obtain ⟨n, _, hn⟩ := List.mem_map.mp (h e List.mem_cons_self)
    exact ⟨n :: al, by simp [a1], by rw [a3, ← hn]; rfl⟩
theorem q_begin {i : Nat} {a : Addr} (h : Ev te σ H (.ref a)) (ha : SqL K H a (ns.map V.int)) (hl : ns.length ≤ 63) (k : ∀ d ls H1, Ex H H1 → Deck H1 d ls ns → tz D (σ.set i (some (.ref d))) H1) : tSeq (tAsg (tCall (spBegin K) [] E (tCons te tNil)) (gName i)) tz D σ H :=
  h H (Ex.refl H) _ fun H1 e1 => ⟨a, ns, rfl, ex_l e1 ha, hl, fun d ls H2 _ _ e2 D2 => k d ls H2 (e1.trans e2) D2⟩
/-- [("f", 1)] -/
theorem callsEv : ∀ H1, Exl d H H1 → Deck H1 d ls ns → ∀ Q : VK, (∀ c cs H2, Ex H1 H2 → H2 c = some (.lst cs) → c ≠ d → PVs K H2 cs (callsL true) → Q (.ref c) H2) → tLst (tCons (tTup (tCons (tC (.str "f")) (tCons (tC (.int 1)) tNil))) tNil) σ H1 Q := fun H1 _ D1 Q q =>
  el_tup (K := K) (ds := [.tuple [.str "f", .int 1]]) (eps_cons (ep_tup (eps_cons ep_str (eps_cons ep_int eps_nil)) (by simp)) eps_nil) (by simp) H1 (Ex.refl H1) Q fun p vs H2 hp e2 h2 p2 => q p vs H2 e2 h2 (D1.nes hp).1 p2
/-- if t and u: .., u drawn -/
theorem s_whenX {t u : TT} {b : Bool} (h : EvT t σ H b) (hu : b = true → EvTX d ls ns u σ H) (D0 : Deck H d ls ns) (h1 : b = true → ∀ H1, Exl d H H1 → Deck H1 d ls ns → tu D σ H1) (h2 : ∀ H1, Exl d H H1 → Deck H1 d ls ns → D.nx σ H1) : tIfS (tAnd t u) tu tNext D σ H :=
  h H (Ex.refl H) _ fun H1 e1 => by
    cases b with
    | true =>
      show u σ H1 _
      refine hu rfl H1 (exl_of e1) (D0.ex e1) _ fun b H2 a2 D2 => ?_
      cases b with
      | true => exact h1 rfl H2 ((exl_of e1).trans a2) D2
      | false => exact h2 H2 ((exl_of e1).trans a2) D2
    | false => exact h2 H1 (exl_of e1) (D0.ex e1)
theorem q_rows {i : Nat} {t1 t2 t3 : TE} {w many : Nat} (h1 : Ev t1 σ H (.ref d)) (h2 : Ev t2 σ H (.int (w : Int))) (h3 : Ev t3 σ H (.int (many : Int))) (D0 : Deck H d ls ns) (hl : ns.length ≤ 63) (hw : Wd w) (hm : many ≤ 100)
    (k : ∀ (p : Addr) (vs : List V) (rows : List (List Nat)) (H1 : Hp), (∀ ws ∈ rows, RowOk w many ws) → Exl d H H1 → Deck H1 d ls ns → p ≠ d → H1 p = some (.lst vs) → PVs K H1 vs (rows.map natsD) → tz D (σ.set i (some (.ref p))) H1) :
    tSeq (tAsg (tCall (spLRows K) [] E (tCons t1 (tCons t2 (tCons t3 tNil)))) (gName i)) tz D σ H :=
  h1 H (Ex.refl H) _ fun H1 e1 => h2 H1 e1 _ fun H2 e2 => h3 H2 (e1.trans e2) _ fun H3 e3 =>
    have x := (e1.trans e2).trans e3
    ⟨d, ls, ns, w, many, rfl, D0.ex x, hl, hw, hm, fun p vs rows H4 hp hr a4 D4 h4 p4 => k p vs rows H4 hr ((exl_of x).trans a4) D4 (Deck.nes (D0.ex x) hp).1 h4 p4⟩
theorem q_lgraph {i : Nat} {t1 t2 t3 t4 : TE} (h1 : Ev t1 σ H (.ref d)) (h2 : EvP K t2 σ H parD) (h3 : Ev t3 σ H (.int 4)) (h4 : EvPL K t4 σ H []) (D0 : Deck H d ls ns) (hl : ns.length ≤ 63)
    (k : ∀ (g : Gr) (u : V) (H1 : Hp), LG g → Exl d H H1 → Deck H1 d ls ns → PV K H1 u (gD [.a, .b] g) → tz D (σ.set i (some u)) H1) : tSeq (tAsg (tCall (spLGraph K) [] E (tCons t1 (tCons t2 (tCons t3 (tCons t4 tNil))))) (gName i)) tz D σ H :=
  h1 H (Ex.refl H) _ fun H1 e1 => h2 H1 e1 _ fun v H2 e2 p2 => h3 H2 (e1.trans e2) _ fun H3 e3 => h4 H3 ((e1.trans e2).trans e3) _ fun c vs H4 hc e4 hc4 ps => by
    cases ps
    have x := ((e1.trans e2).trans e3).trans e4
    exact ⟨d, ls, c, ns, v, rfl, D0.ex x, hl, p2.ex (e3.trans e4), hc4, ((D0.ex ((e1.trans e2).trans e3)).nes hc).1, fun g u H5 lg a5 D5 p5 => k g u H5 lg ((exl_of x).trans a5) D5 p5⟩
/-- 2 + a draw -/
theorem ex_addw (h : EvX K d ls ns te σ H (fun e => ∃ r : Nat, r < 4 ∧ e = .int (r : Int))) : EvX K d ls ns (tOp (rI0 fun i j => .int (i + j)) (tC (.int 2)) te) σ H (fun e => ∃ w : Nat, Wd w ∧ e = .int (w : Int)) := fun H1 a D Q q => by
  refine h H1 a D _ fun v e H2 ⟨r, hr, he⟩ a2 D2 p => ?_
  subst he
  cases pv_int p
  refine ⟨2, _, rfl, rfl, q _ _ H2 ⟨2 + r, ⟨by omega, by omega⟩, rfl⟩ a2 D2 ?_⟩
  have : (2 : Int) + (r : Int) = ((2 + r : Nat) : Int) := by omega
  show PV K H2 (.int ((2 : Int) + (r : Int))) _
  rw [this]
  exact .int _
/-- not any([(i, j) == (k, k + 1) for i, j, wait in hang_pairs(x)]) -/
def hangs (steps : List Stp) (k : Nat) : Bool := (hangL steps steps.length).any fun p => decide (p.1 = k ∧ p.2.1 = k + 1)
theorem hangs_no {steps : List Stp} {k : Nat} (h : hangs steps k = false) : ∀ p ∈ hangL steps steps.length, ¬ (p.1 = k ∧ p.2.1 = k + 1) := fun p hp z => by
  unfold hangs at h
  rw [List.any_eq_true.mpr ⟨p, hp, decide_eq_true z⟩] at h
  cases h
theorem two_dec (a b k : Nat) : PyData.eqv (.tuple [natD a, natD b]) (.tuple [natD k, natD (k + 1)]) = decide (a = k ∧ b = k + 1) := eqv_dec (by simp [nob, nobs, natD]) (by simp [nob, nobs, natD]) ⟨fun h => by
  have h := PyData.tuple.inj h
  have h1 := PyData.int.inj (List.cons.inj h).1
  have h2 := PyData.int.inj (List.cons.inj (List.cons.inj h).2).1
  omega, fun ⟨h1, h2⟩ => by rw [h1, h2]⟩
theorem two_sh (a b : Nat) : SeqAt.shaped (.tuple [natD a, natD b]) = true := shaped_of (by simp [PyData.canLay0, PyData.canLayAll0, natD]) (by simp [PyData.depth, PyData.depthAll, natD])
theorem tLc_bind {g : TG} {t : TT} {vs : List Nat} {R : V → Hp → Prop} {H1 : Hp} {Q : VK} (h : ∀ Q : VK, (∀ v H2, R v H2 → Q v H2) → tl σ H1 Q) (k : ∀ v H2, R v H2 → tLc (iTup K (tC v)) g t te vs σ H2 Q) : tLc (iTup K tl) g t te vs σ H1 Q := h _ fun v H2 r => k v H2 r
/-- any of a new list of truths -/
theorem ev_anyB {b : Bool} (h : ∀ H1, Ex H H1 → ∀ Q : VK, (∀ (p : Addr) (bs : List Bool) (H2 : Hp), bs.any id = b → Ex H1 H2 → H2 p = some (.lst (bs.map V.bl)) → Q (.ref p) H2) → te σ H1 Q) : Ev (tCB (rAny K) (tCons te tNil)) σ H (.bl b) := fun H1 e Q q =>
  h H1 e _ fun p bs H2 hb e2 h2 => ⟨p, bs, rfl, SqL.of h2, by rw [hb]; exact q H2 e2⟩
theorem ev_hangs {a : Addr} {nm : Addr} {v3 : V} {k : Nat} {steps : List Stp} {y5 y6 y7 y8 y9 y10 y14 y15 y16 y17 y18 y19 y20 y21 y22 y23 y24 y25 y26 y27 y28 : Option V} (p3 : PV K H v3 (rowD steps)) (hl : steps.length ≤ 9) :
    Ev (tNotV (tCB (rAny K) (tCons (tLc (iTup K (tCall (spHang K) [] E (tCons (tVar 3) tNil))) (gTup K 3 (gCons (gName 11) (gCons (gName 12) (gCons (gName 13) gNil)))) tYes (tOp (rEqD K) (tTup (tCons (tVar 11) (tCons (tVar 12) tNil))) (tTup (tCons (tVar 4) (tCons (tOp (rI0 fun i j => .int (i + j)) (tVar 4) (tC (.int 1))) tNil)))) [11, 12, 13]) tNil)))
      [some (.ref a), some (.ref d), some (.ref nm), some v3, some (.int (k : Int)), y5, y6, y7, y8, y9, y10, none, none, none, y14, y15, y16, y17, y18, y19, y20, y21, y22, y23, y24, y25, y26, y27, y28] H (.bl (!hangs steps k)) := by
  refine ev_notV (ev_anyB fun H1 e1 Q q => ?_)
  refine tLc_bind (R := fun u H2 => ∃ L : List Trip, L.Perm (hangL steps steps.length) ∧ Ex H1 H2 ∧ PV K H2 u (.tuple (L.map tripD))) (fun Q' q' => em_hang (K := K) (ep_var rfl (p3.ex e1)) hl H1 (Ex.refl H1) Q' fun L u H2 hL e2 pu => q' u H2 ⟨L, hL, e2, pu⟩) fun u H2 ⟨L, hL, e2, pu⟩ => ?_
  refine el_lcT (K := K) (σ := [some (.ref a), some (.ref d), some (.ref nm), some v3, some (.int (k : Int)), y5, y6, y7, y8, y9, y10, none, none, none, y14, y15, y16, y17, y18, y19, y20, y21, y22, y23, y24, y25, y26, y27, y28]) (tl := tC u) (g := gTup K 3 (gCons (gName 11) (gCons (gName 12) (gCons (gName 13) gNil)))) (te := (tOp (rEqD K) (tTup (tCons (tVar 11) (tCons (tVar 12) tNil))) (tTup (tCons (tVar 4) (tCons (tOp (rI0 fun i j => .int (i + j)) (tVar 4) (tC (.int 1))) tNil))))) (vs := [11, 12, 13]) (ds := L.map tripD) ((L.map fun p => decide (p.1 = k ∧ p.2.1 = k + 1)).map PyData.bool) (ep_c pu) (by simp) (by
      have h1 := hL.length_eq
      have h2 := hangL_len steps steps.length hl
      rw [List.length_map]
      omega) ?_ H2 (Ex.refl H2) _ fun p vs H3 hp e3 h3 p3' => ?_
  · intro i x c dd H4 e4 hc pc hd2 Q' q'
    obtain ⟨t, ht, rfl⟩ := map_at hc
    obtain ⟨b, hb, rfl⟩ := map_at hd2
    obtain ⟨t', ht', rfl⟩ := map_at hb
    rw [ht] at ht'
    cases ht'
    refine g_tup3 (d1 := natD t.1) (d2 := natD t.2.1) (d3 := .int t.2.2) pc fun v1 v2 v3' q1 q2 q3 => q' _ H4 (Ex.refl H4) rfl ?_
    refine ep_evB (ev_is (et_eqD (K := K) (d := .tuple [natD t.1, natD t.2.1]) (e := .tuple [natD k, natD (k + 1)]) (ep_tup (eps_cons (ep_var rfl q1) (eps_cons (ep_var rfl q2) eps_nil)) (by simp)) (ep_tup (eps_cons (ep_ev (ev_var rfl) (.int _)) (eps_cons (ep_evI (ev_op (ev_var rfl) ev_c rv_I0)) eps_nil)) (by simp)) (two_sh _ _) (two_sh _ _)) ?_)
    rw [two_dec]
  · rw [PVs.of_bools p3'] at h3
    refine q p _ H3 ?_ (e2.trans e3) h3
    rw [List.any_map]
    exact hL.any_eq
theorem PVs.set {v : V} {dd : PyData} (p : PV K H v dd) : ∀ {ds : List PyData} {vs : List V} (i : Nat), PVs K H vs ds → PVs K H (vs.set i v) (ds.set i dd)
  | [], _, i, h => by cases h; exact .nil
  | e :: ds, _, i, h => by
    cases h with
    | cons a b =>
      cases i with
      | zero => exact .cons p b
      | succ i => exact .cons a (PVs.set p i b)
/-- l[j] = data -/
theorem s_setLP {l : Addr} {xs : List V} {j : Nat} {dd : PyData} (hl : H l = some (.lst xs)) (h : EvP K te σ H dd) (ho : ∀ H1, Ex H H1 → Ev tb σ H1 (.ref l)) (hi : ∀ H1, Ex H H1 → Ev tc σ H1 (.int (j : Int))) (hj : j < xs.length) (k : ∀ v H1, Ex H H1 → PV K H1 v dd → D.nx σ (upd H1 l (.lst (xs.set j v)))) : tAsg te (gSub tb tc rSetL) D σ H :=
  h H (Ex.refl H) _ fun v H1 e1 p => ho H1 e1 H1 (Ex.refl H1) _ fun H2 e2 => hi H2 (e1.trans e2) H2 (Ex.refl H2) _ fun H3 e3 =>
    ⟨l, xs, (j : Int), j, rfl, rfl, (e1.trans (e2.trans e3)) _ _ hl, ixN_nat hj, k v H3 (e1.trans (e2.trans e3)) (p.ex (e2.trans e3))⟩
/-- x = same_blocks(.., .., lives_out(..)) -/
theorem q_same {i : Nat} {t1 t2 : TE} {ps ps' : List Nm} {g g' : Gr} {E2 : XK} (h1 : EvP K t1 σ H (gD ps g)) (h2 : EvP K t2 σ H (gD ps' g')) (h3 : EvP K te σ H (gD ps g)) (hg : GGood g) (hg' : GGood g') (l1 : ps.length ≤ 100) (l2 : ps'.length ≤ 100) (k : ∀ outs H1, Sol g outs → Ex H H1 → tz D (σ.set i (some (.bl (sameG ltT ps ps' g g' outs)))) H1) :
    tSeq (tAsg (tCall (spSameBlocks K) [] E (tCons t1 (tCons t2 (tCons (tCall (spLivesOut K) [] E2 (tCons te tNil)) tNil)))) (gName i)) tz D σ H := em_same h1 h2 h3 hg hg' l1 l2 H (Ex.refl H) _ fun outs H1 S e => k outs H1 S e
theorem ev_same {t1 t2 : TE} {ps ps' : List Nm} {g g' : Gr} {E2 : XK} {b : Bool} (h1 : EvP K t1 σ H (gD ps g)) (h2 : EvP K t2 σ H (gD ps' g')) (h3 : EvP K te σ H (gD ps g)) (hg : GGood g) (hg' : GGood g') (l1 : ps.length ≤ 100) (l2 : ps'.length ≤ 100) (hb : ∀ outs, Sol g outs → sameG ltT ps ps' g g' outs = b) :
    Ev (tCall (spSameBlocks K) [] E (tCons t1 (tCons t2 (tCons (tCall (spLivesOut K) [] E2 (tCons te tNil)) tNil)))) σ H (.bl b) := fun H1 e Q q => em_same h1 h2 h3 hg hg' l1 l2 H1 e _ fun outs H2 S e2 => by
  rw [hb outs S]
  exact q H2 e2
end
end K36

namespace K36
open PySem PySem.Spec PyProof.Rows L2 Evl Pd Gd Dk
abbrev sLaw : Stmt := topS 52
abbrev nmLaw : List Str := ["script", "d", "names", "steps", "k", "terms", "acts", "at", "step", "other", "swapped", "i", "j", "wait", "alive", "name", "more", "deeds", "due", "told", "w", "rows", "callee", "one", "two", "graph", "blocks", "bent", "same"]
theorem scLaw : FnScope ["script", "d", "names", "steps", "k", "terms", "acts", "at", "step", "other", "swapped", "i", "j", "wait", "alive", "name", "more", "deeds", "due", "told", "w", "rows", "callee", "one", "two", "graph", "blocks", "bent", "same"] ["script"] (defScope sLaw) := ⟨rfl, rfl, rfl, by decide +kernel, rfl, by decide +kernel, by decide +kernel⟩
structure Calls (P : Program) (w : World) (K : PySem.W.Frag) (mg : Str → Option Value) (base : Heap) where
  fB : Addr
  dB : FuncData
  GB : FnOk P w K mg base CX0 1 fB dB ["script"] (spBegin K)
  kB : PySem.W.keepIn K (.ref fB) = true
  bB : Binds K dB ["script"] []
  gB : mg "_law_begin" = some (.ref fB)
  fT : Addr
  dT : FuncData
  GT : FnOk P w K mg base CX0 1 fT dT ["d", "many"] spTake
  kT : PySem.W.keepIn K (.ref fT) = true
  bT : Binds K dT ["d", "many"] []
  gT : mg "_law_take" = some (.ref fT)
  fP : Addr
  dP : FuncData
  GP : FnOk P w K mg base CX0 2 fP dP ["d", "menu"] (spPick K)
  kP : PySem.W.keepIn K (.ref fP) = true
  bP : Binds K dP ["d", "menu"] []
  gP : mg "_law_pick" = some (.ref fP)
  fS : Addr
  dS : FuncData
  GS : FnOk P w K mg base CX0 4 fS dS ["d", "names", "calls"] (spLStep K)
  kS : PySem.W.keepIn K (.ref fS) = true
  bS : Binds K dS ["d", "names", "calls"] []
  gS : mg "_law_step" = some (.ref fS)
  fM : Addr
  dM : FuncData
  GM : FnG P w K mg base 1 fM dM ["steps"] (spTermsOf K)
  kM : PySem.W.keepIn K (.ref fM) = true
  bM : Binds K dM ["steps"] []
  gM : mg "_law_terms" = some (.ref fM)
  fO : Addr
  dO : FuncData
  GO : FnG P w K mg base 4 fO dO ["steps"] (spTermsOf K)
  kO : PySem.W.keepIn K (.ref fO) = true
  bO : Binds K dO ["steps"] []
  gO : mg "terms_of" = some (.ref fO)
  fH : Addr
  dH : FuncData
  GH : FnOk P w K mg base CX0 3 fH dH ["steps"] (spHang K)
  kH : PySem.W.keepIn K (.ref fH) = true
  bH : Binds K dH ["steps"] []
  gH : mg "hang_pairs" = some (.ref fH)
  fR : Addr
  dR : FuncData
  GR : FnG P w K mg base 4 fR dR ["one", "other", "alive"] (spSameRows K)
  kR : PySem.W.keepIn K (.ref fR) = true
  bR : Binds K dR ["one", "other", "alive"] []
  gR : mg "same_rows" = some (.ref fR)
  fW : Addr
  dW : FuncData
  GW : FnOk P w K mg base CX0 2 fW dW ["d", "w", "many"] (spLRows K)
  kW : PySem.W.keepIn K (.ref fW) = true
  bW : Binds K dW ["d", "w", "many"] []
  gW : mg "_law_rows" = some (.ref fW)
  fA : Addr
  dA : FuncData
  GA : FnOk P w K mg base CX0 6 fA dA ["one", "other", "w", "rows", "fuel"] (spAlike K)
  kA : PySem.W.keepIn K (.ref fA) = true
  bA : Binds K dA ["one", "other", "w", "rows", "fuel"] []
  gA : mg "_law_alike" = some (.ref fA)
  fG : Addr
  dG : FuncData
  GG : FnOk P w K mg base CX0 5 fG dG ["d", "params", "most", "calls"] (spLGraph K)
  kG : PySem.W.keepIn K (.ref fG) = true
  bG : Binds K dG ["d", "params", "most", "calls"] []
  gG : mg "_law_graph" = some (.ref fG)
  fQ : Addr
  dQ : FuncData
  GQ : FnG P w K mg base 5 fQ dQ ["one", "other", "alive"] (spSameBlocks K)
  kQ : PySem.W.keepIn K (.ref fQ) = true
  bQ : Binds K dQ ["one", "other", "alive"] []
  gQ : mg "same_blocks" = some (.ref fQ)
  fL : Addr
  dL : FuncData
  GL : FnOk P w K mg base CX0 5 fL dL ["graph"] (spLivesOut K)
  kL : PySem.W.keepIn K (.ref fL) = true
  bL : Binds K dL ["graph"] []
  gL : mg "lives_out" = some (.ref fL)
  nTuple : mg "tuple" = none
  nRange : mg "range" = none
  nLen : mg "len" = none
  nList : mg "list" = none
  nAny : mg "any" = none
  nAll : mg "all" = none
section
variable {P : Program} {w : World} {K : PySem.W.Frag} {mg : Str → Option Value} {base : Heap}
def spLaw (K : PySem.W.Frag) : Sp := fun vs H Q _ => ∃ (a : Addr) (ns : List Int), vs = [.ref a] ∧ SqL K H a (ns.map V.int) ∧ ns.length ≤ 63 ∧ ∀ H', Q (.bl true) H'
theorem ok_law {f : Addr} {fd : FuncData} (F : Fun K "law" "law" sLaw f fd) (C : Calls P w K mg base) : FnG P w K mg base 7 f fd ["script"] (spLaw K) := by
  refine ofBody F scLaw (fun vs H Q E h => ?_) (fun cdv A outer s H vs Q E hr hG h => ?_)
  · obtain ⟨a, ns, rfl, _⟩ := h
    rfl
  · obtain ⟨a, ns, rfl, ha, hl, q⟩ := h
    have hu := hu_of hr
    have hr1 : Room 1 _ := hr.mono (by decide)
    have hr2 : Room 2 _ := hr.mono (by decide)
    have hr3 : Room 3 _ := hr.mono (by decide)
    have hr4 : Room 4 _ := hr.mono (by decide)
    have hr5 : Room 5 _ := hr.mono (by decide)
    refine ⟨_, (pss_cons (ps_set (i := 1) scLaw.nd rfl (.inr rfl) (pe_call C.GB hr1 (by rfl) C.gB C.kB C.bB .nil pass0 (pa_cons (pv 0) pa_nil))) (pss_cons (ps_set (i := 2) scLaw.nd rfl (.inr rfl) (pe_lst (pa_cons pe_str (pa_cons pe_str (pa_cons pe_str (pa_cons pe_str pa_nil)))))) (pss_cons (ps_set (i := 3) scLaw.nd rfl (.inl rfl) (pe_tupleOf (by rfl) C.nTuple (pe_lc (own := [("k", 4)]) (g := gName 4) (tt := tYes) (te := tCall (spLStep K) [] E0 (tCons (tVar 1) (tCons (tVar 2) (tCons (tLst (tCons (tTup (tCons (tC (.str "f")) (tCons (tC (.int 1)) tNil))) tNil)) tNil)))) rfl scLaw.nd (pi_range1 rfl C.nRange (pa_cons (pe_call C.GT hr1 (by rfl) C.gT C.kT C.bT .nil pass0 (pa_cons (pv 1) (pa_cons pe_int pa_nil))) pa_nil)) (blkOk_by (N := nmLaw) (sc := defScope sLaw) (by decide +kernel)) (fun _ _ _ _ _ => pg_name (i := 4) scLaw.nd rfl (Or.inl rfl)) (fun _ _ _ _ _ => pts_nil) (fun _ _ _ _ _ => (pe_call C.GS hr4 (by rfl) C.gS C.kS C.bS .nil pass0 (pa_cons (pv 1) (pa_cons (pv 2) (pa_cons (pe_lst (pa_cons (pe_tup (pa_cons pe_str (pa_cons pe_int pa_nil))) pa_nil)) pa_nil)))))))) (pss_cons (ps_asg (pe_callG C.GM hr1 hG (by rfl) C.gM C.kM C.bM (pa_cons (pv 3) pa_nil)) (pg_tup rfl (pgs_cons (pg_name (i := 5) scLaw.nd rfl (.inr rfl)) (pgs_cons (pg_name (i := 6) scLaw.nd rfl (.inl rfl)) pgs_nil)))) (pss_cons (ps_if (pt_cmpR (op_nePair (room100 hr)) (pe_callG C.GO hr4 hG (by rfl) C.gO C.kO C.bO (pa_cons (pv 3) pa_nil)) (pe_tup (pa_cons (pv 5) (pa_cons (pv 6) pa_nil))) (nomark _)) (pss_one (ps_ret pe_bl)) pss_nil) (pss_cons (ps_set (i := 7) scLaw.nd rfl (.inl rfl) (pe_call C.GT hr1 (by rfl) C.gT C.kT C.bT .nil pass0 (pa_cons (pv 1) (pa_cons (pe_op op_add (pe_callB call_len_seq (by rfl) C.nLen PySem.boot_len (pa_cons (pv 3) pa_nil)) pe_int) pa_nil)))) (pss_cons (ps_set (i := 8) scLaw.nd rfl (.inl rfl) (pe_call C.GS hr4 (by rfl) C.gS C.kS C.bS .nil pass0 (pa_cons (pv 1) (pa_cons (pv 2) (pa_cons (pe_lst (pa_cons (pe_tup (pa_cons pe_str (pa_cons pe_int pa_nil))) pa_nil)) pa_nil))))) (pss_cons (ps_set (i := 9) scLaw.nd rfl (.inl rfl) (pe_callTy call_list_of (by rfl) C.nList (by decide +kernel) (pa_cons (pe_call C.GP hr2 (by rfl) C.gP C.kP C.bP .nil pass0 (pa_cons (pv 1) (pa_cons (pe_lst (pa_cons (pv 3) (pa_cons (pe_op op_catA (pe_slice sl_tupA (pv 3) po_none (po_some (pv 7))) (pe_slice sl_tupA (pv 3) (po_some (pe_op op_add (pv 7) pe_int)) po_none)) (pa_cons (pe_op op_catA (pe_op op_catA (pe_slice sl_tupA (pv 3) po_none (po_some (pv 7))) (pe_tup (pa_cons (pv 8) pa_nil))) (pe_slice sl_tupA (pv 3) (po_some (pv 7)) po_none)) (pa_cons (pe_revT (pv 3)) pa_nil))))) pa_nil))) pa_nil))) (pss_cons (ps_set (i := 10) scLaw.nd rfl (.inl rfl) pe_bl) (pss_cut (ps_if (PW.pt (pw_and (pt_cmpR op_gt (pe_callB call_len_seq (by rfl) C.nLen PySem.boot_len (pa_cons (pv 3) pa_nil)) pe_int (nomark _)) (pw_and1 (pt_cmpR op_eq (pe_call C.GT hr1 (by rfl) C.gT C.kT C.bT .nil pass0 (pa_cons (pv 1) (pa_cons pe_int pa_nil))) pe_int (nomark _))))) (pss_cons (ps_set (i := 4) scLaw.nd rfl (.inr rfl) (pe_call C.GT hr1 (by rfl) C.gT C.kT C.bT .nil pass0 (pa_cons (pv 1) (pa_cons (pe_op op_sub (pe_callB call_len_seq (by rfl) C.nLen PySem.boot_len (pa_cons (pv 3) pa_nil)) pe_int) pa_nil)))) (pss_cons (ps_set (i := 9) scLaw.nd rfl (.inl rfl) (pe_op op_cat (pe_op op_cat (pe_callTy call_list_of (by rfl) C.nList (by decide +kernel) (pa_cons (pe_slice sl_tupA (pv 3) po_none (po_some (pv 4))) pa_nil)) (pe_lst (pa_cons (pe_ix ix_tup (pv 3) (pe_op op_add (pv 4) pe_int) (fun _ _ => rfl)) (pa_cons (pe_ix ix_tup (pv 3) (pv 4) (fun _ _ => rfl)) pa_nil)))) (pe_callTy call_list_of (by rfl) C.nList (by decide +kernel) (pa_cons (pe_slice sl_tupA (pv 3) (po_some (pe_op op_add (pv 4) pe_int)) po_none) pa_nil)))) (pss_one (ps_set (i := 10) scLaw.nd rfl (.inl rfl) (pe_not (pe_callB (cr_any rfl) (by rfl) C.nAny (by decide +kernel) (pa_cons (pe_lc (own := [("i", 11), ("j", 12), ("wait", 13)]) (g := gTup K 3 (gCons (gName 11) (gCons (gName 12) (gCons (gName 13) gNil)))) (tt := tYes) (te := tOp (rEqD K) (tTup (tCons (tVar 11) (tCons (tVar 12) tNil))) (tTup (tCons (tVar 4) (tCons (tOp (rI0 fun i j => .int (i + j)) (tVar 4) (tC (.int 1))) tNil)))) rfl scLaw.nd (pi_tup (pe_call C.GH hr3 (by rfl) C.gH C.kH C.bH .nil pass0 (pa_cons (pv 3) pa_nil))) (blkOk_by (N := nmLaw) (sc := defScope sLaw) (by decide +kernel)) (fun _ _ _ _ _ => pg_tup rfl (pgs_cons (pg_name (i := 11) scLaw.nd rfl (Or.inl rfl)) (pgs_cons (pg_name (i := 12) scLaw.nd rfl (Or.inl rfl)) (pgs_cons (pg_name (i := 13) scLaw.nd rfl (Or.inl rfl)) pgs_nil)))) (fun _ _ _ _ _ => pts_nil) (fun _ _ _ _ _ => pe_cmpR (op_eqD hr.units) (pe_tup (pa_cons (pv 11) (pa_cons (pv 12) pa_nil))) (pe_tup (pa_cons (pv 4) (pa_cons (pe_op op_add (pv 4) pe_int) pa_nil))) (nomark _))) pa_nil))))))) pss_nil) (pss_cons (ps_set (i := 9) scLaw.nd rfl (.inl rfl) (pe_tupleOf (by rfl) C.nTuple (pv 9))) (pss_cons (ps_set (i := 14) scLaw.nd rfl (.inl rfl) (pe_tupleOf (by rfl) C.nTuple (pe_lc (own := [("name", 15)]) (g := gName 15) (tt := tTest (tOp rEq (tCall spTake [] E0 (tCons (tVar 1) (tCons (tC (.int 2)) tNil))) (tC (.int 0)))) (te := tVar 15) rfl scLaw.nd (pi_list (pv 2)) (blkOk_by (N := nmLaw) (sc := defScope sLaw) (by decide +kernel)) (fun _ _ _ _ _ => pg_name (i := 15) scLaw.nd rfl (Or.inl rfl)) (fun _ _ _ _ _ => pts_one (pt_cmpR op_eq (pe_call C.GT hr1 (by rfl) C.gT C.kT C.bT .nil pass0 (pa_cons (pv 1) (pa_cons pe_int pa_nil))) pe_int (nomark _))) (fun _ _ _ _ _ => pv 15)))) (pss_cons (ps_asg (pe_callG C.GM hr1 hG (by rfl) C.gM C.kM C.bM (pa_cons (pv 9) pa_nil)) (pg_tup rfl (pgs_cons (pg_name (i := 16) scLaw.nd rfl (.inr rfl)) (pgs_cons (pg_name (i := 17) scLaw.nd rfl (.inl rfl)) pgs_nil)))) (pss_cons (ps_set (i := 18) scLaw.nd rfl (.inl rfl) (pe_and (pe_cmpR (op_eqD hr.units) (pv 6) (pv 17) (nomark _)) (pe_one (pe_callB (cr_all rfl) (by rfl) C.nAll (by decide +kernel) (pa_cons (pe_lc (own := [("name", 15)]) (g := gName 15) (tt := tYes) (te := tOp (rEqD K) (tDGet2 (tVar 5) (tVar 15) (tTup (tCons (tC (.str "in")) (tCons (tVar 15) tNil)))) (tDGet2 (tVar 16) (tVar 15) (tTup (tCons (tC (.str "in")) (tCons (tVar 15) tNil))))) rfl scLaw.nd (pi_tup (pv 14)) (blkOk_by (N := nmLaw) (sc := defScope sLaw) (by decide +kernel)) (fun _ _ _ _ _ => pg_name (i := 15) scLaw.nd rfl (Or.inl rfl)) (fun _ _ _ _ _ => pts_nil) (fun _ _ _ _ _ => pe_cmpR (op_eqD hr.units) (pe_dget2 hu (pv 5) (pv 15) (pe_tup (pa_cons pe_str (pa_cons (pv 15) pa_nil))) ⟨by rfl, by rfl, by rfl, by rfl⟩) (pe_dget2 hu (pv 16) (pv 15) (pe_tup (pa_cons pe_str (pa_cons (pv 15) pa_nil))) ⟨by rfl, by rfl, by rfl, by rfl⟩) (nomark _))) pa_nil))))) (pss_cons (ps_set (i := 19) scLaw.nd rfl (.inl rfl) (pe_callG C.GR hr4 hG (by rfl) C.gR C.kR C.bR (pa_cons (pv 3) (pa_cons (pv 9) (pa_cons (pv 14) pa_nil))))) (pss_cons (ps_if (PW.pt (pw_or (pt_cmpR op_ne (pv 19) (pv 18) (nomark _)) (pw_or (pt_cmpR op_isnot_bl (pe_callG C.GR hr4 hG (by rfl) C.gR C.kR C.bR (pa_cons (pv 3) (pa_cons (pv 3) (pa_cons (pe_tupleOf (by rfl) C.nTuple (pv 2)) pa_nil)))) pe_bl (nomark _)) (pw_or1 (PW.pt (pw_and (pt_val (pv 10)) (pw_and1 (pt_not (pt_val (pe_callG C.GR hr4 hG (by rfl) C.gR C.kR C.bR (pa_cons (pv 3) (pa_cons (pv 9) (pa_cons (pe_tupleOf (by rfl) C.nTuple (pv 2)) pa_nil))))))))))))) (pss_one (ps_ret pe_bl)) pss_nil) (pss_cons (ps_set (i := 20) scLaw.nd rfl (.inl rfl) (pe_op op_add pe_int (pe_call C.GT hr1 (by rfl) C.gT C.kT C.bT .nil pass0 (pa_cons (pv 1) (pa_cons pe_int pa_nil))))) (pss_cons (ps_set (i := 21) scLaw.nd rfl (.inl rfl) (pe_call C.GW hr2 (by rfl) C.gW C.kW C.bW .nil pass0 (pa_cons (pv 1) (pa_cons (pv 20) (pa_cons pe_int pa_nil))))) (pss_cons (ps_set (i := 22) scLaw.nd rfl (.inl rfl) (pe_tup (pa_cons pe_str (pa_cons (pe_tup (pa_cons (pe_tup (pa_cons pe_str pa_nil)) (pa_cons (pe_tup (pa_cons (pe_tup (pa_cons (pe_tup (pa_cons (pe_tup (pa_cons pe_str (pa_cons pe_int (pa_cons pe_str pa_nil)))) pa_nil)) (pa_cons (pe_tup (pa_cons pe_str (pa_cons pe_str pa_nil))) pa_nil))) pa_nil)) pa_nil))) pa_nil)))) (pss_cut (ps_if (pt_val (pv 19)) (pss_one (ps_for PassesOwn.never rfl (pi_tup (pv 14)) (pg_name (i := 15) scLaw.nd rfl (.inl rfl)) (pss_cons (ps_set (i := 23) scLaw.nd rfl (.inl rfl) (pe_tupF (pa_cons (pe_tup (pa_cons pe_str (pa_cons (pe_tup (pa_cons (pe_tup (pa_cons pe_str (pa_cons pe_str pa_nil))) (pa_cons (pe_tup (pa_cons (pe_tup (pa_cons (pv 3) (pa_cons (pe_tup (pa_cons pe_str (pa_cons (pv 15) pa_nil))) pa_nil))) pa_nil)) pa_nil))) pa_nil))) (pa_cons (pv 22) pa_nil)))) (pss_cons (ps_set (i := 24) scLaw.nd rfl (.inl rfl) (pe_tupF (pa_cons (pe_tup (pa_cons pe_str (pa_cons (pe_tup (pa_cons (pe_tup (pa_cons pe_str (pa_cons pe_str pa_nil))) (pa_cons (pe_tup (pa_cons (pe_tup (pa_cons (pv 9) (pa_cons (pe_tup (pa_cons pe_str (pa_cons (pv 15) pa_nil))) pa_nil))) pa_nil)) pa_nil))) pa_nil))) (pa_cons (pv 22) pa_nil)))) (pss_one (ps_if (pt_not (pt_val (pe_call C.GA hr (by rfl) C.gA C.kA C.bA .nil pass0 (pa_cons (pv 23) (pa_cons (pv 24) (pa_cons (pv 20) (pa_cons (pv 21) (pa_cons pe_int pa_nil)))))))) (pss_one (ps_ret pe_bl)) pss_nil)))))) pss_nil) (pss_cons (ps_set (i := 25) scLaw.nd rfl (.inl rfl) (pe_call C.GG hr5 (by rfl) C.gG C.kG C.bG .nil pass0 (pa_cons (pv 1) (pa_cons (pe_tup (pa_cons pe_str (pa_cons pe_str pa_nil))) (pa_cons pe_int (pa_cons (pe_lst pa_nil) pa_nil)))))) (pss_cons (ps_set (i := 4) scLaw.nd rfl (.inr rfl) (pe_call C.GT hr1 (by rfl) C.gT C.kT C.bT .nil pass0 (pa_cons (pv 1) (pa_cons (pe_callB call_len_seq (by rfl) C.nLen PySem.boot_len (pa_cons (pe_ix ix_tup (pv 25) pe_int (fun _ _ => rfl)) pa_nil)) pa_nil)))) (pss_cons (ps_set (i := 26) scLaw.nd rfl (.inl rfl) (pe_callTy call_list_of (by rfl) C.nList (by decide +kernel) (pa_cons (pe_ix ix_tup (pv 25) pe_int (fun _ _ => rfl)) pa_nil))) (pss_cut (ps_if (pt_cmpR op_gt (pe_callB call_len_seq (by rfl) C.nLen PySem.boot_len (pa_cons (pe_ix ix_tup (pe_ix ix_list (pv 26) (pv 4) (fun _ _ => rfl)) pe_int (fun _ _ => rfl)) pa_nil)) pe_int (nomark _)) (pss_one (ps_asg (pe_tup (pa_cons (pe_op op_catA (pe_tup (pa_cons (pe_ix ix_tup (pe_ix ix_tup (pe_ix ix_list (pv 26) (pv 4) (fun _ _ => rfl)) pe_int (fun _ _ => rfl)) pe_int (fun _ _ => rfl)) (pa_cons (pe_ix ix_tup (pe_ix ix_tup (pe_ix ix_list (pv 26) (pv 4) (fun _ _ => rfl)) pe_int (fun _ _ => rfl)) pe_int (fun _ _ => rfl)) pa_nil))) (pe_slice sl_tupA (pe_ix ix_tup (pe_ix ix_list (pv 26) (pv 4) (fun _ _ => rfl)) pe_int (fun _ _ => rfl)) (po_some pe_int) po_none)) (pa_cons (pe_ix ix_tup (pe_ix ix_list (pv 26) (pv 4) (fun _ _ => rfl)) pe_int (fun _ _ => rfl)) pa_nil))) (pg_sub (pv 26) (pv 4) set_list))) pss_nil) (pss_cons (ps_set (i := 27) scLaw.nd rfl (.inl rfl) (pe_tup (pa_cons (pe_ix ix_tup (pv 25) pe_int (fun _ _ => rfl)) (pa_cons (pe_tupleOf (by rfl) C.nTuple (pv 26)) pa_nil)))) (pss_cons (ps_set (i := 28) scLaw.nd rfl (.inl rfl) (pe_callG C.GQ hr5 hG (by rfl) C.gQ C.kQ C.bQ (pa_cons (pv 25) (pa_cons (pv 27) (pa_cons (pe_call C.GL hr5 (by rfl) C.gL C.kL C.bL .nil pass0 (pa_cons (pv 25) pa_nil)) pa_nil))))) (pss_cons (ps_if (PW.pt (pw_and (pt_val (pv 28)) (pw_and1 (pt_not (pt_val (pe_call C.GA hr (by rfl) C.gA C.kA C.bA .nil pass0 (pa_cons (pe_tupF (pa_cons (pe_tup (pa_cons pe_str (pa_cons (pv 25) pa_nil))) pa_nil)) (pa_cons (pe_tupF (pa_cons (pe_tup (pa_cons pe_str (pa_cons (pv 27) pa_nil))) pa_nil)) (pa_cons (pv 20) (pa_cons (pv 21) (pa_cons pe_int pa_nil))))))))))) (pss_one (ps_ret pe_bl)) pss_nil) (pss_one (ps_ret (pe_and (pe_cmpR op_is_bl (pe_callG C.GQ hr5 hG (by rfl) C.gQ C.kQ C.bQ (pa_cons (pv 25) (pa_cons (pv 25) (pa_cons (pe_call C.GL hr5 (by rfl) C.gL C.kL C.bL .nil pass0 (pa_cons (pv 25) pa_nil)) pa_nil)))) pe_bl (nomark _)) (pe_one (pe_cmpR op_is_bl (pe_callG C.GQ hr5 hG (by rfl) C.gQ C.kQ C.bQ (pa_cons (pv 25) (pa_cons (pe_tup (pa_cons (pe_tup (pa_cons pe_str pa_nil)) (pa_cons (pe_ix ix_tup (pv 25) pe_int (fun _ _ => rfl)) pa_nil))) (pa_cons (pe_call C.GL hr5 (by rfl) C.gL C.kL C.bL .nil pass0 (pa_cons (pv 25) pa_nil)) pa_nil)))) pe_bl (nomark _))))))))))))))))))))))))))))))))), ?_⟩
    refine q_begin (K := K) (ev_var (v := .ref a) rfl) ha hl fun d ls H1 e1 D1 => ?_
    refine q_asgPL (K := K) (el_tup (ds := [.str "a", .str "b", .str "x", .str "y"]) (eps_cons ep_str (eps_cons ep_str (eps_cons ep_str (eps_cons ep_str eps_nil)))) (by decide)) fun nm nvs H2 hnm e2 hn2 pn2 => ?_
    have D2 := D1.ex e2
    have hnd : nm ≠ d := (D1.nes hnm).1
    have hM : ∀ {G : Hp}, Exl d H2 G → MenuAt K G d nm ([Nm.a, Nm.b, Nm.x, Nm.y].map Nm.d) := fun x => .inl ⟨nvs, x _ _ hn2 hnd, hnd, pn2.tx (D2.tx x)⟩
    refine q_asgX (K := K) (S := fun e => ∃ steps : List Stp, steps.length ≤ 6 ∧ e = rowD steps) (ex_tupleOf (exl_range (S := fun e => ∃ s : Stp, (true = false → isCall s = false) ∧ e = s.d) (m := 6) (exs_take (ex_take (m := 7) (fun _ _ => ev_var rfl) (fun _ _ => ev_c) (by decide) (by decide) hl)) (by decide) (fun x => rfl) fun i => ex_lstep (m := nm) (k := true) (names := [Nm.a, Nm.b, Nm.x, Nm.y]) (fun _ _ => ev_var rfl) (fun _ _ => ev_var rfl) D2 (hM (Exl.refl H2)) hl (by simp) (by simp) callsEv) fun es ⟨h1, h2⟩ => ?_) D2 fun v3 e3 H3 ⟨steps, hs6, he3⟩ a3 D3 p3 => ?_
    · obtain ⟨steps, b1, b2⟩ := stps_of h2
      exact ⟨steps, by omega, by rw [b2]; rfl⟩
    subst he3
    have hs9 : steps.length ≤ 9 := by omega
    refine q_terms (K := K) (ep_var rfl p3) hs9 fun td u H4 e4 hd4 pu4 => ?_
    have p3_4 := p3.ex e4
    refine q_when (b := false) (et_terms (ep_var rfl p3_4) hs9 rfl rfl hd4 pu4) (fun e => by cases e) (fun _ H5 e5 => ?_)
    have D5 := D3.ex (e4.trans e5)
    have a25 : Exl d H2 H5 := a3.trans (exl_of (e4.trans e5))
    have p3_5 := p3_4.ex e5
    have hd5 := hd4.ex e5
    have pu5 := pu4.ex e5
    refine q_asgX (K := K) (ex_take (m := steps.length + 1) (fun _ _ => ev_var rfl) (fun _ x => ev_is (ev_op (ev_lenT (K := K) (ds := steps.map Stp.d) (ep_var rfl (p3_5.tx (D5.tx x)))) ev_c rv_I0) (by rw [List.length_map]; rfl)) (by omega) (by omega) hl) D5 fun v7 e7 H6 ⟨at7, hat, he7⟩ a6 D6 p7 => ?_
    subst he7
    cases pv_int p7
    have a26 := a25.trans a6
    refine q_asgX (K := K) (ex_lstep (m := nm) (k := true) (names := [Nm.a, Nm.b, Nm.x, Nm.y]) (fun _ _ => ev_var rfl) (fun _ _ => ev_var rfl) D6 (hM a26) hl (by simp) (by simp) callsEv) D6 fun v8 e8 H7 ⟨s8, _, he8⟩ a7 D7 p8 => ?_
    subst he8
    have a27 := a26.trans a7
    have a57 := a6.trans a7
    have p3_7 := p3_5.tx (D5.tx a57)
    have hrow : ∀ os : List Stp, rowD os = .tuple (os.map Stp.d) := fun _ => rfl
    refine q_asgXL (K := K) (exl_listT (S := fun e => ∃ os : List Stp, os.length ≤ 7 ∧ e = rowD os) (R := fun ds => ∃ os : List Stp, os.length ≤ 7 ∧ ds = os.map Stp.d) ((ex_pick (ds := [.tuple (steps.map Stp.d), .tuple ((steps.map Stp.d).take at7 ++ (steps.map Stp.d).drop (at7 + 1)), .tuple (((steps.map Stp.d).take at7 ++ [s8.d]) ++ (steps.map Stp.d).drop at7), .tuple (steps.map Stp.d).reverse]) (fun _ _ => ev_var rfl) (fun H8 a8 D8 => em_list (el_tup (eps_cons ?_ (eps_cons ?_ (eps_cons ?_ (eps_cons ?_ eps_nil)))) (by simp)) D8.some) hl (by simp) (by simp)).imp fun e he => ?_) fun e ⟨os, h1, h2⟩ => ⟨os.map Stp.d, h2, os, h1, rfl⟩) D7 fun lp vs9 es H8 hlp ⟨os, ho7, hes⟩ a8 D8 hl8 pl8 => ?_
    · exact ep_var rfl (p3_7.tx (D7.tx a8))
    · exact ep_cat (ep_slToE (ep_var rfl (p3_7.tx (D7.tx a8))) fun _ _ => ev_var rfl) (ep_slFromE (ep_var rfl (p3_7.tx (D7.tx a8))) fun _ _ => ev_is (ev_op (ev_var rfl) ev_c (rv_I0 (g := fun i j => .int (i + j)))) rfl) (by simp; omega)
    · exact ep_cat (ep_cat (ep_slToE (ep_var rfl (p3_7.tx (D7.tx a8))) fun _ _ => ev_var rfl) (ep_tup (eps_cons (ep_var rfl (p8.tx (D7.tx a8))) eps_nil) (by simp)) (by simp; omega)) (ep_slFromE (ep_var rfl (p3_7.tx (D7.tx a8))) fun _ _ => ev_var rfl) (by simp; omega)
    · exact ep_revT (ep_var rfl (p3_7.tx (D7.tx a8)))
    · simp only [List.mem_cons, List.not_mem_nil, or_false] at he
      rcases he with rfl | rfl | rfl | rfl
      · exact ⟨steps, by omega, rfl⟩
      · exact ⟨steps.take at7 ++ steps.drop (at7 + 1), by simp; omega, by simp [rowD, List.map_take, List.map_drop]⟩
      · exact ⟨steps.take at7 ++ [s8] ++ steps.drop at7, by simp; omega, by simp [rowD, List.map_take, List.map_drop]⟩
      · exact ⟨steps.reverse, by simp; omega, by simp [rowD]⟩
    subst hes
    have hlpd : lp ≠ d := (D7.nes hlp).1
    have p3_8 := p3_7.tx (D7.tx a8)
    have a28 := a27.trans a8
    have a58 := a57.trans a8
    have hd8 := DAt.exl hd5 a58 D5
    have pu8 := pu5.tx (D5.tx a58)
    refine q_asg ev_c fun H9 e9 => ?_
    have D9 := D8.ex e9
    have p3_9 := p3_8.ex e9
    refine q_cut (M := fun σ' H' => ∃ (y4 : Option V) (lq : Addr) (vs : List V) (oq : List Stp) (b : Bool), σ' = [some (.ref a), some (.ref d), some (.ref nm), some v3, y4, some (.ref td), some u, some (.int (at7 : Int)), some v8, some (.ref lq), some (.bl b), none, none, none, none, none, none, none, none, none, none, none, none, none, none, none, none, none, none] ∧
      H' lq = some (.lst vs) ∧ PVs K H' vs (oq.map Stp.d) ∧ oq.length ≤ 7 ∧ (b = true → ∀ al, sameR ltT steps oq al = true) ∧ Exl d H9 H' ∧ Deck H' d ls ns) ?_ ?_
    · refine s_whenX (b := decide ((steps.length : Int) > 1)) (et_test (ev_op (ev_is (ev_lenT (K := K) (ds := steps.map Stp.d) (ep_var rfl p3_9)) (by rw [List.length_map])) ev_c rv_I0)) (fun _ => etx_cmp (K := K) (f := fun k => decide (V.int k = .int 0)) (ex_take (m := 2) (fun _ _ => ev_var rfl) (fun _ _ => ev_c) (by decide) (by decide) hl) fun k H1 _ _ Q1 q1 => ⟨rfl, q1 H1 (Ex.refl H1)⟩) D9 (fun hb H10 a10 D10 => ?_) (fun H10 a10 D10 => ⟨_, lp, vs9, os, false, rfl, a10 _ _ (e9 _ _ hl8) hlpd, (pl8.ex e9).tx (D9.tx a10), ho7, (fun z => by cases z), a10, D10⟩)
      have hb := of_decide_eq_true hb
      have p3_10 := p3_9.tx (D9.tx a10)
      refine q_asgX (K := K) (ex_take (m := steps.length - 1) (fun _ _ => ev_var rfl) (fun _ x => ev_is (ev_op (ev_lenT (K := K) (ds := steps.map Stp.d) (ep_var rfl (p3_10.tx (D10.tx x)))) ev_c rv_I0) (by rw [List.length_map]; congr 1; omega)) (by omega) (by omega) hl) D10 fun v4 e4' H11 ⟨kk, hkk, he4⟩ a11 D11 p4 => ?_
      subst he4
      cases pv_int p4
      have p3_11 := p3_10.tx (D10.tx a11)
      obtain ⟨s0, hs0⟩ : ∃ s0, steps[kk]? = some s0 := ⟨_, List.getElem?_eq_getElem (by omega)⟩
      obtain ⟨s1, hs1⟩ : ∃ s1, steps[kk + 1]? = some s1 := ⟨_, List.getElem?_eq_getElem (by omega)⟩
      have hsl := swapL_len hs0 hs1
      refine q_asgPL (K := K) (el_cat2 (el_cat2 (el_listT (ep_slToE (k := kk) (ds := steps.map Stp.d) (ep_var rfl p3_11) fun _ _ => ev_var rfl)) (el_tup (ds := [s1.d, s0.d]) (eps_cons (ep_ixT (i := kk + 1) (ds := steps.map Stp.d) (ep_var rfl p3_11) (ev_is (ev_op (ev_var rfl) ev_c (rv_I0 (g := fun i j => .int (i + j)))) rfl) (by rw [List.getElem?_map, hs1]; rfl)) (eps_cons (ep_ixT (i := kk) (ds := steps.map Stp.d) (ep_var rfl p3_11) (ev_var rfl) (by rw [List.getElem?_map, hs0]; rfl)) eps_nil)) (by simp)) (by simp; omega)) (el_listT (ep_slFromE (k := kk + 2) (ds := steps.map Stp.d) (ep_var rfl p3_11) fun _ _ => ev_is (ev_op (ev_var rfl) ev_c (rv_I0 (g := fun i j => .int (i + j)))) rfl)) (by simp; omega)) fun lq vs H12 hlq e12 hl12 pl12 => ?_
      have hsw : ((steps.map Stp.d).take kk ++ [s1.d, s0.d]) ++ (steps.map Stp.d).drop (kk + 2) = (swapL steps kk s0 s1).map Stp.d := by simp [swapL, List.map_take, List.map_drop]
      rw [hsw] at pl12
      refine s_asg (ev_hangs (p3_11.ex e12) hs9) fun H13 e13 => ?_
      exact ⟨_, lq, vs, swapL steps kk s0 s1, !hangs steps kk, rfl, e13 _ _ hl12, pl12.ex e13, by omega, (fun z al => swapL_same hs0 hs1 (hangs_no (by cases hh : hangs steps kk with | true => rw [hh] at z; cases z | false => rfl)) al), (a10.trans a11).trans (exl_of (e12.trans e13)), D11.ex (e12.trans e13)⟩
    · rintro σ' H10 ⟨y4, lq, vs10, oq, sw, rfl, hl10, pl10, ho7, hsw, a10, D10⟩
      have a9_10 := a10
      have p3_10 := p3_9.tx (D9.tx a10)
      have hd10 := DAt.exl (hd8.ex e9) a10 D9
      have pu10 := (pu8.ex e9).tx (D9.tx a10)
      have a210 : Exl d H2 H10 := a28.trans ((exl_of e9).trans a10)
      refine q_asgP (K := K) (ep_tupleS (ev_var rfl) hl10 pl10) fun v9 H11 e11 p9 => ?_
      have D11 := D10.ex e11
      have a211 := a210.trans (exl_of e11)
      have hn11 : H11 nm = some (.lst nvs) := a211 _ _ hn2 hnd
      refine q_asgX (K := K) (S := fun e => ∃ al : List Nm, al.length ≤ 4 ∧ e = .tuple (al.map Nm.d)) (ex_tupleOf (exl_filter (m := nm) (xs := nvs) (ds := [Nm.a, Nm.b, Nm.x, Nm.y].map Nm.d) (fun _ _ => ev_var rfl) hn11 hnd (pn2.tx (D2.tx a211)) (by simp) (fun x => rfl) (fun x => rfl) (fun x => etx_cmp (K := K) (f := fun k => decide (V.int k = .int 0)) (ex_take (m := 2) (fun _ _ => ev_var rfl) (fun _ _ => ev_c) (by decide) (by decide) hl) fun k H1 _ _ Q1 q1 => ⟨rfl, q1 H1 (Ex.refl H1)⟩) D11) fun es ⟨h1, h2⟩ => ?_) D11 fun v14 e14 H12 ⟨al, hal4, he14⟩ a12 D12 p14 => ?_
      · obtain ⟨al, b1, b2⟩ := nms_of h2
        exact ⟨al, by simpa [b1] using h1, by rw [b2]⟩
      subst he14
      have x12 : Exl d H10 H12 := (exl_of e11).trans a12
      have p3_12 := p3_10.tx (D10.tx x12)
      have hd12 := DAt.exl hd10 x12 D10
      have pu12 := pu10.tx (D10.tx x12)
      have p9_12 := p9.tx (D11.tx a12)
      have ho9 : oq.length ≤ 9 := by omega
      refine q_terms (K := K) (steps := oq) (ep_var rfl p9_12) ho9 fun tm um H13 e13 hd13 pu13 => ?_
      have hd13' := hd12.ex e13
      have pu13' := pu12.ex e13
      have p3_13 := p3_12.ex e13
      have p9_13 := p9_12.ex e13
      have p14_13 := p14.ex e13
      have hop : opdsD (al.map Opd.nm) = .tuple (al.map Nm.d) := by
        unfold opdsD
        rw [List.map_map]
        rfl
      refine q_asg (v := .bl (sameR ltT steps oq (al.map Opd.nm))) (ev_is (ev_andV (a := decide ((rd steps).acts = (rd oq).acts)) (b := (al.map fun n => decide (tOf (rd steps).terms (.nm n) = tOf (rd oq).terms (.nm n))).all id) (ev_is (et_eqD (K := K) (ep_var rfl pu13') (ep_var rfl pu13) (acts_shapedT hs9) (acts_shapedT ho9)) (by rw [acts_eqvT])) (fun _ => ev_all (el_lcT (K := K) (σ := [some (.ref a), some (.ref d), some (.ref nm), some v3, y4, some (.ref td), some u, some (.int (at7 : Int)), some v8, some v9, some (.bl sw), none, none, none, some v14, none, some (.ref tm), some um, none, none, none, none, none, none, none, none, none, none, none]) (tl := tVar 14) (g := gName 15) (te := tOp (rEqD K) (tDGet2 (tVar 5) (tVar 15) (tTup (tCons (tC (.str "in")) (tCons (tVar 15) tNil)))) (tDGet2 (tVar 16) (tVar 15) (tTup (tCons (tC (.str "in")) (tCons (tVar 15) tNil))))) (vs := [15]) (ds := al.map Nm.d) ((al.map fun n => decide (tOf (rd steps).terms (.nm n) = tOf (rd oq).terms (.nm n))).map PyData.bool) (ep_var rfl p14_13) (by simp) (by rw [List.length_map]; omega) ?_))) ?_) fun H14 e14 => ?_
      · intro i x c dd H5 e5 hc pc hd2 Q k
        obtain ⟨n, hn, rfl⟩ := map_at hc
        obtain ⟨bb, hbb, rfl⟩ := map_at hd2
        obtain ⟨n', hn', rfl⟩ := map_at hbb
        rw [hn] at hn'
        cases hn'
        cases pv_str pc
        have fa := (rd_fit hs9).fit (by decide) ((rd_fit hs9).opd (.nm n))
        have fb := (rd_fit ho9).fit (by decide) ((rd_fit ho9).opd (.nm n))
        refine k _ H5 (Ex.refl H5) rfl (ep_evB (ev_is (et_eqD (K := K) (ep_termV rfl rfl (hd13'.ex e5)) (ep_termV rfl rfl (hd13.ex e5)) fa.shaped fb.shaped) ?_))
        rw [tm_eqv]
      · unfold sameR
        rw [List.all_map, List.all_map]
        rfl
      refine q_asg (v := .bl (sameR ltT steps oq (al.map Opd.nm))) (ev_epB (K := K) (ep_call (eps_cons (ep_var rfl (p3_13.ex e14)) (eps_cons (ep_var rfl (p9_13.ex e14)) (eps_cons (ep_var rfl (p14_13.ex e14)) eps_nil))) ⟨steps, oq, al.map Opd.nm, by rw [hop]; rfl, hs9, ho9, by rw [List.length_map]; omega, rfl⟩)) fun H15 e15 => ?_
      have e1415 := e14.trans e15
      have p3_15 := p3_13.ex e1415
      have p9_15 := p9_13.ex e1415
      have p14_15 := p14_13.ex e1415
      have x1215 : Ex H12 H15 := e13.trans e1415
      have x215 : Exl d H2 H15 := (a211.trans a12).trans (exl_of x1215)
      have hn15 : H15 nm = some (.lst nvs) := x215 _ _ hn2 hnd
      have pn15 : PVs K H15 nvs ([Nm.a, Nm.b, Nm.x, Nm.y].map Nm.d) := pn2.tx (D2.tx x215)
      have hnames : opdsD ([Nm.a, Nm.b, Nm.x, Nm.y].map Opd.nm) = .tuple ([Nm.a, Nm.b, Nm.x, Nm.y].map Nm.d) := rfl
      refine q_when (b := false || (false || (sw && false))) (et_or (et_test (ev_is (ev_op (ev_var (v := .bl (sameR ltT steps oq (al.map Opd.nm))) rfl) (ev_var (v := .bl (sameR ltT steps oq (al.map Opd.nm))) rfl) (rv_ne rfl)) (congrArg V.bl (by rw [decide_eq_true rfl]; rfl)))) fun _ => et_or (et_test (ev_is (ev_op (ev_epB (K := K) (b := sameR ltT steps steps ([Nm.a, Nm.b, Nm.x, Nm.y].map Opd.nm)) (ep_call (eps_cons (ep_var rfl p3_15) (eps_cons (ep_var rfl p3_15) (eps_cons (ep_tupleS (ev_var rfl) hn15 pn15) eps_nil))) ⟨steps, steps, _, by rw [hnames], hs9, hs9, by simp, rfl⟩)) ev_c (fun H1 e Q q => ⟨_, _, rfl, rfl, q H1 (Ex.refl H1)⟩)) (congrArg V.bl (by rw [same_refl]; rfl)))) fun _ =>
        et_and (et_B (ev_var rfl)) fun hsw1 => et_not (et_B (ev_is (ev_epB (K := K) (b := sameR ltT steps oq ([Nm.a, Nm.b, Nm.x, Nm.y].map Opd.nm)) (ep_call (eps_cons (ep_var rfl p3_15) (eps_cons (ep_var rfl p9_15) (eps_cons (ep_tupleS (ev_var rfl) hn15 pn15) eps_nil))) ⟨steps, oq, _, by rw [hnames]; rfl, hs9, ho9, by simp, rfl⟩)) (congrArg V.bl (hsw hsw1 _))))) (fun e => by cases sw <;> cases e) (fun _ H16 e16 => ?_)
      have D16 := D12.ex (x1215.trans e16)
      have p3_16 := p3_15.ex e16
      have p9_16 := p9_15.ex e16
      have p14_16 := p14_15.ex e16
      refine q_asgX (K := K) (ex_addw (ex_take (m := 4) (fun _ _ => ev_var rfl) (fun _ _ => ev_c) (by decide) (by decide) hl)) D16 fun v20 e20 H17 ⟨w, hw, he20⟩ a17 D17 p20 => ?_
      subst he20
      cases pv_int p20
      refine q_rows (K := K) (many := 2) (ev_var rfl) (ev_var rfl) ev_c D17 hl hw (by decide) fun rl rvs rows H18 hrows a18 D18 hrd hl18 pl18 => ?_
      have a1618 := a17.trans a18
      have p3_18 := p3_16.tx (D16.tx a1618)
      have p9_18 := p9_16.tx (D16.tx a1618)
      have p14_18 := p14_16.tx (D16.tx a1618)
      refine q_asgP (K := K) (d := .tuple [.str "f", gD [.a] calG]) (ep_tup (eps_cons ep_str (eps_cons (ep_tup (ds := [.tuple [.str "a"], blksD calG]) (eps_cons (ep_tup (eps_cons ep_str eps_nil) (by simp)) (eps_cons (ep_tup (ds := [.tuple [.tuple [.tuple [.str "store", .int 1, .str "a"]], .tuple [.str "ret", .str "a"]]]) (eps_cons (ep_tup (eps_cons (ep_tup (eps_cons (ep_tup (eps_cons ep_str (eps_cons ep_int (eps_cons ep_str eps_nil))) (by simp)) eps_nil) (by simp)) (eps_cons (ep_tup (eps_cons ep_str (eps_cons ep_str eps_nil)) (by simp)) eps_nil)) (by simp)) eps_nil) (by simp)) eps_nil)) (by simp)) eps_nil)) (by simp)) fun v22 H19 e19 p22 => ?_
      have D19 := D18.ex e19
      have p3_19 := p3_18.ex e19
      have p9_19 : PV K H19 v9 (rowD oq) := p9_18.ex e19
      have p14_19 := p14_18.ex e19
      have hl19 := e19 _ _ hl18
      have pl19 := pl18.ex e19
      have mg_main : ∀ {st : List Stp} {n : Nm}, st.length ≤ 9 → MG [("main", gD [.a, .b] (mainG st n)), ("f", gD [.a] calG)] "main" [.a, .b] (mainG st n) := fun h => ⟨rfl, by
        show [("main" : Str), "f"].Nodup
        decide +kernel, by decide, mainG_good h, Nat.one_pos, .inr ⟨1, rfl⟩⟩
      refine q_cut (M := fun σ' H' => ∃ y15 y23 y24, σ' = [some (.ref a), some (.ref d), some (.ref nm), some v3, y4, some (.ref td), some u, some (.int (at7 : Int)), some v8, some v9, some (.bl sw), none, none, none, some v14, y15, some (.ref tm), some um, some (.bl (sameR ltT steps oq (al.map Opd.nm))), some (.bl (sameR ltT steps oq (al.map Opd.nm))), some (.int (w : Int)), some (.ref rl), some v22, y23, y24, none, none, none, none] ∧ Ex H19 H') ?_ ?_
      · refine s_when (et_B (ev_var rfl)) (fun htold H20 e20 => ?_) (fun _ H20 e20 => ⟨_, _, _, rfl, e20⟩)
        refine s_forTP (K := K) (ds := al.map Nm.d) (ep_var rfl (p14_19.ex e20)) (fun H1 i σ' H' => ∃ y15 y23 y24, σ' = [some (.ref a), some (.ref d), some (.ref nm), some v3, y4, some (.ref td), some u, some (.int (at7 : Int)), some v8, some v9, some (.bl sw), none, none, none, some v14, y15, some (.ref tm), some um, some (.bl (sameR ltT steps oq (al.map Opd.nm))), some (.bl (sameR ltT steps oq (al.map Opd.nm))), some (.int (w : Int)), some (.ref rl), some v22, y23, y24, none, none, none, none] ∧ Ex H1 H') (fun H21 e21 => ⟨_, _, _, rfl, Ex.refl _⟩) (fun H1 i σ' H' ⟨_, _, _, _, x⟩ => tx_of x) ?_ (fun H1 σ' H' e1 ⟨y15, y23, y24, h, x⟩ => ⟨y15, y23, y24, h, (e20.trans e1).trans x⟩)
        rintro H21 i x dd σ' H22 e21 hd pd ⟨y15, y23, y24, rfl, x22⟩
        obtain ⟨n, hn, rfl⟩ := map_at hd
        cases pv_str pd
        have x1922 := (e20.trans e21).trans x22
        refine q_asgMod (em_mod (K := K) (mods := [("main", gD [.a, .b] (mainG steps n)), ("f", gD [.a] calG)]) (eps_cons (ep_tup (eps_cons ep_str (eps_cons (ep_tup (ds := [.tuple [.str "a", .str "b"], .tuple [.tuple [rowD steps, .tuple [.str "ret", .str n.s]]]]) (eps_cons (ep_tup (eps_cons ep_str (eps_cons ep_str eps_nil)) (by simp)) (eps_cons (ep_tup (eps_cons (ep_tup (eps_cons (ep_var rfl (p3_19.ex x1922)) (eps_cons (ep_tup (eps_cons ep_str (eps_cons (ep_ev (ev_var rfl) (.str n.s)) eps_nil)) (by simp)) eps_nil)) (by simp)) eps_nil) (by simp)) eps_nil)) (by simp)) eps_nil)) (by simp)) (eps_cons (ep_var rfl ((p22.ex x1922))) eps_nil)) (by simp)) fun m1 H23 e23 M1 => ?_
        have x1923 := x1922.trans e23
        refine q_asgMod (em_mod (K := K) (mods := [("main", gD [.a, .b] (mainG oq n)), ("f", gD [.a] calG)]) (eps_cons (ep_tup (eps_cons ep_str (eps_cons (ep_tup (ds := [.tuple [.str "a", .str "b"], .tuple [.tuple [rowD oq, .tuple [.str "ret", .str n.s]]]]) (eps_cons (ep_tup (eps_cons ep_str (eps_cons ep_str eps_nil)) (by simp)) (eps_cons (ep_tup (eps_cons (ep_tup (eps_cons (ep_var rfl (p9_19.ex x1923)) (eps_cons (ep_tup (eps_cons ep_str (eps_cons (ep_ev (ev_var rfl) (.str n.s)) eps_nil)) (by simp)) eps_nil)) (by simp)) eps_nil) (by simp)) eps_nil)) (by simp)) eps_nil)) (by simp)) (eps_cons (ep_var rfl ((p22.ex x1923))) eps_nil)) (by simp)) fun m2 H24 e24 M2 => ?_
        have x1924 := x1923.trans e24
        refine s_when (b := !true) (et_not (et_B (ev_alike (K := K) (fu := 40) (em_var rfl (M1.ex e24)) (em_var rfl M2) (ev_var rfl) (ev_var (v := .ref rl) rfl) ev_c hw (mg_main hs9) (mg_main ho9) (x1924 _ _ hl19) (pl19.ex x1924) (fun ws hws => ⟨(hrows ws hws).1.symm, (hrows ws hws).1.symm, (hrows ws hws).2, main_alike [.a, .b] 40 ws htold (List.mem_map.mpr ⟨n, List.mem_of_getElem? hn, rfl⟩)⟩) (by decide)))) (fun e => by cases e) (fun _ H25 e25 => ⟨_, _, _, rfl, x22.trans ((e23.trans e24).trans e25)⟩)
      · rintro σ' H20 ⟨y15, y23, y24, rfl, x20⟩
        have D20 := D19.ex x20
        refine q_lgraph (K := K) (ev_var rfl) (ep_tup (ds := [Nm.a.d, Nm.b.d]) (eps_cons ep_str (eps_cons ep_str eps_nil)) (by simp)) ev_c (el_tup eps_nil (by simp)) D20 hl fun g v25 H21 lg a21 D21 p25 => ?_
        have gg : GGood g := ⟨by have := lg.len; omega, fun b hb => by have := lg.st b hb; omega, lg.gl⟩
        refine q_asgX (K := K) (ex_take (m := g.length) (fun _ _ => ev_var rfl) (fun _ x => ev_is (ev_lenT (K := K) (ds := g.map Blk.d) (ep_ixT (i := 1) (ds := [.tuple [Nm.a.d, Nm.b.d], blksD g]) (ep_var rfl (p25.tx (D21.tx x))) ev_c rfl)) (by rw [List.length_map])) lg.pos (by have := lg.len; omega) hl) D21 fun v4 e4' H22 ⟨kk, hkk, he4⟩ a22 D22 p4 => ?_
        subst he4
        cases pv_int p4
        have p25_22 := p25.tx (D21.tx a22)
        refine q_asgPL (K := K) (el_listT (ds := g.map Blk.d) (ep_ixT (i := 1) (ds := [.tuple [Nm.a.d, Nm.b.d], blksD g]) (ep_var rfl p25_22) ev_c rfl)) fun lb vsb H23 hlb e23 hl23 pl23 => ?_
        have p25_23 := p25_22.ex e23
        obtain ⟨bk, hbk⟩ : ∃ bk, g[kk]? = some bk := ⟨_, List.getElem?_eq_getElem hkk⟩
        have hbm := List.mem_of_getElem? hbk
        have bk3 := lg.st bk hbm
        refine q_cut (M := fun σ' H' => ∃ (vs : List V) (g' : Gr), σ' = [some (.ref a), some (.ref d), some (.ref nm), some v3, some (.int (kk : Int)), some (.ref td), some u, some (.int (at7 : Int)), some v8, some v9, some (.bl sw), none, none, none, some v14, y15, some (.ref tm), some um, some (.bl (sameR ltT steps oq (al.map Opd.nm))), some (.bl (sameR ltT steps oq (al.map Opd.nm))), some (.int (w : Int)), some (.ref rl), some v22, y23, y24, some v25, some (.ref lb), none, none] ∧ H' lb = some (.lst vs) ∧ PVs K H' vs (g'.map Blk.d) ∧ g'.length = g.length ∧ GGood g' ∧ noCalls g' ∧ Ex H22 H') ?_ ?_
        · have blk : ∀ {G : Hp} {σ : L2.St}, Ex H23 G → σ[26]? = some (some (.ref lb)) → σ[4]? = some (some (.int (kk : Int))) → EvP K (tOp (rIxL K) (tVar 26) (tVar 4)) σ G bk.d := fun e s26 s4 => ep_ixL (i := kk) (ds := g.map Blk.d) (ev_var s26) (SqL.of (e _ _ hl23)) (pl23.ex e) (ev_var s4) (by rw [List.getElem?_map, hbk]; rfl)
          refine s_when (b := decide ((bk.steps.length : Int) > 1)) (et_test (ev_op (ev_is (ev_lenT (K := K) (ds := bk.steps.map Stp.d) (ep_stps (blk (Ex.refl _) rfl rfl))) (by rw [List.length_map])) ev_c rv_I0)) (fun hb H24 e24 => ?_) (fun _ H24 e24 => ⟨vsb, g, rfl, e24 _ _ hl23, pl23.ex e24, rfl, gg, lg.nc, e23.trans e24⟩)
          have hb := of_decide_eq_true hb
          obtain ⟨st, fin⟩ := bk
          obtain ⟨s0, s1, rest, rfl⟩ : ∃ s0 s1 rest, st = s0 :: s1 :: rest := by
            match st, hb with
            | [], h => simp at h
            | [_], h => simp at h
            | s0 :: s1 :: rest, _ => exact ⟨s0, s1, rest, rfl⟩
          have sp : ∀ {G : Hp} {σ : L2.St}, Ex H23 G → σ[26]? = some (some (.ref lb)) → σ[4]? = some (some (.int (kk : Int))) → EvP K (tOp (rIxT K) (tOp (rIxL K) (tVar 26) (tVar 4)) (tC (.int 0))) σ G (.tuple ((s0 :: s1 :: rest).map Stp.d)) := fun e s26 s4 => ep_stps (blk e s26 s4)
          refine s_setLP (K := K) (j := kk) (dd := Blk.d ⟨s1 :: s0 :: rest, fin⟩) (e24 _ _ hl23) (ep_tup (ds := [.tuple ([s1.d, s0.d] ++ (rest.map Stp.d)), fin.d]) (eps_cons (ep_cat (ep_tup (eps_cons (ep_ixT (i := 1) (sp e24 rfl rfl) ev_c rfl) (eps_cons (ep_ixT (i := 0) (sp e24 rfl rfl) ev_c rfl) eps_nil)) (by simp)) (ep_slT (k := 2) (sp e24 rfl rfl)) (by simp at bk3 ⊢; omega)) (eps_cons (ep_fin (blk e24 rfl rfl)) eps_nil)) (by simp)) (fun _ _ => ev_var rfl) (fun _ _ => ev_var rfl) (by rw [pl23.length, List.length_map]; exact hkk) fun v H25 e25 pv => ?_
          refine ⟨vsb.set kk v, g.set kk ⟨s1 :: s0 :: rest, fin⟩, rfl, upd_same, ?_, by rw [List.length_set], ?_, ?_, Ex.mut (e23.trans (e24.trans e25)) hlb⟩
          · rw [List.map_set]
            exact (PVs.set pv kk (pl23.ex (e24.trans e25))).tx (Tx.updL ((e24.trans e25) _ _ hl23))
          · refine ⟨by rw [List.length_set]; exact gg.len, fun b hb2 => ?_, fun b hb2 j hj => ?_⟩
            · rcases List.mem_or_eq_of_mem_set hb2 with z | z
              · exact gg.st b z
              · rw [z]
                have := gg.st _ hbm
                simpa using this
            · rw [List.length_set]
              rcases List.mem_or_eq_of_mem_set hb2 with z | z
              · exact gg.gl b z j hj
              · rw [z] at hj
                exact gg.gl _ hbm j hj
          · intro b hb2 s hs
            rcases List.mem_or_eq_of_mem_set hb2 with z | z
            · exact lg.nc b z s hs
            · rw [z] at hs
              refine lg.nc _ hbm s ?_
              simp only [List.mem_cons] at hs ⊢
              rcases hs with z | z | z
              · exact .inr (.inl z)
              · exact .inl z
              · exact .inr (.inr z)
        · rintro σ' H24 ⟨vs24, g', rfl, hl24, pl24, hgl, gg', nc', x24⟩
          have p25_24 := p25_22.ex x24
          refine q_asgP (K := K) (d := gD [.a, .b] g') (ep_tup (ds := [.tuple [Nm.a.d, Nm.b.d], blksD g']) (eps_cons (ep_ixT (i := 0) (ds := [.tuple [Nm.a.d, Nm.b.d], blksD g]) (ep_var rfl p25_24) ev_c rfl) (eps_cons (ep_tupleS (ev_var rfl) hl24 pl24) eps_nil)) (by simp)) fun v27 H25 e25 p27 => ?_
          have p25_25 := p25_24.ex e25
          refine q_same (K := K) (ep_var rfl p25_25) (ep_var rfl p27) (ep_var rfl p25_25) gg gg' (by simp) (by simp) fun outs H26 So e26 => ?_
          have p25_26 := p25_25.ex e26
          have p27_26 := p27.ex e26
          have a1926 : Exl d H19 H26 := ((exl_of x20).trans (a21.trans a22)).trans (exl_of (x24.trans (e25.trans e26)))
          have mg1 : ∀ {gr : Gr}, GGood gr → 0 < gr.length → noCalls gr → MG [("main", gD [.a, .b] gr)] "main" [.a, .b] gr := fun h1 h2 h3 => ⟨rfl, by simp, by decide, h1, h2, .inl h3⟩
          refine q_when (b := sameG ltT [.a, .b] [.a, .b] g g' outs && !true) (et_and (et_B (ev_var rfl)) fun hsame => et_not (et_B (ev_alike (K := K) (fu := 40) (em_mod (mods := [("main", gD [.a, .b] g)]) (eps_cons (ep_tup (eps_cons ep_str (eps_cons (ep_var rfl p25_26) eps_nil)) (by simp)) eps_nil) (by simp)) (em_mod (mods := [("main", gD [.a, .b] g')]) (eps_cons (ep_tup (eps_cons ep_str (eps_cons (ep_var rfl p27_26) eps_nil)) (by simp)) eps_nil) (by simp)) (ev_var rfl) (ev_var (v := .ref rl) rfl) ev_c hw (mg1 gg lg.pos lg.nc) (mg1 gg' (by rw [hgl]; exact lg.pos) nc') (a1926 _ _ hl19 hrd) (pl19.tx (D19.tx a1926)) (fun ws hws => ⟨(hrows ws hws).1.symm, (hrows ws hws).1.symm, (hrows ws hws).2, graph_alike So hsame 40 ws⟩) (by decide)))) (fun e => by rw [Bool.not_true, Bool.and_false] at e; cases e) (fun _ H27 e27 => ?_)
          have p25_27 := p25_26.ex e27
          refine s_ret (v := .bl true) (ev_is (ev_andV (a := true) (b := true) (ev_is (ev_op (ev_same (K := K) (b := true) (ep_var rfl p25_27) (ep_var rfl p25_27) (ep_var rfl p25_27) gg gg (by simp) (by simp) fun o S => sameG_refl S.len) ev_c (fun H1 e Q q => ⟨_, _, rfl, rfl, q H1 (Ex.refl H1)⟩)) (congrArg V.bl (decide_eq_true rfl))) fun _ =>
            ev_is (ev_op (ev_same (K := K) (b := false) (ps' := [.a]) (g' := g) (ep_var rfl p25_27) (ep_tup (ds := [.tuple [Nm.a.d], blksD g]) (eps_cons (ep_tup (eps_cons ep_str eps_nil) (by simp)) (eps_cons (ep_ixT (i := 1) (ds := [.tuple [Nm.a.d, Nm.b.d], blksD g]) (ep_var rfl p25_27) ev_c rfl) eps_nil)) (by simp)) (ep_var rfl p25_27) gg gg (by simp) (by simp) fun o S => sameG_params (by decide)) ev_c (fun H1 e Q q => ⟨_, _, rfl, rfl, q H1 (Ex.refl H1)⟩)) (congrArg V.bl (decide_eq_true rfl))) rfl) fun H28 _ => q H28
end
end K36

namespace K36
open PySem PySem.Spec PyProof.Rows L2 Evl Pd Gd Dk
theorem all_mk {l : PySem.W.OpenLaw} {w : World} {K : PySem.W.Frag} {h : Heap} {mg : Str → Option Value} {fa C dL dN tTC tTW tTH tTK : Addr} {fcm fwr frs fgo frn fro ftm fsr fsb fiv far fbf fab fwp fsv flo fln fam fwb fhp flb flt flp flx fly flz flq fls flg flw flr flh fli flj flk fll flm flu flaw fmi fmt fmr : Addr} (X : K.In h) (G : h.Ns mainGlobals mg) (hfa : mg "law" = some (.ref fa))
    {odcm ancm odwr anwr odrs anrs odgo ango odrn anrn odro anro odtm antm odsr ansr odsb ansb odiv aniv odar anar odbf anbf odab anab odwp anwp odsv ansv odlo anlo odln anln odam anam odwb anwb odhp anhp odlb anlb odlt anlt odlp anlp odlx anlx odly anly odlz anlz odlq anlq odls anls odlg anlg odlw anlw odlr anlr odlh anlh odli anli odlj anlj odlk anlk odll anll odlm anlm odlu anlu odlaw anlaw odmi anmi odmt anmt odmr anmr : Option Addr} {slcm slwr slrs slgo slrn slro sltm slsr slsb sliv slar slbf slab slwp slsv sllo slln slam slwb slhp sllb sllt sllp sllx slly sllz sllq slls sllg sllw sllr sllh slli sllj sllk slll sllm sllu sllaw slmi slmt slmr : Array (Option Value)} {occm kVcm dccm pmcm cdcm ctcm ocwr kVwr dcwr pmwr cdwr ctwr ocrs kVrs dcrs pmrs cdrs ctrs ocgo kVgo dcgo pmgo cdgo ctgo ocrn kVrn dcrn pmrn cdrn ctrn ocro kVro dcro pmro cdro ctro octm kVtm dctm pmtm cdtm cttm ocsr kVsr dcsr pmsr cdsr ctsr ocsb kVsb dcsb pmsb cdsb ctsb ociv kViv dciv pmiv cdiv ctiv ocar kVar dcar pmar cdar ctar ocbf kVbf dcbf pmbf cdbf ctbf ocab kVab dcab pmab cdab ctab ocwp kVwp dcwp pmwp cdwp ctwp ocsv kVsv dcsv pmsv cdsv ctsv oclo kVlo dclo pmlo cdlo ctlo ocln kVln dcln pmln cdln ctln ocam kVam dcam pmam cdam ctam ocwb kVwb dcwb pmwb cdwb ctwb ochp kVhp dchp pmhp cdhp cthp oclb kVlb dclb pmlb cdlb ctlb oclt kVlt dclt pmlt cdlt ctlt oclp kVlp dclp pmlp cdlp ctlp oclx kVlx dclx pmlx cdlx ctlx ocly kVly dcly pmly cdly ctly oclz kVlz dclz pmlz cdlz ctlz oclq kVlq dclq pmlq cdlq ctlq ocls kVls dcls pmls cdls ctls oclg kVlg dclg pmlg cdlg ctlg oclw kVlw dclw pmlw cdlw ctlw oclr kVlr dclr pmlr cdlr ctlr oclh kVlh dclh pmlh cdlh ctlh ocli kVli dcli pmli cdli ctli oclj kVlj dclj pmlj cdlj ctlj oclk kVlk dclk pmlk cdlk ctlk ocll kVll dcll pmll cdll ctll oclm kVlm dclm pmlm cdlm ctlm oclu kVlu dclu pmlu cdlu ctlu oclaw kVlaw dclaw pmlaw cdlaw ctlaw ocmi kVmi dcmi pmmi cdmi ctmi ocmt kVmt dcmt pmmt cdmt ctmt ocmr kVmr dcmr pmmr cdmr ctmr : Value}
    {esL esN : Array DictEntry} {ndL ndN nnTC nnTW nnTH nnTK : Nat} {tmul tdiv tPH tcopy tload tstore tcall uTC0 uTC1 uTC2 uTC3 uTC4 uTC5 uTW0 uTW1 uTW2 uTW3 uTW4 uTH0 uTH1 uTK0 uTK1 uTK2 : Tok} {otTC otTW otTH otTK : Option Addr} {slTC slTW slTH slTK : Array (Option Value)}
    (acm : PySem.W.nsIn K mainGlobals "commutes" = some (some (.ref fcm)))
    (lcm : K.lookup fcm = some ⟨occm, odcm, .func (PySem.W.fnOf "commutes" "commutes" (defArgs sCommutes) (defBody sCommutes) (defScope sCommutes) .none kVcm dccm pmcm ancm cdcm ctcm), slcm⟩)
    (ccm : PySem.W.codeIn K cdcm "commutes" = true)
    (kcm : PySem.W.keepIn K (.ref fcm) = true)
    (awr : PySem.W.nsIn K mainGlobals "writes_of" = some (some (.ref fwr)))
    (lwr : K.lookup fwr = some ⟨ocwr, odwr, .func (PySem.W.fnOf "writes_of" "writes_of" (defArgs sWritesOf) (defBody sWritesOf) (defScope sWritesOf) .none kVwr dcwr pmwr anwr cdwr ctwr), slwr⟩)
    (cwr : PySem.W.codeIn K cdwr "writes_of" = true)
    (kwr : PySem.W.keepIn K (.ref fwr) = true)
    (ars : PySem.W.nsIn K mainGlobals "reads_of" = some (some (.ref frs)))
    (lrs : K.lookup frs = some ⟨ocrs, odrs, .func (PySem.W.fnOf "reads_of" "reads_of" (defArgs sReadsOf) (defBody sReadsOf) (defScope sReadsOf) .none kVrs dcrs pmrs anrs cdrs ctrs), slrs⟩)
    (crs : PySem.W.codeIn K cdrs "reads_of" = true)
    (krs : PySem.W.keepIn K (.ref frs) = true)
    (ago : PySem.W.nsIn K mainGlobals "goals_of" = some (some (.ref fgo)))
    (lgo : K.lookup fgo = some ⟨ocgo, odgo, .func (PySem.W.fnOf "goals_of" "goals_of" (defArgs sGoalsOf) (defBody sGoalsOf) (defScope sGoalsOf) .none kVgo dcgo pmgo ango cdgo ctgo), slgo⟩)
    (cgo : PySem.W.codeIn K cdgo "goals_of" = true)
    (kgo : PySem.W.keepIn K (.ref fgo) = true)
    (arn : PySem.W.nsIn K mainGlobals "reads_of_end" = some (some (.ref frn)))
    (lrn : K.lookup frn = some ⟨ocrn, odrn, .func (PySem.W.fnOf "reads_of_end" "reads_of_end" (defArgs sReadsEnd) (defBody sReadsEnd) (defScope sReadsEnd) .none kVrn dcrn pmrn anrn cdrn ctrn), slrn⟩)
    (crn : PySem.W.codeIn K cdrn "reads_of_end" = true)
    (krn : PySem.W.keepIn K (.ref frn) = true)
    (aro : PySem.W.nsIn K mainGlobals "reader_of" = some (some (.ref fro)))
    (lro : K.lookup fro = some ⟨ocro, odro, .func (PySem.W.fnOf "reader_of" "reader_of" (defArgs sReaderOf) (defBody sReaderOf) (defScope sReaderOf) .none kVro dcro pmro anro cdro ctro), slro⟩)
    (cro : PySem.W.codeIn K cdro "reader_of" = true)
    (kro : PySem.W.keepIn K (.ref fro) = true)
    (atm : PySem.W.nsIn K mainGlobals "terms_of" = some (some (.ref ftm)))
    (ltm : K.lookup ftm = some ⟨octm, odtm, .func (PySem.W.fnOf "terms_of" "terms_of" (defArgs sTermsOf) (defBody sTermsOf) (defScope sTermsOf) .none kVtm dctm pmtm antm cdtm cttm), sltm⟩)
    (ctm : PySem.W.codeIn K cdtm "terms_of" = true)
    (ktm : PySem.W.keepIn K (.ref ftm) = true)
    (asr : PySem.W.nsIn K mainGlobals "same_rows" = some (some (.ref fsr)))
    (lsr : K.lookup fsr = some ⟨ocsr, odsr, .func (PySem.W.fnOf "same_rows" "same_rows" (defArgs sSameRows) (defBody sSameRows) (defScope sSameRows) .none kVsr dcsr pmsr ansr cdsr ctsr), slsr⟩)
    (csr : PySem.W.codeIn K cdsr "same_rows" = true)
    (ksr : PySem.W.keepIn K (.ref fsr) = true)
    (asb : PySem.W.nsIn K mainGlobals "same_blocks" = some (some (.ref fsb)))
    (lsb : K.lookup fsb = some ⟨ocsb, odsb, .func (PySem.W.fnOf "same_blocks" "same_blocks" (defArgs sSameBlocks) (defBody sSameBlocks) (defScope sSameBlocks) .none kVsb dcsb pmsb ansb cdsb ctsb), slsb⟩)
    (csb : PySem.W.codeIn K cdsb "same_blocks" = true)
    (ksb : PySem.W.keepIn K (.ref fsb) = true)
    (aiv : PySem.W.nsIn K mainGlobals "is_value" = some (some (.ref fiv)))
    (liv : K.lookup fiv = some ⟨ociv, odiv, .func (PySem.W.fnOf "is_value" "is_value" (defArgs sIsValue) (defBody sIsValue) (defScope sIsValue) .none kViv dciv pmiv aniv cdiv ctiv), sliv⟩)
    (civ : PySem.W.codeIn K cdiv "is_value" = true)
    (kiv : PySem.W.keepIn K (.ref fiv) = true)
    (aar : PySem.W.nsIn K mainGlobals "arms_from" = some (some (.ref far)))
    (lar : K.lookup far = some ⟨ocar, odar, .func (PySem.W.fnOf "arms_from" "arms_from" (defArgs sArms) (defBody sArms) (defScope sArms) .none kVar dcar pmar anar cdar ctar), slar⟩)
    (car : PySem.W.codeIn K cdar "arms_from" = true)
    (kar : PySem.W.keepIn K (.ref far) = true)
    (abf : PySem.W.nsIn K mainGlobals "before" = some (some (.ref fbf)))
    (lbf : K.lookup fbf = some ⟨ocbf, odbf, .func (PySem.W.fnOf "before" "before" (defArgs sBefore) (defBody sBefore) (defScope sBefore) .none kVbf dcbf pmbf anbf cdbf ctbf), slbf⟩)
    (cbf : PySem.W.codeIn K cdbf "before" = true)
    (kbf : PySem.W.keepIn K (.ref fbf) = true)
    (aab : PySem.W.nsIn K mainGlobals "at_begin" = some (some (.ref fab)))
    (lab : K.lookup fab = some ⟨ocab, odab, .func (PySem.W.fnOf "at_begin" "at_begin" (defArgs sAtBegin) (defBody sAtBegin) (defScope sAtBegin) .none kVab dcab pmab anab cdab ctab), slab⟩)
    (cab : PySem.W.codeIn K cdab "at_begin" = true)
    (kab : PySem.W.keepIn K (.ref fab) = true)
    (awp : PySem.W.nsIn K mainGlobals "without_phis" = some (some (.ref fwp)))
    (lwp : K.lookup fwp = some ⟨ocwp, odwp, .func (PySem.W.fnOf "without_phis" "without_phis" (defArgs sWithout) (defBody sWithout) (defScope sWithout) .none kVwp dcwp pmwp anwp cdwp ctwp), slwp⟩)
    (cwp : PySem.W.codeIn K cdwp "without_phis" = true)
    (kwp : PySem.W.keepIn K (.ref fwp) = true)
    (asv : PySem.W.nsIn K mainGlobals "solved" = some (some (.ref fsv)))
    (lsv : K.lookup fsv = some ⟨ocsv, odsv, .func (PySem.W.fnOf "solved" "solved" (defArgs sSolved) (defBody sSolved) (defScope sSolved) .none kVsv dcsv pmsv ansv cdsv ctsv), slsv⟩)
    (csv : PySem.W.codeIn K cdsv "solved" = true)
    (ksv : PySem.W.keepIn K (.ref fsv) = true)
    (alo : PySem.W.nsIn K mainGlobals "lives_out" = some (some (.ref flo)))
    (llo : K.lookup flo = some ⟨oclo, odlo, .func (PySem.W.fnOf "lives_out" "lives_out" (defArgs sLivesOut) (defBody sLivesOut) (defScope sLivesOut) .none kVlo dclo pmlo anlo cdlo ctlo), sllo⟩)
    (clo : PySem.W.codeIn K cdlo "lives_out" = true)
    (klo : PySem.W.keepIn K (.ref flo) = true)
    (aln : PySem.W.nsIn K mainGlobals "length_of" = some (some (.ref fln)))
    (lln : K.lookup fln = some ⟨ocln, odln, .func (PySem.W.fnOf "length_of" "length_of" (defArgs sLengthOf) (defBody sLengthOf) (defScope sLengthOf) .none kVln dcln pmln anln cdln ctln), slln⟩)
    (cln : PySem.W.codeIn K cdln "length_of" = true)
    (kln : PySem.W.keepIn K (.ref fln) = true)
    (aam : PySem.W.nsIn K mainGlobals "acts_meet" = some (some (.ref fam)))
    (lam : K.lookup fam = some ⟨ocam, odam, .func (PySem.W.fnOf "acts_meet" "acts_meet" (defArgs sActsMeet) (defBody sActsMeet) (defScope sActsMeet) .none kVam dcam pmam anam cdam ctam), slam⟩)
    (cam : PySem.W.codeIn K cdam "acts_meet" = true)
    (kam : PySem.W.keepIn K (.ref fam) = true)
    (awb : PySem.W.nsIn K mainGlobals "wait_between" = some (some (.ref fwb)))
    (lwb : K.lookup fwb = some ⟨ocwb, odwb, .func (PySem.W.fnOf "wait_between" "wait_between" (defArgs sWaitBetween) (defBody sWaitBetween) (defScope sWaitBetween) .none kVwb dcwb pmwb anwb cdwb ctwb), slwb⟩)
    (cwb : PySem.W.codeIn K cdwb "wait_between" = true)
    (kwb : PySem.W.keepIn K (.ref fwb) = true)
    (ahp : PySem.W.nsIn K mainGlobals "hang_pairs" = some (some (.ref fhp)))
    (lhp : K.lookup fhp = some ⟨ochp, odhp, .func (PySem.W.fnOf "hang_pairs" "hang_pairs" (defArgs sHang) (defBody sHang) (defScope sHang) .none kVhp dchp pmhp anhp cdhp cthp), slhp⟩)
    (chp : PySem.W.codeIn K cdhp "hang_pairs" = true)
    (khp : PySem.W.keepIn K (.ref fhp) = true)
    (alb : PySem.W.nsIn K mainGlobals "_law_begin" = some (some (.ref flb)))
    (llb : K.lookup flb = some ⟨oclb, odlb, .func (PySem.W.fnOf "_law_begin" "_law_begin" (defArgs sBegin) (defBody sBegin) (defScope sBegin) .none kVlb dclb pmlb anlb cdlb ctlb), sllb⟩)
    (clb : PySem.W.codeIn K cdlb "_law_begin" = true)
    (klb : PySem.W.keepIn K (.ref flb) = true)
    (alt : PySem.W.nsIn K mainGlobals "_law_take" = some (some (.ref flt)))
    (llt : K.lookup flt = some ⟨oclt, odlt, .func (PySem.W.fnOf "_law_take" "_law_take" (defArgs sTake) (defBody sTake) (defScope sTake) .none kVlt dclt pmlt anlt cdlt ctlt), sllt⟩)
    (clt : PySem.W.codeIn K cdlt "_law_take" = true)
    (klt : PySem.W.keepIn K (.ref flt) = true)
    (alp : PySem.W.nsIn K mainGlobals "_law_pick" = some (some (.ref flp)))
    (llp : K.lookup flp = some ⟨oclp, odlp, .func (PySem.W.fnOf "_law_pick" "_law_pick" (defArgs sPick) (defBody sPick) (defScope sPick) .none kVlp dclp pmlp anlp cdlp ctlp), sllp⟩)
    (clp : PySem.W.codeIn K cdlp "_law_pick" = true)
    (klp : PySem.W.keepIn K (.ref flp) = true)
    (alx : PySem.W.nsIn K mainGlobals "_law_ops" = some (some (.ref flx)))
    (llx : K.lookup flx = some ⟨oclx, odlx, .func (PySem.W.fnOf "_law_ops" "_law_ops" (defArgs sLOps) (defBody sLOps) (defScope sLOps) .none kVlx dclx pmlx anlx cdlx ctlx), sllx⟩)
    (clx : PySem.W.codeIn K cdlx "_law_ops" = true)
    (klx : PySem.W.keepIn K (.ref flx) = true)
    (aly : PySem.W.nsIn K mainGlobals "_law_bits" = some (some (.ref fly)))
    (lly : K.lookup fly = some ⟨ocly, odly, .func (PySem.W.fnOf "_law_bits" "_law_bits" (defArgs sBits) (defBody sBits) (defScope sBits) .none kVly dcly pmly anly cdly ctly), slly⟩)
    (cly : PySem.W.codeIn K cdly "_law_bits" = true)
    (kly : PySem.W.keepIn K (.ref fly) = true)
    (alz : PySem.W.nsIn K mainGlobals "_law_op" = some (some (.ref flz)))
    (llz : K.lookup flz = some ⟨oclz, odlz, .func (PySem.W.fnOf "_law_op" "_law_op" (defArgs sLawOp) (defBody sLawOp) (defScope sLawOp) .none kVlz dclz pmlz anlz cdlz ctlz), sllz⟩)
    (clz : PySem.W.codeIn K cdlz "_law_op" = true)
    (klz : PySem.W.keepIn K (.ref flz) = true)
    (alq : PySem.W.nsIn K mainGlobals "_law_operand" = some (some (.ref flq)))
    (llq : K.lookup flq = some ⟨oclq, odlq, .func (PySem.W.fnOf "_law_operand" "_law_operand" (defArgs sLOperand) (defBody sLOperand) (defScope sLOperand) .none kVlq dclq pmlq anlq cdlq ctlq), sllq⟩)
    (clq : PySem.W.codeIn K cdlq "_law_operand" = true)
    (klq : PySem.W.keepIn K (.ref flq) = true)
    (als : PySem.W.nsIn K mainGlobals "_law_step" = some (some (.ref fls)))
    (lls : K.lookup fls = some ⟨ocls, odls, .func (PySem.W.fnOf "_law_step" "_law_step" (defArgs sLStep) (defBody sLStep) (defScope sLStep) .none kVls dcls pmls anls cdls ctls), slls⟩)
    (cls : PySem.W.codeIn K cdls "_law_step" = true)
    (kls : PySem.W.keepIn K (.ref fls) = true)
    (alg : PySem.W.nsIn K mainGlobals "_law_goals" = some (some (.ref flg)))
    (llg : K.lookup flg = some ⟨oclg, odlg, .func (PySem.W.fnOf "_law_goals" "_law_goals" (defArgs sLawGoals) (defBody sLawGoals) (defScope sLawGoals) .none kVlg dclg pmlg anlg cdlg ctlg), sllg⟩)
    (clg : PySem.W.codeIn K cdlg "_law_goals" = true)
    (klg : PySem.W.keepIn K (.ref flg) = true)
    (alw : PySem.W.nsIn K mainGlobals "_law_with_goals" = some (some (.ref flw)))
    (llw : K.lookup flw = some ⟨oclw, odlw, .func (PySem.W.fnOf "_law_with_goals" "_law_with_goals" (defArgs sWithGoals) (defBody sWithGoals) (defScope sWithGoals) .none kVlw dclw pmlw anlw cdlw ctlw), sllw⟩)
    (clw : PySem.W.codeIn K cdlw "_law_with_goals" = true)
    (klw : PySem.W.keepIn K (.ref flw) = true)
    (alr : PySem.W.nsIn K mainGlobals "_law_reach" = some (some (.ref flr)))
    (llr : K.lookup flr = some ⟨oclr, odlr, .func (PySem.W.fnOf "_law_reach" "_law_reach" (defArgs sReach) (defBody sReach) (defScope sReach) .none kVlr dclr pmlr anlr cdlr ctlr), sllr⟩)
    (clr : PySem.W.codeIn K cdlr "_law_reach" = true)
    (klr : PySem.W.keepIn K (.ref flr) = true)
    (alh : PySem.W.nsIn K mainGlobals "_law_graph" = some (some (.ref flh)))
    (llh : K.lookup flh = some ⟨oclh, odlh, .func (PySem.W.fnOf "_law_graph" "_law_graph" (defArgs sLGraph) (defBody sLGraph) (defScope sLGraph) .none kVlh dclh pmlh anlh cdlh ctlh), sllh⟩)
    (clh : PySem.W.codeIn K cdlh "_law_graph" = true)
    (klh : PySem.W.keepIn K (.ref flh) = true)
    (ali : PySem.W.nsIn K mainGlobals "_law_read" = some (some (.ref fli)))
    (lli : K.lookup fli = some ⟨ocli, odli, .func (PySem.W.fnOf "_law_read" "_law_read" (defArgs sLRead) (defBody sLRead) (defScope sLRead) .none kVli dcli pmli anli cdli ctli), slli⟩)
    (cli : PySem.W.codeIn K cdli "_law_read" = true)
    (kli : PySem.W.keepIn K (.ref fli) = true)
    (alj : PySem.W.nsIn K mainGlobals "_law_go" = some (some (.ref flj)))
    (llj : K.lookup flj = some ⟨oclj, odlj, .func (PySem.W.fnOf "_law_go" "_law_go" (defArgs sLGo) (defBody sLGo) (defScope sLGo) .none kVlj dclj pmlj anlj cdlj ctlj), sllj⟩)
    (clj : PySem.W.codeIn K cdlj "_law_go" = true)
    (klj : PySem.W.keepIn K (.ref flj) = true)
    (alk : PySem.W.nsIn K mainGlobals "_law_result" = some (some (.ref flk)))
    (llk : K.lookup flk = some ⟨oclk, odlk, .func (PySem.W.fnOf "_law_result" "_law_result" (defArgs sLResult) (defBody sLResult) (defScope sLResult) .none kVlk dclk pmlk anlk cdlk ctlk), sllk⟩)
    (clk : PySem.W.codeIn K cdlk "_law_result" = true)
    (klk : PySem.W.keepIn K (.ref flk) = true)
    (all : PySem.W.nsIn K mainGlobals "_law_alike" = some (some (.ref fll)))
    (lll : K.lookup fll = some ⟨ocll, odll, .func (PySem.W.fnOf "_law_alike" "_law_alike" (defArgs sLAlike) (defBody sLAlike) (defScope sLAlike) .none kVll dcll pmll anll cdll ctll), slll⟩)
    (cll : PySem.W.codeIn K cdll "_law_alike" = true)
    (kll : PySem.W.keepIn K (.ref fll) = true)
    (alm : PySem.W.nsIn K mainGlobals "_law_rows" = some (some (.ref flm)))
    (llm : K.lookup flm = some ⟨oclm, odlm, .func (PySem.W.fnOf "_law_rows" "_law_rows" (defArgs sLRows) (defBody sLRows) (defScope sLRows) .none kVlm dclm pmlm anlm cdlm ctlm), sllm⟩)
    (clm : PySem.W.codeIn K cdlm "_law_rows" = true)
    (klm : PySem.W.keepIn K (.ref flm) = true)
    (alu : PySem.W.nsIn K mainGlobals "_law_terms" = some (some (.ref flu)))
    (llu : K.lookup flu = some ⟨oclu, odlu, .func (PySem.W.fnOf "_law_terms" "_law_terms" (defArgs sLTerms) (defBody sLTerms) (defScope sLTerms) .none kVlu dclu pmlu anlu cdlu ctlu), sllu⟩)
    (clu : PySem.W.codeIn K cdlu "_law_terms" = true)
    (klu : PySem.W.keepIn K (.ref flu) = true)
    (alaw : PySem.W.nsIn K mainGlobals "law" = some (some (.ref flaw)))
    (llaw : K.lookup flaw = some ⟨oclaw, odlaw, .func (PySem.W.fnOf "law" "law" (defArgs sLaw) (defBody sLaw) (defScope sLaw) .none kVlaw dclaw pmlaw anlaw cdlaw ctlaw), sllaw⟩)
    (claw : PySem.W.codeIn K cdlaw "law" = true)
    (klaw : PySem.W.keepIn K (.ref flaw) = true)
    (aCls : PySem.W.nsIn K mainGlobals "Reader" = some (some (.ref C)))
    (ami : PySem.W.findIn K (.ref C) "__init__" = some (some (.ref fmi)))
    (imi : PySem.W.isFn K (.ref fmi) = true)
    (lmi : K.lookup fmi = some ⟨ocmi, odmi, .func (PySem.W.fnOf "__init__" "Reader.__init__" (defArgs sRInit) (defBody sRInit) (defScope sRInit) .none kVmi dcmi pmmi anmi cdmi ctmi), slmi⟩)
    (cmi : PySem.W.codeIn K cdmi "Reader.__init__" = true)
    (kmi : PySem.W.keepIn K (.ref fmi) = true)
    (amt : PySem.W.findIn K (.ref C) "term" = some (some (.ref fmt)))
    (imt : PySem.W.isFn K (.ref fmt) = true)
    (lmt : K.lookup fmt = some ⟨ocmt, odmt, .func (PySem.W.fnOf "term" "Reader.term" (defArgs sRTerm) (defBody sRTerm) (defScope sRTerm) .none kVmt dcmt pmmt anmt cdmt ctmt), slmt⟩)
    (cmt : PySem.W.codeIn K cdmt "Reader.term" = true)
    (kmt : PySem.W.keepIn K (.ref fmt) = true)
    (amr : PySem.W.findIn K (.ref C) "read" = some (some (.ref fmr)))
    (imr : PySem.W.isFn K (.ref fmr) = true)
    (lmr : K.lookup fmr = some ⟨ocmr, odmr, .func (PySem.W.fnOf "read" "Reader.read" (defArgs sRRead) (defBody sRRead) (defScope sRRead) .none kVmr dcmr pmmr anmr cdmr ctmr), slmr⟩)
    (cmr : PySem.W.codeIn K cdmr "Reader.read" = true)
    (kmr : PySem.W.keepIn K (.ref fmr) = true)
    (pgC : PySem.W.plainGet K C Str.empty = true)
    (hdC : PySem.W.hasDictIn K C = true)
    (poC : PySem.W.plainOver K C = true)
    (saC : PySem.W.findIn K (.ref C) "__setattr__" = some (some (.builtin "object.__setattr__")))
    (mkC : PySem.W.makesIn K C = true)
    (kcC : PySem.W.keepIn K (.ref C) = true)
    (n0 : PySem.W.findIn K (.ref C) "terms" = some none)
    (n1 : PySem.W.findIn K (.ref C) "acts" = some none)
    (zint : PySem.W.nsIn K mainGlobals "int" = some none)
    (zlist : PySem.W.nsIn K mainGlobals "list" = some none)
    (zlen : PySem.W.nsIn K mainGlobals "len" = some none)
    (zabs : PySem.W.nsIn K mainGlobals "abs" = some none)
    (ztuple : PySem.W.nsIn K mainGlobals "tuple" = some none)
    (zrange : PySem.W.nsIn K mainGlobals "range" = some none)
    (zstr : PySem.W.nsIn K mainGlobals "str" = some none)
    (zisinstance : PySem.W.nsIn K mainGlobals "isinstance" = some none)
    (zmax : PySem.W.nsIn K mainGlobals "max" = some none)
    (zmin : PySem.W.nsIn K mainGlobals "min" = some none)
    (zall : PySem.W.nsIn K mainGlobals "all" = some none)
    (zany : PySem.W.nsIn K mainGlobals "any" = some none)
    (zenumerate : PySem.W.nsIn K mainGlobals "enumerate" = some none)
    (zdict : PySem.W.nsIn K mainGlobals "dict" = some none)
    (zsorted : PySem.W.nsIn K mainGlobals "sorted" = some none)
    (zzip : PySem.W.nsIn K mainGlobals "zip" = some none)
    (aTC : PySem.W.nsIn K mainGlobals "COMMUTING" = some (some (.ref tTC)))
    (lTC : K.lookup tTC = some ⟨.type "tuple", otTC, .seq #[.str "add" uTC0, .str "mul" uTC1, .str "and" uTC2, .str "or" uTC3, .str "xor" uTC4, .str "eq" uTC5] nnTC, slTC⟩)
    (aTW : PySem.W.nsIn K mainGlobals "WRITING" = some (some (.ref tTW)))
    (lTW : K.lookup tTW = some ⟨.type "tuple", otTW, .seq #[.str "op" uTW0, .str "copy" uTW1, .str "load" uTW2, .str "call" uTW3, .str "phi" uTW4] nnTW, slTW⟩)
    (aTH : PySem.W.nsIn K mainGlobals "CHANGING" = some (some (.ref tTH)))
    (lTH : K.lookup tTH = some ⟨.type "tuple", otTH, .seq #[.str "store" uTH0, .str "call" uTH1] nnTH, slTH⟩)
    (aTK : PySem.W.nsIn K mainGlobals "ASKING" = some (some (.ref tTK)))
    (lTK : K.lookup tTK = some ⟨.type "tuple", otTK, .seq #[.str "load" uTK0, .str "store" uTK1, .str "call" uTK2] nnTK, slTK⟩)
    (aPH : PySem.W.nsIn K mainGlobals "PHI" = some (some (.str "phi" tPH)))
    (aDL : PySem.W.nsIn K mainGlobals "LENGTHS" = some (some (.ref dL)))
    (lDL : K.lookup dL = some ⟨.type "dict", none, .dict esL ndL, #[]⟩)
    (kDL : PySem.W.KeysLit w.params esL.toList)
    (oDL : (dL == sysModules) = false)
    (aDN : PySem.W.nsIn K mainGlobals "KINDS" = some (some (.ref dN)))
    (lDN : K.lookup dN = some ⟨.type "dict", none, .dict esN ndN, #[]⟩)
    (kDN : PySem.W.KeysLit w.params esN.toList)
    (oDN : (dN == sysModules) = false)
    (no_add : PySem.W.nsIn K dL "add" = some none)
    (no_sub : PySem.W.nsIn K dL "sub" = some none)
    (is_mul : PySem.W.nsIn K dL "mul" = some (some (.int 2 tmul)))
    (is_div : PySem.W.nsIn K dL "div" = some (some (.int 4 tdiv)))
    (no_and : PySem.W.nsIn K dL "and" = some none)
    (no_or : PySem.W.nsIn K dL "or" = some none)
    (no_xor : PySem.W.nsIn K dL "xor" = some none)
    (no_shl : PySem.W.nsIn K dL "shl" = some none)
    (no_shr : PySem.W.nsIn K dL "shr" = some none)
    (no_lt : PySem.W.nsIn K dL "lt" = some none)
    (no_slt : PySem.W.nsIn K dL "slt" = some none)
    (no_eq : PySem.W.nsIn K dL "eq" = some none)
    (is_copy : PySem.W.nsIn K dN "copy" = some (some (.int 1 tcopy)))
    (is_load : PySem.W.nsIn K dN "load" = some (some (.int 3 tload)))
    (is_store : PySem.W.nsIn K dN "store" = some (some (.int 1 tstore)))
    (is_call : PySem.W.nsIn K dN "call" = some (some (.int 4 tcall)))
    : ∃ fd : FuncData, (∀ (s : Shared) (v : Value), BindsTo s fd ⟨[v], []⟩ [("script", v)]) ∧ ∀ base : Heap, K.In base → base.Ns mainGlobals mg → FnG l.prog w K mg base 7 fa fd ["script"] (spLaw K) := by
  have e := hfa.symm.trans (PySem.W.mg_of X G alaw)
  cases e
  have Fcm := fun_mk (st := sCommutes) lcm ccm kcm
  have bcm := Fcm.binds (ps := ["op"]) fun _ _ _ _ _ _ us hl => match us, hl with | [_], _ => rfl
  have Fwr := fun_mk (st := sWritesOf) lwr cwr kwr
  have bwr := Fwr.binds (ps := ["step"]) fun _ _ _ _ _ _ us hl => match us, hl with | [_], _ => rfl
  have Frs := fun_mk (st := sReadsOf) lrs crs krs
  have brs := Frs.binds (ps := ["step"]) fun _ _ _ _ _ _ us hl => match us, hl with | [_], _ => rfl
  have Fgo := fun_mk (st := sGoalsOf) lgo cgo kgo
  have bgo := Fgo.binds (ps := ["end"]) fun _ _ _ _ _ _ us hl => match us, hl with | [_], _ => rfl
  have Frn := fun_mk (st := sReadsEnd) lrn crn krn
  have brn := Frn.binds (ps := ["end"]) fun _ _ _ _ _ _ us hl => match us, hl with | [_], _ => rfl
  have Fro := fun_mk (st := sReaderOf) lro cro kro
  have bro := Fro.binds (ps := ["steps"]) fun _ _ _ _ _ _ us hl => match us, hl with | [_], _ => rfl
  have Ftm := fun_mk (st := sTermsOf) ltm ctm ktm
  have btm := Ftm.binds (ps := ["steps"]) fun _ _ _ _ _ _ us hl => match us, hl with | [_], _ => rfl
  have Fsr := fun_mk (st := sSameRows) lsr csr ksr
  have bsr := Fsr.binds (ps := ["one", "other", "alive"]) fun _ _ _ _ _ _ us hl => match us, hl with | [_, _, _], _ => rfl
  have Fsb := fun_mk (st := sSameBlocks) lsb csb ksb
  have bsb := Fsb.binds (ps := ["one", "other", "alive"]) fun _ _ _ _ _ _ us hl => match us, hl with | [_, _, _], _ => rfl
  have Fiv := fun_mk (st := sIsValue) liv civ kiv
  have biv := Fiv.binds (ps := ["operand"]) fun _ _ _ _ _ _ us hl => match us, hl with | [_], _ => rfl
  have Far := fun_mk (st := sArms) lar car kar
  have bar := Far.binds (ps := ["graph", "number"]) fun _ _ _ _ _ _ us hl => match us, hl with | [_, _], _ => rfl
  have Fbf := fun_mk (st := sBefore) lbf cbf kbf
  have bbf := Fbf.binds (ps := ["step", "alive"]) fun _ _ _ _ _ _ us hl => match us, hl with | [_, _], _ => rfl
  have Fab := fun_mk (st := sAtBegin) lab cab kab
  have bab := Fab.binds (ps := ["graph", "number", "alive"]) fun _ _ _ _ _ _ us hl => match us, hl with | [_, _, _], _ => rfl
  have Fwp := fun_mk (st := sWithout) lwp cwp kwp
  have bwp := Fwp.binds (ps := ["graph", "number", "alive"]) fun _ _ _ _ _ _ us hl => match us, hl with | [_, _, _], _ => rfl
  have Fsv := fun_mk (st := sSolved) lsv csv ksv
  have bsv := Fsv.binds (ps := ["graph"]) fun _ _ _ _ _ _ us hl => match us, hl with | [_], _ => rfl
  have Flo := fun_mk (st := sLivesOut) llo clo klo
  have blo := Flo.binds (ps := ["graph"]) fun _ _ _ _ _ _ us hl => match us, hl with | [_], _ => rfl
  have Fln := fun_mk (st := sLengthOf) lln cln kln
  have bln := Fln.binds (ps := ["step"]) fun _ _ _ _ _ _ us hl => match us, hl with | [_], _ => rfl
  have Fam := fun_mk (st := sActsMeet) lam cam kam
  have bam := Fam.binds (ps := ["ahead", "behind"]) fun _ _ _ _ _ _ us hl => match us, hl with | [_, _], _ => rfl
  have Fwb := fun_mk (st := sWaitBetween) lwb cwb kwb
  have bwb := Fwb.binds (ps := ["ahead", "behind"]) fun _ _ _ _ _ _ us hl => match us, hl with | [_, _], _ => rfl
  have Fhp := fun_mk (st := sHang) lhp chp khp
  have bhp := Fhp.binds (ps := ["steps"]) fun _ _ _ _ _ _ us hl => match us, hl with | [_], _ => rfl
  have Flb := fun_mk (st := sBegin) llb clb klb
  have blb := Flb.binds (ps := ["script"]) fun _ _ _ _ _ _ us hl => match us, hl with | [_], _ => rfl
  have Flt := fun_mk (st := sTake) llt clt klt
  have blt := Flt.binds (ps := ["d", "many"]) fun _ _ _ _ _ _ us hl => match us, hl with | [_, _], _ => rfl
  have Flp := fun_mk (st := sPick) llp clp klp
  have blp := Flp.binds (ps := ["d", "menu"]) fun _ _ _ _ _ _ us hl => match us, hl with | [_, _], _ => rfl
  have Flx := fun_mk (st := sLOps) llx clx klx
  have blx := Flx.binds (ps := []) fun _ _ _ _ _ _ us hl => match us, hl with | [], _ => rfl
  have Fly := fun_mk (st := sBits) lly cly kly
  have bly := Fly.binds (ps := ["a", "b", "op"]) fun _ _ _ _ _ _ us hl => match us, hl with | [_, _, _], _ => rfl
  have Flz := fun_mk (st := sLawOp) llz clz klz
  have blz := Flz.binds (ps := ["w", "op", "a", "b"]) fun _ _ _ _ _ _ us hl => match us, hl with | [_, _, _, _], _ => rfl
  have Flq := fun_mk (st := sLOperand) llq clq klq
  have blq := Flq.binds (ps := ["d", "names"]) fun _ _ _ _ _ _ us hl => match us, hl with | [_, _], _ => rfl
  have Fls := fun_mk (st := sLStep) lls cls kls
  have bls := Fls.binds (ps := ["d", "names", "calls"]) fun _ _ _ _ _ _ us hl => match us, hl with | [_, _, _], _ => rfl
  have Flg := fun_mk (st := sLawGoals) llg clg klg
  have blg := Flg.binds (ps := ["end"]) fun _ _ _ _ _ _ us hl => match us, hl with | [_], _ => rfl
  have Flw := fun_mk (st := sWithGoals) llw clw klw
  have blw := Flw.binds (ps := ["end", "numbers"]) fun _ _ _ _ _ _ us hl => match us, hl with | [_, _], _ => rfl
  have Flr := fun_mk (st := sReach) llr clr klr
  have blr := Flr.binds (ps := ["blocks", "shut"]) fun _ _ _ _ _ _ us hl => match us, hl with | [_, _], _ => rfl
  have Flh := fun_mk (st := sLGraph) llh clh klh
  have blh := Flh.binds (ps := ["d", "params", "most", "calls"]) fun _ _ _ _ _ _ us hl => match us, hl with | [_, _, _, _], _ => rfl
  have Fli := fun_mk (st := sLRead) lli cli kli
  have bli := Fli.binds (ps := ["w", "operand", "own"]) fun _ _ _ _ _ _ us hl => match us, hl with | [_, _, _], _ => rfl
  have Flj := fun_mk (st := sLGo) llj clj klj
  have blj := Flj.binds (ps := ["module", "w", "name", "args", "state"]) fun _ _ _ _ _ _ us hl => match us, hl with | [_, _, _, _, _], _ => rfl
  have Flk := fun_mk (st := sLResult) llk clk klk
  have blk := Flk.binds (ps := ["module", "w", "args", "fuel"]) fun _ _ _ _ _ _ us hl => match us, hl with | [_, _, _, _], _ => rfl
  have Fll := fun_mk (st := sLAlike) lll cll kll
  have bll := Fll.binds (ps := ["one", "other", "w", "rows", "fuel"]) fun _ _ _ _ _ _ us hl => match us, hl with | [_, _, _, _, _], _ => rfl
  have Flm := fun_mk (st := sLRows) llm clm klm
  have blm := Flm.binds (ps := ["d", "w", "many"]) fun _ _ _ _ _ _ us hl => match us, hl with | [_, _, _], _ => rfl
  have Flu := fun_mk (st := sLTerms) llu clu klu
  have blu := Flu.binds (ps := ["steps"]) fun _ _ _ _ _ _ us hl => match us, hl with | [_], _ => rfl
  have Flaw := fun_mk (st := sLaw) llaw claw klaw
  have blaw := Flaw.binds (ps := ["script"]) fun _ _ _ _ _ _ us hl => match us, hl with | [_], _ => rfl
  have Fmi := fun_mk (st := sRInit) lmi cmi kmi
  have bmi := Fmi.binds (ps := ["self"]) fun _ _ _ _ _ _ us hl => match us, hl with | [_], _ => rfl
  have Fmt := fun_mk (st := sRTerm) lmt cmt kmt
  have bmt := Fmt.binds (ps := ["self", "operand"]) fun _ _ _ _ _ _ us hl => match us, hl with | [_, _], _ => rfl
  have Fmr := fun_mk (st := sRRead) lmr cmr kmr
  have bmr := Fmr.binds (ps := ["self", "step"]) fun _ _ _ _ _ _ us hl => match us, hl with | [_, _], _ => rfl
  have gcm := PySem.W.mg_of X G acm
  have gwr := PySem.W.mg_of X G awr
  have grs := PySem.W.mg_of X G ars
  have ggo := PySem.W.mg_of X G ago
  have grn := PySem.W.mg_of X G arn
  have gro := PySem.W.mg_of X G aro
  have gtm := PySem.W.mg_of X G atm
  have gsr := PySem.W.mg_of X G asr
  have gsb := PySem.W.mg_of X G asb
  have giv := PySem.W.mg_of X G aiv
  have gar := PySem.W.mg_of X G aar
  have gbf := PySem.W.mg_of X G abf
  have gab := PySem.W.mg_of X G aab
  have gwp := PySem.W.mg_of X G awp
  have gsv := PySem.W.mg_of X G asv
  have glo := PySem.W.mg_of X G alo
  have gln := PySem.W.mg_of X G aln
  have gam := PySem.W.mg_of X G aam
  have gwb := PySem.W.mg_of X G awb
  have ghp := PySem.W.mg_of X G ahp
  have glb := PySem.W.mg_of X G alb
  have glt := PySem.W.mg_of X G alt
  have glp := PySem.W.mg_of X G alp
  have glx := PySem.W.mg_of X G alx
  have gly := PySem.W.mg_of X G aly
  have glz := PySem.W.mg_of X G alz
  have glq := PySem.W.mg_of X G alq
  have gls := PySem.W.mg_of X G als
  have glg := PySem.W.mg_of X G alg
  have glw := PySem.W.mg_of X G alw
  have glr := PySem.W.mg_of X G alr
  have glh := PySem.W.mg_of X G alh
  have gli := PySem.W.mg_of X G ali
  have glj := PySem.W.mg_of X G alj
  have glk := PySem.W.mg_of X G alk
  have gll := PySem.W.mg_of X G all
  have glm := PySem.W.mg_of X G alm
  have glu := PySem.W.mg_of X G alu
  have glaw := PySem.W.mg_of X G alaw
  have mint_ := PySem.W.mg_none_of X G zint
  have mlist_ := PySem.W.mg_none_of X G zlist
  have mlen_ := PySem.W.mg_none_of X G zlen
  have mabs_ := PySem.W.mg_none_of X G zabs
  have mtuple_ := PySem.W.mg_none_of X G ztuple
  have mrange_ := PySem.W.mg_none_of X G zrange
  have mstr_ := PySem.W.mg_none_of X G zstr
  have misinstance_ := PySem.W.mg_none_of X G zisinstance
  have mmax_ := PySem.W.mg_none_of X G zmax
  have mmin_ := PySem.W.mg_none_of X G zmin
  have mall_ := PySem.W.mg_none_of X G zall
  have many_ := PySem.W.mg_none_of X G zany
  have menumerate_ := PySem.W.mg_none_of X G zenumerate
  have mdict_ := PySem.W.mg_none_of X G zdict
  have msorted_ := PySem.W.mg_none_of X G zsorted
  have mzip_ := PySem.W.mg_none_of X G zzip
  have T : RCl K mg C := ⟨⟨pgC, hdC, poC, saC⟩, n0, n1, PySem.W.mg_of X G aCls⟩
  have PTC : ∀ H : Hp, PV K H (.ref tTC) (.tuple ((["add", "mul", "and", "or", "xor", "eq"] : List Str).map PyData.str)) := fun H => .tup (xs := [.str "add", .str "mul", .str "and", .str "or", .str "xor", .str "eq"]) (.inr ⟨_, _, _, lTC, rfl, rfl, by show 6 ≤ sizeLine; decide, (.cons ⟨_, rfl⟩ (.cons ⟨_, rfl⟩ (.cons ⟨_, rfl⟩ (.cons ⟨_, rfl⟩ (.cons ⟨_, rfl⟩ (.cons ⟨_, rfl⟩ .nil))))))⟩) (.cons (.str _) (.cons (.str _) (.cons (.str _) (.cons (.str _) (.cons (.str _) (.cons (.str _) .nil))))))
  have PTW : ∀ H : Hp, PV K H (.ref tTW) (.tuple ((["op", "copy", "load", "call", "phi"] : List Str).map PyData.str)) := fun H => .tup (xs := [.str "op", .str "copy", .str "load", .str "call", .str "phi"]) (.inr ⟨_, _, _, lTW, rfl, rfl, by show 5 ≤ sizeLine; decide, (.cons ⟨_, rfl⟩ (.cons ⟨_, rfl⟩ (.cons ⟨_, rfl⟩ (.cons ⟨_, rfl⟩ (.cons ⟨_, rfl⟩ .nil)))))⟩) (.cons (.str _) (.cons (.str _) (.cons (.str _) (.cons (.str _) (.cons (.str _) .nil)))))
  have PTH : ∀ H : Hp, PV K H (.ref tTH) (.tuple ((["store", "call"] : List Str).map PyData.str)) := fun H => .tup (xs := [.str "store", .str "call"]) (.inr ⟨_, _, _, lTH, rfl, rfl, by show 2 ≤ sizeLine; decide, (.cons ⟨_, rfl⟩ (.cons ⟨_, rfl⟩ .nil))⟩) (.cons (.str _) (.cons (.str _) .nil))
  have PTK : ∀ H : Hp, PV K H (.ref tTK) (.tuple ((["load", "store", "call"] : List Str).map PyData.str)) := fun H => .tup (xs := [.str "load", .str "store", .str "call"]) (.inr ⟨_, _, _, lTK, rfl, rfl, by show 3 ≤ sizeLine; decide, (.cons ⟨_, rfl⟩ (.cons ⟨_, rfl⟩ (.cons ⟨_, rfl⟩ .nil)))⟩) (.cons (.str _) (.cons (.str _) (.cons (.str _) .nil)))
  let C1 : Consts K mg := { aC := tTC, gC := PySem.W.mg_of X G aTC, pC := PTC, aW := tTW, gW := PySem.W.mg_of X G aTW, pW := PTW, tP := tPH, gP := PySem.W.mg_of X G aPH }
  let C2 : Consts2 K mg := { aC := tTH, gC := PySem.W.mg_of X G aTH, pC := PTH, aA := tTK, gA := PySem.W.mg_of X G aTK, pA := PTK }
  let C3 : Consts3 K w mg := { dL := dL, gL := PySem.W.mg_of X G aDL, kL := fun o => ⟨⟨esL, ndL, lDL, kDL, oDL⟩, by cases o <;> first | exact ⟨_, is_mul, ⟨_, rfl⟩⟩ | exact ⟨_, is_div, ⟨_, rfl⟩⟩ | exact ⟨_, no_add, trivial⟩ | exact ⟨_, no_sub, trivial⟩ | exact ⟨_, no_and, trivial⟩ | exact ⟨_, no_or, trivial⟩ | exact ⟨_, no_xor, trivial⟩ | exact ⟨_, no_shl, trivial⟩ | exact ⟨_, no_shr, trivial⟩ | exact ⟨_, no_lt, trivial⟩ | exact ⟨_, no_slt, trivial⟩ | exact ⟨_, no_eq, trivial⟩⟩, dK := dN, gK := PySem.W.mg_of X G aDN, eK := ⟨esN, ndN, lDN, kDN, oDN⟩, kK := fun s hs => by cases s <;> first | exact absurd rfl hs | exact ⟨_, is_copy⟩ | exact ⟨_, is_load⟩ | exact ⟨_, is_store⟩ | exact ⟨_, is_call⟩ }
  refine ⟨PySem.W.fnOf "law" "law" (defArgs sLaw) (defBody sLaw) (defScope sLaw) .none kVlaw dclaw pmlaw anlaw cdlaw ctlaw, fun s v => .of_eq rfl, fun base _ _ => ?_⟩
  have Gcm : FnOk l.prog w K mg base CX0 1 fcm _ ["op"] (spCommutes K) := ok_commutes Fcm C1
  have Gwr : FnOk l.prog w K mg base CX0 1 fwr _ ["step"] (spWritesOf K) := ok_writes_of Fwr C1
  have Grs : FnOk l.prog w K mg base CX0 1 frs _ ["step"] (spReadsOf K) := ok_reads_of Frs C1
  have Ggo : FnOk l.prog w K mg base CX0 1 fgo _ ["end"] (spGoalsOf K) := ok_goals_of Fgo
  have Grn : FnOk l.prog w K mg base CX0 1 frn _ ["end"] (spReadsEnd K) := ok_reads_end Frn
  have Giv : FnOk l.prog w K mg base CX0 1 fiv _ ["operand"] (spIsValue K) := ok_is_value Fiv misinstance_ mstr_
  have Gmt : FnOk l.prog w K mg base CX0 1 fmt _ ["self", "operand"] (spRTerm K C) := ok_rterm Fmt T misinstance_ mstr_
  have Gmi : FnOk l.prog w K mg base CX0 1 fmi _ ["self"] (spRInit K C) := ok_rinit Fmi T
  have Gmr : FnG l.prog w K mg base 2 fmr _ ["self", "step"] (spRRead K C) := ok_rread Fmr T ⟨amt, imt, kmt⟩ Gmt bmt Gcm kcm bcm gcm mtuple_ mlen_ mstr_
  have Gro : FnG l.prog w K mg base 3 fro _ ["steps"] (spReaderOf K C) := ok_reader_of Fro T ⟨mkC, ami, imi, kcC⟩ Gmi bmi ⟨amr, imr, kmr⟩ Gmr bmr
  have Gsr : FnG l.prog w K mg base 4 fsr _ ["one", "other", "alive"] (spSameRows K) := ok_same_rows Fsr T Gro kro bro gro ⟨amt, imt, kmt⟩ Gmt bmt mall_
  have Gsb : FnG l.prog w K mg base 5 fsb _ ["one", "other", "alive"] (spSameBlocks K) := ok_same_blocks Fsb Gsr ksr bsr gsr Grn krn brn grn mlen_ menumerate_
  have Gtm : FnG l.prog w K mg base 4 ftm _ ["steps"] (spTermsOf K) := ok_terms_of Ftm T Gro kro bro gro mdict_ mtuple_
  have Gam : FnOk l.prog w K mg base CX0 1 fam _ ["ahead", "behind"] (spActsMeet K) := ok_acts_meet Fam C2
  have Gln : FnOk l.prog w K mg base CX0 1 fln _ ["step"] (spLengthOf K) := ok_length_of Fln C3
  have Gwb : FnOk l.prog w K mg base CX0 2 fwb _ ["ahead", "behind"] (spWait K) := ok_wait Fwb Gwr kwr bwr gwr Grs krs brs grs Gam kam bam gam Gln kln bln gln mmax_
  have Ghp : FnOk l.prog w K mg base CX0 3 fhp _ ["steps"] (spHang K) := ok_hang Fhp Gwb kwb bwb gwb mlen_ mrange_ mtuple_ msorted_
  have Gar : FnOk l.prog w K mg base CX0 2 far _ ["graph", "number"] (spArms K) := ok_arms Far C1 Ggo kgo bgo ggo
  have Gbf : FnOk l.prog w K mg base CX0 2 fbf _ ["step", "alive"] (spBefore K) := ok_before Fbf C1 Gwr kwr bwr gwr Grs krs brs grs Giv kiv biv giv
  have Gab : FnOk l.prog w K mg base CX0 3 fab _ ["graph", "number", "alive"] (spAtBegin K) := ok_at_begin Fab C1 Gbf kbf bbf gbf Grn krn brn grn Giv kiv biv giv mdict_
  have Gwp : FnOk l.prog w K mg base CX0 2 fwp _ ["graph", "number", "alive"] (spWithout K) := ok_without Fwp C1 Gwr kwr bwr gwr
  have Gsv : FnOk l.prog w K mg base CX0 4 fsv _ ["graph"] (spSolved K) := ok_solved Fsv Gar kar bar gar Gab kab bab gab Gwp kwp bwp gwp Ggo kgo bgo ggo mlen_ mrange_
  have Glo : FnOk l.prog w K mg base CX0 5 flo _ ["graph"] (spLivesOut K) := ok_lives_out Flo Gsv ksv bsv gsv mtuple_ msorted_
  have Glb : FnOk l.prog w K mg base CX0 1 flb _ ["script"] (spBegin K) := ok_begin Flb mint_ mlist_
  have Glt : FnOk l.prog w K mg base CX0 1 flt _ ["d", "many"] spTake := ok_take Flt mint_ mlen_ mabs_
  have Glp : FnOk l.prog w K mg base CX0 2 flp _ ["d", "menu"] (spPick K) := ok_pick Flp Flt blt glt mint_ mlen_ mabs_
  have Glx : FnOk l.prog w K mg base CX0 1 flx _ [] (spLOps K) := ok_lops Flx
  have Glq : FnOk l.prog w K mg base CX0 3 flq _ ["d", "names"] (spLOperand K) := ok_loperand Flq Glt klt blt glt Glp klp blp glp
  have Gls : FnOk l.prog w K mg base CX0 4 fls _ ["d", "names", "calls"] (spLStep K) := ok_lstep Fls Glt klt blt glt Glp klp blp glp Glq klq blq glq Glx klx blx glx mlen_ mtuple_ mrange_
  have Glg : FnOk l.prog w K mg base CX0 1 flg _ ["end"] (spGoalsOf K) := ok_lgoals Flg
  have Glw : FnOk l.prog w K mg base CX0 2 flw _ ["end", "numbers"] (spWithGoals K) := ok_with_goals Flw Glg klg blg glg mtuple_
  have Glr : FnOk l.prog w K mg base CX0 2 flr _ ["blocks", "shut"] (spReach K) := ok_reach Flr Glg klg blg glg mlen_ mlist_
  have Glh : FnOk l.prog w K mg base CX0 5 flh _ ["d", "params", "most", "calls"] (spLGraph K) := ok_lgraph Flh Glt klt blt glt Glq klq blq glq Gls kls bls gls Glr klr blr glr Glw klw blw glw mlen_ mtuple_ mrange_ mlist_ mmin_ msorted_ mdict_
  have Glz : FnOk l.prog w K mg base CX0 2 flz _ ["w", "op", "a", "b"] (spOperate K) := ok_lawop Flz Fly bly gly mmax_ mmin_ mrange_ mint_
  have Gli : FnOk l.prog w K mg base CX0 1 fli _ ["w", "operand", "own"] (spRead K) := ok_lread Fli misinstance_ mstr_
  have Go0 : FnOk l.prog w K mg base CX0 2 flj _ ["module", "w", "name", "args", "state"] (fun _ _ _ _ => False) := Flj.ok (k := 1) scGo (fun _ _ _ _ z => z.elim) (fun _ _ _ _ _ _ _ _ _ z => z.elim)
  have GoA : FnOk l.prog w K mg base CX0 3 flj _ ["module", "w", "name", "args", "state"] (spGo K false) := ok_go (c := false) (n := 2) Flj (by decide) (fun z => by cases z) Go0 klj blj glj Gli kli bli gli Glz klz blz glz mdict_ mzip_
  have Glj : FnOk l.prog w K mg base CX0 4 flj _ ["module", "w", "name", "args", "state"] (spGo K true) := ok_go (c := true) (n := 3) Flj (by decide) (fun _ _ _ _ _ z => z) GoA klj blj glj Gli kli bli gli Glz klz blz glz mdict_ mzip_
  have Glk : FnOk l.prog w K mg base CX0 5 flk _ ["module", "w", "args", "fuel"] (spResult K) := ok_lresult Flk Glj klj blj glj mtuple_
  have Gll : FnOk l.prog w K mg base CX0 6 fll _ ["one", "other", "w", "rows", "fuel"] (spAlike K) := ok_alike Fll Glk klk blk glk
  have Glm : FnOk l.prog w K mg base CX0 2 flm _ ["d", "w", "many"] (spLRows K) := ok_lrows Flm Glt klt blt glt mtuple_ mrange_
  have Glu : FnG l.prog w K mg base 1 flu _ ["steps"] (spTermsOf K) := ok_lterms (n := 0) Flu misinstance_ mstr_ mlen_ mtuple_
  exact ok_law Flaw
    { fB := flb, dB := _, GB := Glb, kB := klb, bB := blb, gB := glb
      fT := flt, dT := _, GT := Glt, kT := klt, bT := blt, gT := glt
      fP := flp, dP := _, GP := Glp, kP := klp, bP := blp, gP := glp
      fS := fls, dS := _, GS := Gls, kS := kls, bS := bls, gS := gls
      fM := flu, dM := _, GM := Glu, kM := klu, bM := blu, gM := glu
      fO := ftm, dO := _, GO := Gtm, kO := ktm, bO := btm, gO := gtm
      fH := fhp, dH := _, GH := Ghp, kH := khp, bH := bhp, gH := ghp
      fR := fsr, dR := _, GR := Gsr, kR := ksr, bR := bsr, gR := gsr
      fW := flm, dW := _, GW := Glm, kW := klm, bW := blm, gW := glm
      fA := fll, dA := _, GA := Gll, kA := kll, bA := bll, gA := gll
      fG := flh, dG := _, GG := Glh, kG := klh, bG := blh, gG := glh
      fQ := fsb, dQ := _, GQ := Gsb, kQ := ksb, bQ := bsb, gQ := gsb
      fL := flo, dL := _, GL := Glo, kL := klo, bL := blo, gL := glo
      nTuple := mtuple_, nRange := mrange_, nLen := mlen_, nList := mlist_, nAny := many_, nAll := mall_ }
theorem walk {l : PySem.W.OpenLaw} {q : Program} {loose : List Str} {XP : (Str → Option Value) → Heap → Prop} {YP : World → Heap → Prop} {d : DefRec} {K : Params → PySem.W.Frag} (hn : l.most = some 63) (hdf : d.params.defaults = [])
    (hY : ∀ (w : World) (h : Heap), YP w h → (K w.params).In h)
    (F : ∀ (w : World) (mg : Str → Option Value) (fa : Addr) (h : Heap), (K w.params).In h → h.Ns mainGlobals mg → mg d.name = some (.ref fa) →
      ∃ fd : FuncData, (∀ (s : Shared) (u : Value), BindsTo s fd ⟨[u], []⟩ [("script", u)]) ∧ ∀ base : Heap, (K w.params).In base → base.Ns mainGlobals mg → FnG l.prog w (K w.params) mg base 7 fa fd ["script"] (spLaw (K w.params))) :
    PySem.W.WalkO q loose XP YP l.row.toRowW d [] (fun f vs => PySem.call f vs) :=
  walkG (n := 63) (k := 7) (x := "script") (sp := fun w => spLaw (K w.params)) hn (by decide) hdf ⟨rfl, by decide, by decide⟩ hY F (fun _ _ a ns hl _ hS => ⟨a, ns, rfl, hS, hl, fun _ => rfl⟩)
end K36
open PySem PySem.W PyProof.Rows
set_option maxRecDepth 100000 in
set_option maxHeartbeats 0 in
theorem PySem.Challenge.cw_phiworks_k36_whole_rows_as_terms_holds : PySem.Challenge.rw_phiworks_k36_whole_rows_as_terms.Holds := by
  w_on; o_law; k_head; (case hw => w_witness2)
  k_fill
  refine K36.walk (l := PySem.Challenge.rw_phiworks_k36_whole_rows_as_terms) rfl rfl (fun w h Y => PySem.W.kIn_of Y) ?F
  case F =>
    intro w mg fa h KX G hmg
    refine' K36.all_mk KX G hmg ?acm ?lcm ?ccm ?kcm ?awr ?lwr ?cwr ?kwr ?ars ?lrs ?crs ?krs ?ago ?lgo ?cgo ?kgo ?arn ?lrn ?crn ?krn ?aro ?lro ?cro ?kro ?atm ?ltm ?ctm ?ktm ?asr ?lsr ?csr ?ksr ?asb ?lsb ?csb ?ksb ?aiv ?liv ?civ ?kiv ?aar ?lar ?car ?kar ?abf ?lbf ?cbf ?kbf ?aab ?lab ?cab ?kab ?awp ?lwp ?cwp ?kwp ?asv ?lsv ?csv ?ksv ?alo ?llo ?clo ?klo ?aln ?lln ?cln ?kln ?aam ?lam ?cam ?kam ?awb ?lwb ?cwb ?kwb ?ahp ?lhp ?chp ?khp ?alb ?llb ?clb ?klb ?alt ?llt ?clt ?klt ?alp ?llp ?clp ?klp ?alx ?llx ?clx ?klx ?aly ?lly ?cly ?kly ?alz ?llz ?clz ?klz ?alq ?llq ?clq ?klq ?als ?lls ?cls ?kls ?alg ?llg ?clg ?klg ?alw ?llw ?clw ?klw ?alr ?llr ?clr ?klr ?alh ?llh ?clh ?klh ?ali ?lli ?cli ?kli ?alj ?llj ?clj ?klj ?alk ?llk ?clk ?klk ?all ?lll ?cll ?kll ?alm ?llm ?clm ?klm ?alu ?llu ?clu ?klu ?alaw ?llaw ?claw ?klaw ?aCls ?ami ?imi ?lmi ?cmi ?kmi ?amt ?imt ?lmt ?cmt ?kmt ?amr ?imr ?lmr ?cmr ?kmr ?pgC ?hdC ?poC ?saC ?mkC ?kcC ?n0 ?n1 ?zint ?zlist ?zlen ?zabs ?ztuple ?zrange ?zstr ?zisinstance ?zmax ?zmin ?zall ?zany ?zenumerate ?zdict ?zsorted ?zzip ?aTC ?lTC ?aTW ?lTW ?aTH ?lTH ?aTK ?lTK ?aPH ?aDL ?lDL ?kDL ?oDL ?aDN ?lDN ?kDN ?oDN ?no_add ?no_sub ?is_mul ?is_div ?no_and ?no_or ?no_xor ?no_shl ?no_shr ?no_lt ?no_slt ?no_eq ?is_copy ?is_load ?is_store ?is_call
    (case acm => k_is)
    (case lcm => k_is)
    (case ccm => k_is)
    (case kcm => k_is)
    (case awr => k_is)
    (case lwr => k_is)
    (case cwr => k_is)
    (case kwr => k_is)
    (case ars => k_is)
    (case lrs => k_is)
    (case crs => k_is)
    (case krs => k_is)
    (case ago => k_is)
    (case lgo => k_is)
    (case cgo => k_is)
    (case kgo => k_is)
    (case arn => k_is)
    (case lrn => k_is)
    (case crn => k_is)
    (case krn => k_is)
    (case aro => k_is)
    (case lro => k_is)
    (case cro => k_is)
    (case kro => k_is)
    (case atm => k_is)
    (case ltm => k_is)
    (case ctm => k_is)
    (case ktm => k_is)
    (case asr => k_is)
    (case lsr => k_is)
    (case csr => k_is)
    (case ksr => k_is)
    (case asb => k_is)
    (case lsb => k_is)
    (case csb => k_is)
    (case ksb => k_is)
    (case aiv => k_is)
    (case liv => k_is)
    (case civ => k_is)
    (case kiv => k_is)
    (case aar => k_is)
    (case lar => k_is)
    (case car => k_is)
    (case kar => k_is)
    (case abf => k_is)
    (case lbf => k_is)
    (case cbf => k_is)
    (case kbf => k_is)
    (case aab => k_is)
    (case lab => k_is)
    (case cab => k_is)
    (case kab => k_is)
    (case awp => k_is)
    (case lwp => k_is)
    (case cwp => k_is)
    (case kwp => k_is)
    (case asv => k_is)
    (case lsv => k_is)
    (case csv => k_is)
    (case ksv => k_is)
    (case alo => k_is)
    (case llo => k_is)
    (case clo => k_is)
    (case klo => k_is)
    (case aln => k_is)
    (case lln => k_is)
    (case cln => k_is)
    (case kln => k_is)
    (case aam => k_is)
    (case lam => k_is)
    (case cam => k_is)
    (case kam => k_is)
    (case awb => k_is)
    (case lwb => k_is)
    (case cwb => k_is)
    (case kwb => k_is)
    (case ahp => k_is)
    (case lhp => k_is)
    (case chp => k_is)
    (case khp => k_is)
    (case alb => k_is)
    (case llb => k_is)
    (case clb => k_is)
    (case klb => k_is)
    (case alt => k_is)
    (case llt => k_is)
    (case clt => k_is)
    (case klt => k_is)
    (case alp => k_is)
    (case llp => k_is)
    (case clp => k_is)
    (case klp => k_is)
    (case alx => k_is)
    (case llx => k_is)
    (case clx => k_is)
    (case klx => k_is)
    (case aly => k_is)
    (case lly => k_is)
    (case cly => k_is)
    (case kly => k_is)
    (case alz => k_is)
    (case llz => k_is)
    (case clz => k_is)
    (case klz => k_is)
    (case alq => k_is)
    (case llq => k_is)
    (case clq => k_is)
    (case klq => k_is)
    (case als => k_is)
    (case lls => k_is)
    (case cls => k_is)
    (case kls => k_is)
    (case alg => k_is)
    (case llg => k_is)
    (case clg => k_is)
    (case klg => k_is)
    (case alw => k_is)
    (case llw => k_is)
    (case clw => k_is)
    (case klw => k_is)
    (case alr => k_is)
    (case llr => k_is)
    (case clr => k_is)
    (case klr => k_is)
    (case alh => k_is)
    (case llh => k_is)
    (case clh => k_is)
    (case klh => k_is)
    (case ali => k_is)
    (case lli => k_is)
    (case cli => k_is)
    (case kli => k_is)
    (case alj => k_is)
    (case llj => k_is)
    (case clj => k_is)
    (case klj => k_is)
    (case alk => k_is)
    (case llk => k_is)
    (case clk => k_is)
    (case klk => k_is)
    (case all => k_is)
    (case lll => k_is)
    (case cll => k_is)
    (case kll => k_is)
    (case alm => k_is)
    (case llm => k_is)
    (case clm => k_is)
    (case klm => k_is)
    (case alu => k_is)
    (case llu => k_is)
    (case clu => k_is)
    (case klu => k_is)
    (case alaw => k_is)
    (case llaw => k_is)
    (case claw => k_is)
    (case klaw => k_is)
    (case aCls => k_is)
    (case ami => k_is)
    (case imi => k_is)
    (case lmi => k_is)
    (case cmi => k_is)
    (case kmi => k_is)
    (case amt => k_is)
    (case imt => k_is)
    (case lmt => k_is)
    (case cmt => k_is)
    (case kmt => k_is)
    (case amr => k_is)
    (case imr => k_is)
    (case lmr => k_is)
    (case cmr => k_is)
    (case kmr => k_is)
    (case pgC => k_is)
    (case hdC => k_is)
    (case poC => k_is)
    (case saC => k_is)
    (case mkC => k_is)
    (case kcC => k_is)
    (case n0 => k_is)
    (case n1 => k_is)
    (case zint => k_is)
    (case zlist => k_is)
    (case zlen => k_is)
    (case zabs => k_is)
    (case ztuple => k_is)
    (case zrange => k_is)
    (case zstr => k_is)
    (case zisinstance => k_is)
    (case zmax => k_is)
    (case zmin => k_is)
    (case zall => k_is)
    (case zany => k_is)
    (case zenumerate => k_is)
    (case zdict => k_is)
    (case zsorted => k_is)
    (case zzip => k_is)
    (case aTC => k_is)
    (case lTC => k_is)
    (case aTW => k_is)
    (case lTW => k_is)
    (case aTH => k_is)
    (case lTH => k_is)
    (case aTK => k_is)
    (case lTK => k_is)
    (case aPH => k_is)
    (case aDL => k_is)
    (case lDL => k_is)
    (case kDL => k_keys)
    (case oDL => decide)
    (case aDN => k_is)
    (case lDN => k_is)
    (case kDN => k_keys)
    (case oDN => decide)
    (case no_add => k_is)
    (case no_sub => k_is)
    (case is_mul => k_is)
    (case is_div => k_is)
    (case no_and => k_is)
    (case no_or => k_is)
    (case no_xor => k_is)
    (case no_shl => k_is)
    (case no_shr => k_is)
    (case no_lt => k_is)
    (case no_slt => k_is)
    (case no_eq => k_is)
    (case is_copy => k_is)
    (case is_load => k_is)
    (case is_store => k_is)
    (case is_call => k_is)
