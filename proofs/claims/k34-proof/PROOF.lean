import PyProof.Rows.All
import Wide.All
import OpenK.AllK
import Wide.FinOn
import HandS.ForMost
import HandS.Evl
import HandS.TupAny
import HandS.TupMul
import HandS.Conv
import HandS.IsInst
import HandS.Zip
import PySem.Challenge.RW_phiworks_k34_whole_short_rows
import HandS.More
import HandS.Wide
import HandS.Dict
import HandS.ForDict
set_option Elab.async false
set_option linter.all false
set_option maxRecDepth 100000
set_option maxHeartbeats 4000000
/-! Plain data (none, bools, ints, texts, tuples of such) and what evaluates to it. -/
namespace Pd
open PySem PySem.Spec PyProof.Rows L2 Evl

/-- a tuple that stands for good: tracked, or one of the module's own -/
def TupAt (K : PySem.W.Frag) (H : Hp) (a : Addr) (xs : List V) : Prop :=
  H a = some (.tup xs) ∨ ∃ (o : Obj) (its : Array Value) (n : Nat), K.lookup a = some o ∧ o.cls = .type "tuple" ∧ o.data = .seq its n ∧ its.size ≤ sizeLine ∧ Vals xs its.toList
theorem TupAt.sq {K : PySem.W.Frag} {H : Hp} {a : Addr} {xs : List V} (h : TupAt K H a xs) : SqT K H a xs := h.imp Or.inl id
/-- tuples stay -/
def Tx (H H' : Hp) : Prop := ∀ a xs, H a = some (.tup xs) → H' a = some (.tup xs)
theorem Tx.refl (H : Hp) : Tx H H := fun _ _ h => h
theorem Tx.trans {H H1 H2 : Hp} (a : Tx H H1) (b : Tx H1 H2) : Tx H H2 := fun x o h => b x o (a x o h)
theorem tx_of {H H' : Hp} (e : Ex H H') : Tx H H' := fun a xs h => e a _ h
theorem Tx.upd {H : Hp} {p : Addr} {o : HO} (h : ∀ xs, H p ≠ some (.tup xs)) : Tx H (upd H p o) := fun a xs e => by
  rw [upd_ne (fun z => by subst z; exact h xs e)]
  exact e
theorem Tx.updL {H : Hp} {p : Addr} {o : HO} {ys : List V} (h : H p = some (.lst ys)) : Tx H (L2.upd H p o) := Tx.upd fun xs e => by
  rw [h] at e
  cases e

mutual
inductive PV (K : PySem.W.Frag) (H : Hp) : V → PyData → Prop
  | non : PV K H .non .none
  | bl (b : Bool) : PV K H (.bl b) (.bool b)
  | int (i : Int) : PV K H (.int i) (.int i)
  | str (x : Str) : PV K H (.str x) (.str x)
  | tup {a : Addr} {xs : List V} {ds : List PyData} : TupAt K H a xs → PVs K H xs ds → PV K H (.ref a) (.tuple ds)
inductive PVs (K : PySem.W.Frag) (H : Hp) : List V → List PyData → Prop
  | nil : PVs K H [] []
  | cons {v : V} {vs : List V} {d : PyData} {ds : List PyData} : PV K H v d → PVs K H vs ds → PVs K H (v :: vs) (d :: ds)
end
section
variable {K : PySem.W.Frag} {H H' H1 : Hp}
mutual
theorem PV.dp : ∀ (d : PyData) {v : V}, PV K H v d → Dp K H v d
  | .none, _, h => by cases h; exact .non
  | .bool b, _, h => by cases h; exact .bl b
  | .int i, _, h => by cases h; exact .int i
  | .str x, _, h => by cases h; exact .str x
  | .list xs, _, h => by cases h
  | .dict xs, _, h => by cases h
  | .tuple ds, _, h => by
    cases h with
    | tup a b => exact .tup a.sq (PVs.dp ds b)
theorem PVs.dp : ∀ (ds : List PyData) {vs : List V}, PVs K H vs ds → DpAll K H vs ds
  | [], _, h => by cases h; exact .nil
  | d :: ds, _, h => by
    cases h with
    | cons a b => exact .cons (PV.dp d a) (PVs.dp ds b)
end
theorem TupAt.tx {a : Addr} {xs : List V} (e : Tx H H') (h : TupAt K H a xs) : TupAt K H' a xs := h.imp (fun h => e a xs h) id
mutual
theorem PV.tx (e : Tx H H') : ∀ (d : PyData) {v : V}, PV K H v d → PV K H' v d
  | .none, _, h => by cases h; exact .non
  | .bool b, _, h => by cases h; exact .bl b
  | .int i, _, h => by cases h; exact .int i
  | .str x, _, h => by cases h; exact .str x
  | .list xs, _, h => by cases h
  | .dict xs, _, h => by cases h
  | .tuple ds, _, h => by
    cases h with
    | tup a b => exact .tup (a.tx e) (PVs.tx e ds b)
theorem PVs.tx (e : Tx H H') : ∀ (ds : List PyData) {vs : List V}, PVs K H vs ds → PVs K H' vs ds
  | [], _, h => by cases h; exact .nil
  | d :: ds, _, h => by
    cases h with
    | cons a b => exact .cons (PV.tx e d a) (PVs.tx e ds b)
end
theorem PV.ex {d : PyData} {v : V} (h : PV K H v d) (e : Ex H H') : PV K H' v d := h.tx (tx_of e)
theorem PVs.ex {ds : List PyData} {vs : List V} (h : PVs K H vs ds) (e : Ex H H') : PVs K H' vs ds := h.tx (tx_of e)
theorem PVs.length : ∀ {ds : List PyData} {vs : List V}, PVs K H vs ds → vs.length = ds.length
  | [], _, h => by cases h; rfl
  | d :: ds, _, h => by
    cases h with
    | cons a b => exact congrArg (· + 1) b.length
theorem PVs.get : ∀ {ds : List PyData} {vs : List V} {i : Nat} {v : V}, PVs K H vs ds → vs[i]? = some v → ∃ d, ds[i]? = some d ∧ PV K H v d
  | [], _, i, v, h, e => by cases h; cases e
  | d :: ds, _, 0, v, h, e => by
    cases h with
    | cons a b =>
      cases e
      exact ⟨d, rfl, a⟩
  | d :: ds, _, i + 1, v, h, e => by
    cases h with
    | cons a b => exact PVs.get (i := i) b e
theorem PVs.at : ∀ {ds : List PyData} {vs : List V} {i : Nat} {d : PyData}, PVs K H vs ds → ds[i]? = some d → ∃ v, vs[i]? = some v ∧ PV K H v d
  | [], _, i, v, h, e => by cases e
  | d :: ds, _, 0, v, h, e => by
    cases h with
    | cons a b =>
      cases e
      exact ⟨_, rfl, a⟩
  | d :: ds, _, i + 1, v, h, e => by
    cases h with
    | cons a b => exact PVs.at (i := i) b e
theorem PVs.append : ∀ {ds es : List PyData} {vs ws : List V}, PVs K H vs ds → PVs K H ws es → PVs K H (vs ++ ws) (ds ++ es)
  | [], _, _, _, h, k => by cases h; exact k
  | d :: ds, _, _, _, h, k => by
    cases h with
    | cons a b => exact .cons a (PVs.append b k)
theorem PVs.one {d : PyData} {v : V} (h : PV K H v d) : PVs K H [v] [d] := .cons h .nil
theorem PVs.ints : ∀ ns : List Int, PVs K H (ns.map V.int) (ns.map PyData.int)
  | [] => .nil
  | n :: ns => .cons (.int n) (PVs.ints ns)
theorem PVs.of_ints : ∀ {ns : List Int} {vs : List V}, PVs K H vs (ns.map PyData.int) → vs = ns.map V.int
  | [], _, h => by cases h; rfl
  | n :: ns, _, h => by
    cases h with
    | cons a b =>
      cases a
      rw [PVs.of_ints b]
      rfl
theorem pv_int {v : V} {i : Int} (h : PV K H v (.int i)) : v = .int i := by cases h; rfl
theorem pv_str {v : V} {x : Str} (h : PV K H v (.str x)) : v = .str x := by cases h; rfl
theorem pv_bl {v : V} {b : Bool} (h : PV K H v (.bool b)) : v = .bl b := by cases h; rfl
theorem pv_non {v : V} (h : PV K H v .none) : v = .non := by cases h; rfl
theorem pv_tup {v : V} {ds : List PyData} (h : PV K H v (.tuple ds)) : ∃ a xs, v = .ref a ∧ TupAt K H a xs ∧ PVs K H xs ds := by
  cases h with
  | tup a b => exact ⟨_, _, rfl, a, b⟩
theorem pv_isnon {v : V} {d : PyData} (h : PV K H v d) : decide (v = .non) = (match d with | .none => true | _ => false) := by
  cases h <;> rfl

/-! ### expressions -/
def EvP (K : PySem.W.Frag) (te : TE) (σ : L2.St) (H : Hp) (d : PyData) : Prop := ∀ H1, Ex H H1 → ∀ Q : VK, (∀ v H2, Ex H1 H2 → PV K H2 v d → Q v H2) → te σ H1 Q
def EvPs (K : PySem.W.Frag) (ta : TA) (σ : L2.St) (H : Hp) (ds : List PyData) : Prop := ∀ H1, Ex H H1 → ∀ Q : List V → Hp → Prop, (∀ vs H2, Ex H1 H2 → PVs K H2 vs ds → Q vs H2) → ta σ H1 Q
/-- a new list of such -/
def EvPL (K : PySem.W.Frag) (te : TE) (σ : L2.St) (H : Hp) (ds : List PyData) : Prop := ∀ H1, Ex H H1 → ∀ Q : VK, (∀ p vs H2, H1 p = none → Ex H1 H2 → H2 p = some (.lst vs) → PVs K H2 vs ds → Q (.ref p) H2) → te σ H1 Q
variable {σ : L2.St} {ta tb te : TE} {t : TT} {d e f : PyData} {ds es : List PyData} {v x y : V}
theorem EvP.mono (h : EvP K te σ H d) (e : Ex H H') : EvP K te σ H' d := fun H1 a Q q => h H1 (e.trans a) Q q
theorem EvPs.mono {ta : TA} (h : EvPs K ta σ H ds) (e : Ex H H') : EvPs K ta σ H' ds := fun H1 a Q q => h H1 (e.trans a) Q q
theorem EvPL.mono (h : EvPL K te σ H ds) (e : Ex H H') : EvPL K te σ H' ds := fun H1 a Q q => h H1 (e.trans a) Q q
theorem ep_ev (h : Ev te σ H v) (p : PV K H v d) : EvP K te σ H d := fun H1 e Q q => h H1 e _ fun H2 e2 => q v H2 e2 (p.ex (e.trans e2))
theorem ep_var {i : Nat} (h : σ[i]? = some (some v)) (p : PV K H v d) : EvP K (tVar i) σ H d := ep_ev (ev_var h) p
theorem ep_c (p : PV K H v d) : EvP K (tC v) σ H d := ep_ev ev_c p
theorem ep_int {i : Int} : EvP K (tC (.int i)) σ H (.int i) := ep_c (.int i)
theorem ep_str {x : Str} : EvP K (tC (.str x)) σ H (.str x) := ep_c (.str x)
theorem ep_non : EvP K (tC .non) σ H .none := ep_c .non
theorem ep_bl {b : Bool} : EvP K (tC (.bl b)) σ H (.bool b) := ep_c (.bl b)
theorem ev_epI {i : Int} (h : EvP K te σ H (.int i)) : Ev te σ H (.int i) := fun H1 e Q q => h H1 e _ fun v H2 e2 p => by
  cases p
  exact q H2 e2
theorem ev_epS {x : Str} (h : EvP K te σ H (.str x)) : Ev te σ H (.str x) := fun H1 e Q q => h H1 e _ fun v H2 e2 p => by
  cases p
  exact q H2 e2
theorem ev_epB {b : Bool} (h : EvP K te σ H (.bool b)) : Ev te σ H (.bl b) := fun H1 e Q q => h H1 e _ fun v H2 e2 p => by
  cases p
  exact q H2 e2
theorem ep_evI {i : Int} (h : Ev te σ H (.int i)) : EvP K te σ H (.int i) := ep_ev h (.int i)
theorem ep_evB {b : Bool} (h : Ev te σ H (.bl b)) : EvP K te σ H (.bool b) := ep_ev h (.bl b)
theorem eps_nil : EvPs K tNil σ H [] := fun H1 _ _ q => q [] H1 (Ex.refl H1) .nil
theorem eps_cons {tr : TA} (h : EvP K te σ H d) (hr : EvPs K tr σ H ds) : EvPs K (tCons te tr) σ H (d :: ds) := fun H1 e _ q =>
  h H1 e _ fun v H2 e2 p => hr H2 (e.trans e2) _ fun vs H3 e3 ps => q _ H3 (e2.trans e3) (.cons (p.ex e3) ps)
theorem ep_tup {ta : TA} (h : EvPs K ta σ H ds) (hl : ds.length ≤ 100000) : EvP K (tTup ta) σ H (.tuple ds) := fun H1 e _ q =>
  h H1 e _ fun vs H2 e2 ps => ⟨by rw [ps.length]; exact sz_of hl, fun p hp => q _ _ (e2.trans (Ex.new hp)) (.tup (.inl upd_same) (ps.ex (Ex.new hp)))⟩
theorem el_tup {ta : TA} (h : EvPs K ta σ H ds) (hl : ds.length ≤ 100000) : EvPL K (tLst ta) σ H ds := fun H1 e _ q =>
  h H1 e _ fun vs H2 e2 ps => ⟨by rw [ps.length]; exact sz_of hl, fun p hp => q p vs _ (fresh_back e2 hp) (e2.trans (Ex.new hp)) upd_same (ps.ex (Ex.new hp))⟩
theorem ep_if {b : Bool} (h : EvT t σ H b) (h1 : b = true → EvP K ta σ H d) (h2 : b = false → EvP K tb σ H d) : EvP K (tIf t ta tb) σ H d := fun H1 e Q q => h H1 e _ fun H2 e2 => by
  cases b with
  | true =>
    show ta σ H2 Q
    exact h1 rfl H2 (e.trans e2) Q fun v H3 e3 p => q v H3 (e2.trans e3) p
  | false =>
    show tb σ H2 Q
    exact h2 rfl H2 (e.trans e2) Q fun v H3 e3 p => q v H3 (e2.trans e3) p
/-- a test whose answer the data tells -/
theorem et_eqD (ha : EvP K ta σ H d) (hb : EvP K tb σ H e) (s1 : SeqAt.shaped d = true) (s2 : SeqAt.shaped e = true) : Ev (tOp (rEqD K) ta tb) σ H (.bl (PyData.eqv d e)) := fun H1 x Q q =>
  ha H1 x _ fun v H2 e2 p => hb H2 (x.trans e2) _ fun u H3 e3 p2 => ⟨d, e, (p.ex e3).dp, p2.dp, s1, s2, q H3 (e2.trans e3)⟩
theorem et_neD (ha : EvP K ta σ H d) (hb : EvP K tb σ H e) (s1 : SeqAt.shaped d = true) (s2 : SeqAt.shaped e = true) : Ev (tOp (rNeD K) ta tb) σ H (.bl (!PyData.eqv d e)) := fun H1 x Q q =>
  ha H1 x _ fun v H2 e2 p => hb H2 (x.trans e2) _ fun u H3 e3 p2 => ⟨d, e, (p.ex e3).dp, p2.dp, s1, s2, q H3 (e2.trans e3)⟩
def isNone : PyData → Bool
  | .none => true
  | _ => false
theorem pv_isNone (h : PV K H v d) : decide (v = .non) = isNone d := by cases h <;> rfl
theorem et_isN (ha : EvP K ta σ H d) : Ev (tOp (fun x y H Q => y = .non ∧ Q (.bl (decide (x = .non))) H) ta (tC .non)) σ H (.bl (isNone d)) := fun H1 x Q q =>
  ha H1 x _ fun v H2 e2 p => ⟨rfl, by rw [pv_isNone p]; exact q H2 e2⟩
theorem et_notN (ha : EvP K ta σ H d) : Ev (tOp (fun x y H Q => y = .non ∧ Q (.bl (!decide (x = .non))) H) ta (tC .non)) σ H (.bl (!isNone d)) := fun H1 x Q q =>
  ha H1 x _ fun v H2 e2 p => ⟨rfl, by rw [pv_isNone p]; exact q H2 e2⟩
/-- t + u -/
theorem ep_cat (ha : EvP K ta σ H (.tuple ds)) (hb : EvP K tb σ H (.tuple es)) (hl : ds.length + es.length ≤ 100000) : EvP K (tOp (rCatA K) ta tb) σ H (.tuple (ds ++ es)) := fun H1 x Q q =>
  ha H1 x _ fun v H2 e2 p => hb H2 (x.trans e2) _ fun u H3 e3 p2 => by
    obtain ⟨a, xs, rfl, hx, px⟩ := pv_tup (p.ex e3)
    obtain ⟨b, ys, rfl, hy, py⟩ := pv_tup p2
    refine ⟨a, b, xs, ys, rfl, rfl, hx.sq, hy.sq, by rw [px.length, py.length]; exact sz_of hl, fun z => ?_, fun _ z => ?_, fun _ _ c hc => ?_⟩
    · subst z
      cases px
      exact q _ H3 (e2.trans e3) p2
    · subst z
      cases py
      refine q _ H3 (e2.trans e3) ?_
      rw [List.append_nil]
      exact .tup hx px
    · exact q _ _ ((e2.trans e3).trans (Ex.new hc)) (.tup (.inl upd_same) ((px.append py).ex (Ex.new hc)))
/-- t[i] -/
theorem ep_ixT {i : Nat} (ha : EvP K ta σ H (.tuple ds)) (hb : Ev tb σ H (.int (i : Int))) (hi : ds[i]? = some d) : EvP K (tOp (rIxT K) ta tb) σ H d := fun H1 x Q q =>
  ha H1 x _ fun v H2 e2 p => hb H2 (x.trans e2) _ fun H3 e3 => by
    obtain ⟨a, xs, rfl, hx, px⟩ := pv_tup (p.ex e3)
    obtain ⟨w, hw, pw⟩ := px.at hi
    exact ⟨a, xs, (i : Int), w, rfl, rfl, hx.sq, atI_nat hw, q w H3 (e2.trans e3) pw⟩
/-- xs[i], a list that stands -/
theorem ep_ixL {a : Addr} {xs : List V} {i : Nat} (ha : Ev ta σ H (.ref a)) (hx : SqL K H a xs) (px : PVs K H xs ds) (hb : Ev tb σ H (.int (i : Int))) (hi : ds[i]? = some d) : EvP K (tOp (rIxL K) ta tb) σ H d := fun H1 x Q q =>
  ha H1 x _ fun H2 e2 => hb H2 (x.trans e2) _ fun H3 e3 => by
    obtain ⟨w, hw, pw⟩ := px.at hi
    exact ⟨a, xs, (i : Int), w, rfl, rfl, ex_l ((x.trans e2).trans e3) hx, atI_nat hw, q w H3 (e2.trans e3) (pw.ex ((x.trans e2).trans e3))⟩
/-- what a pure def promises -/
def spP (K : PySem.W.Frag) (R : List PyData → PyData → Prop) : Sp := fun vs H Q _ => ∃ ds d, PVs K H vs ds ∧ R ds d ∧ ∀ v H', Ex H H' → PV K H' v d → Q v H'
theorem ep_call {R : List PyData → PyData → Prop} {E : XK} {ta : TA} (h : EvPs K ta σ H ds) (hR : R ds d) : EvP K (tCall (spP K R) [] E ta) σ H d := fun H1 e Q q =>
  h H1 e _ fun vs H2 e2 ps => ⟨ds, d, by rw [List.append_nil]; exact ps, hR, fun v H' e3 p => q v H' (e2.trans e3) p⟩
/-- tuple([..]) -/
theorem ep_tupleOf (h : EvPL K te σ H ds) : EvP K (tThen te (kTup K)) σ H (.tuple ds) := fun H1 e Q q =>
  h H1 e _ fun p vs H2 hp e2 hl ps => .inl ⟨p, vs, rfl, SqL.of hl, fun c hc => q _ _ (e2.trans (Ex.new hc)) (.tup (.inl upd_same) (ps.ex (Ex.new hc)))⟩
def upTo (n : Nat) : List Int := (List.range n).map fun (i : Nat) => (i : Int)
theorem upTo_length (n : Nat) : (upTo n).length = n := by simp [upTo]
theorem rgV_nat (n : Nat) : rgV 0 (n : Int) = (upTo n).map V.int := by
  unfold rgV upTo
  rw [List.map_map]
  simp
theorem ep_tupRg {n : Nat} (h : Ev te σ H (.int (n : Int))) (hn : n ≤ 100000) : EvP K (tTupRg (tRg1 te)) σ H (.tuple ((upTo n).map PyData.int)) := fun H1 e Q q =>
  h H1 e _ fun H2 e2 => ⟨(n : Int), rfl, ⟨by omega, by omega, by omega, by omega, by omega⟩, fun c hc => q _ _ (e2.trans (Ex.new hc)) (.tup (.inl upd_same) (by rw [rgV_nat]; exact PVs.ints _))⟩
theorem el_lstRg {n : Nat} (h : Ev te σ H (.int (n : Int))) (hn : n ≤ 100000) : EvPL K (tLstRg (tRg1 te)) σ H ((upTo n).map PyData.int) := fun H1 e Q q =>
  h H1 e _ fun H2 e2 => ⟨(n : Int), rfl, ⟨by omega, by omega, by omega, by omega, by omega⟩, fun c hc => q c _ _ (fresh_back e2 hc) (e2.trans (Ex.new hc)) upd_same (by rw [rgV_nat]; exact PVs.ints _)⟩

/-! ### comprehensions without a test -/
def Cv (K : PySem.W.Frag) (H : Hp) (F : List PyData) (Dl : Addr) (i : Nat) (H' : Hp) : Prop := H Dl = none ∧ Ex H H' ∧ ∃ vs, H' Dl = some (.lst vs) ∧ PVs K H' vs (F.take i)
theorem cv0 {F : List PyData} {Dl : Addr} (h : H Dl = none) : Cv K H F Dl 0 (upd H Dl (.lst [])) := ⟨h, Ex.new h, [], upd_same, .nil⟩
theorem cv_turn {F : List PyData} {Dl : Addr} {i : Nat} {σ2 : L2.St} (p : Cv K H F Dl i H') (hl : F.length ≤ 50000) (hi : F[i]? = some d) (he : EvP K te σ2 H' d) :
    tYes σ2 H' fun b H3 => if b = true then te σ2 H3 fun y H4 => ∃ acc, H4 Dl = some (.lst acc) ∧ acc.length < sizeLine ∧ Cv K H F Dl (i + 1) (upd H4 Dl (.lst (acc ++ [y]))) else Cv K H F Dl (i + 1) H3 := by
  obtain ⟨p1, p2, vs, p3, p4⟩ := p
  show te σ2 H' fun y H4 => ∃ acc, H4 Dl = some (.lst acc) ∧ acc.length < sizeLine ∧ Cv K H F Dl (i + 1) (upd H4 Dl (.lst (acc ++ [y])))
  refine he H' (Ex.refl H') _ fun v H4 e4 pv => ⟨vs, e4 Dl _ p3, ?_, p1, Ex.mut (p2.trans e4) p1, vs ++ [v], upd_same, ?_⟩
  · have h1 := p4.length
    rw [List.length_take] at h1
    exact sz_lt (by omega)
  · rw [List.take_add_one, hi]
    exact (((p4.ex e4).append (PVs.one pv))).tx (Tx.updL (e4 Dl _ p3))
/-- over range(n) -/
theorem el_lcR {ta : TA} {j : Nat} {vs : List Nat} {n : Nat} (F : Nat → PyData) (h : EvPs K ta σ H [.int (n : Int)]) (hn : n ≤ 40000) (hw : ∀ x, wipe ((wipe σ vs).set j (some x)) vs = wipe σ vs)
    (he : ∀ (i : Nat) H1, Ex H H1 → i < n → EvP K te ((wipe σ vs).set j (some (.int (i : Int)))) H1 (F i)) : EvPL K (tLc (iRng1 ta) (gName j) tYes te vs) σ H ((List.range n).map F) := fun H0 e Q q => h H0 e _ fun us H1 e1 pu => by
  cases pu with
  | cons a b =>
    cases a
    cases b
    refine ⟨(n : Int), rfl, by omega, by omega, fun Dl hD => ?_⟩
    refine lc_range (lo := 0) (n := n) (Cv K H1 ((List.range n).map F) Dl) (cv0 hD) (fun i H' hi p => ?_) (fun H' p => ?_)
    · have e0 : (0 : Int) + (i : Int) = (i : Int) := Int.zero_add _
      rw [e0]
      refine ⟨hw _, cv_turn p (by simp; omega) (d := F i) ?_ (he i H' ((e.trans e1).trans p.2.1) hi)⟩
      simp [hi]
    · obtain ⟨p1, p2, vs', p3, p4⟩ := p
      refine q Dl vs' H' (fresh_back e1 p1) (e1.trans p2) p3 ?_
      rw [List.take_of_length_le (by simp)] at p4
      exact p4
/-- over a list that stands; g any target -/
theorem el_lcL {a : Addr} {xs : List V} {tl : TE} {g : TG} {vs : List Nat} (S : V → L2.St) (F : List PyData) (h : Ev tl σ H (.ref a)) (hx : SqL K H a xs) (hF : F.length = xs.length) (hz : xs.length ≤ 40000)
    (he : ∀ (i : Nat) (x : V) (d : PyData) H1, Ex H H1 → xs[i]? = some x → F[i]? = some d → ∀ Q : L2.St → Hp → Prop, (∀ σ2 H2, Ex H1 H2 → wipe σ2 vs = wipe σ vs → EvP K te σ2 H2 d → Q σ2 H2) → g x (wipe σ vs) H1 Q) : EvPL K (tLc (iList K tl) g tYes te vs) σ H F := fun H0 e Q q => h H0 e _ fun H1 e1 =>
  ⟨a, rfl, ⟨xs, ex_l (e.trans e1) hx⟩, fun Dl hD => lc_list (xs := xs) (Cv K H1 F Dl) (cv0 hD) (fun i H' _ p => ex_l ((e.trans e1).trans p.2.1) hx) (fun i x H' hi p => by
    obtain ⟨d, hd⟩ : ∃ d, F[i]? = some d := ⟨_, List.getElem?_eq_getElem (by rw [hF]; exact (List.getElem?_eq_some_iff.mp hi).1)⟩
    refine he i x d H' ((e.trans e1).trans p.2.1) hi hd _ fun σ2 H2 e2 hw ev => ⟨hw, ?_⟩
    obtain ⟨p1, p2, ws, p3, p4⟩ := p
    exact cv_turn ⟨p1, p2.trans e2, ws, e2 Dl _ p3, p4.ex e2⟩ (by omega) hd ev) (fun H' p => by
    obtain ⟨p1, p2, ws, p3, p4⟩ := p
    refine q Dl ws H' (fresh_back e1 p1) (e1.trans p2) p3 ?_
    rw [List.take_of_length_le (by omega)] at p4
    exact p4)⟩
theorem el_lcT {tl : TE} {g : TG} {vs : List Nat} (F : List PyData) (h : EvP K tl σ H (.tuple ds)) (hF : F.length = ds.length) (hz : ds.length ≤ 40000)
    (he : ∀ (i : Nat) (x : V) (c d : PyData) H1, Ex H H1 → ds[i]? = some c → PV K H1 x c → F[i]? = some d → ∀ Q : L2.St → Hp → Prop, (∀ σ2 H2, Ex H1 H2 → wipe σ2 vs = wipe σ vs → EvP K te σ2 H2 d → Q σ2 H2) → g x (wipe σ vs) H1 Q) : EvPL K (tLc (iTup K tl) g tYes te vs) σ H F := fun H0 e Q q => h H0 e _ fun v H1 e1 pv => by
  obtain ⟨a, xs, rfl, hx, px⟩ := pv_tup pv
  have hl := px.length
  refine ⟨a, rfl, ⟨xs, hx.sq⟩, fun Dl hD => lc_tup (xs := xs) (Cv K H1 F Dl) (cv0 hD) (fun i H' _ p => (hx.tx (tx_of p.2.1)).sq) (fun i x H' hi p => ?_) (fun H' p => ?_)⟩
  · obtain ⟨d, hd⟩ : ∃ d, F[i]? = some d := ⟨_, List.getElem?_eq_getElem (by rw [hF, ← hl]; exact (List.getElem?_eq_some_iff.mp hi).1)⟩
    obtain ⟨c, hc, pc⟩ := px.get hi
    refine he i x c d H' ((e.trans e1).trans p.2.1) hc (pc.ex p.2.1) hd _ fun σ2 H2 e2 hw ev => ⟨hw, ?_⟩
    obtain ⟨p1, p2, ws, p3, p4⟩ := p
    exact cv_turn ⟨p1, p2.trans e2, ws, e2 Dl _ p3, p4.ex e2⟩ (by omega) hd ev
  · obtain ⟨p1, p2, ws, p3, p4⟩ := p
    refine q Dl ws H' (fresh_back e1 p1) (e1.trans p2) p3 ?_
    rw [List.take_of_length_le (by omega)] at p4
    exact p4

/-! ### statements -/
variable {D : Ends} {tu tw tz : TS}
theorem s_asgP {i : Nat} (h : EvP K te σ H d) (k : ∀ v H1, Ex H H1 → PV K H1 v d → D.nx (σ.set i (some v)) H1) : tAsg te (gName i) D σ H := h H (Ex.refl H) _ fun v H1 e p => k v H1 e p
theorem q_asgP {i : Nat} (h : EvP K te σ H d) (k : ∀ v H1, Ex H H1 → PV K H1 v d → tz D (σ.set i (some v)) H1) : tSeq (tAsg te (gName i)) tz D σ H := s_asgP (D := { D with nx := tz D }) h k
theorem s_retP (h : EvP K te σ H d) (k : ∀ v H1, Ex H H1 → PV K H1 v d → D.rt v H1) : tRet te D σ H := h H (Ex.refl H) _ k
theorem s_asgPL {i : Nat} (h : EvPL K te σ H ds) (k : ∀ p vs H1, H p = none → Ex H H1 → H1 p = some (.lst vs) → PVs K H1 vs ds → D.nx (σ.set i (some (.ref p))) H1) : tAsg te (gName i) D σ H := h H (Ex.refl H) _ fun p vs H1 hp e h1 ps => k p vs H1 hp e h1 ps
theorem q_asgPL {i : Nat} (h : EvPL K te σ H ds) (k : ∀ p vs H1, H p = none → Ex H H1 → H1 p = some (.lst vs) → PVs K H1 vs ds → tz D (σ.set i (some (.ref p))) H1) : tSeq (tAsg te (gName i)) tz D σ H := s_asgPL (D := { D with nx := tz D }) h k
theorem s_retPL (h : EvPL K te σ H ds) (k : ∀ p vs H1, H p = none → Ex H H1 → H1 p = some (.lst vs) → PVs K H1 vs ds → D.rt (.ref p) H1) : tRet te D σ H := h H (Ex.refl H) _ k
/-- for x in t -/
theorem s_forTP {tl : TE} {g : TG} (h : EvP K tl σ H (.tuple ds)) (Pv : Hp → Nat → L2.St → Hp → Prop) (h0 : ∀ H1, Ex H H1 → Pv H1 0 σ H1) (hT : ∀ H1 i σ' H', Pv H1 i σ' H' → Tx H1 H')
    (hs : ∀ H1 i x d σ' H', Ex H H1 → ds[i]? = some d → PV K H' x d → Pv H1 i σ' H' → g x σ' H' fun σ2 H2 => tu { D with nx := Pv H1 (i + 1), ct := Pv H1 (i + 1), bk := D.nx } σ2 H2) (hd : ∀ H1 σ' H', Ex H H1 → Pv H1 ds.length σ' H' → D.nx σ' H') : tFor (iTup K tl) g tu D σ H :=
  h H (Ex.refl H) _ fun v H1 e pv => by
    obtain ⟨a, xs, rfl, hx, px⟩ := pv_tup pv
    refine ⟨a, rfl, ⟨xs, hx.sq⟩, for_tup (Pv H1) (h0 H1 e) (fun i σ' H' _ p => (hx.tx (hT H1 i σ' H' p)).sq) (fun i x σ' H' hi p => ?_) (fun σ' H' p => hd H1 σ' H' e (by rw [← px.length]; exact p))⟩
    obtain ⟨d, hd, pd⟩ := px.get hi
    exact hs H1 i x d σ' H' e hd (pd.tx (hT H1 i σ' H' p)) p
theorem q_forTP {tl : TE} {g : TG} (h : EvP K tl σ H (.tuple ds)) (Pv : Hp → Nat → L2.St → Hp → Prop) (h0 : ∀ H1, Ex H H1 → Pv H1 0 σ H1) (hT : ∀ H1 i σ' H', Pv H1 i σ' H' → Tx H1 H')
    (hs : ∀ H1 i x d σ' H', Ex H H1 → ds[i]? = some d → PV K H' x d → Pv H1 i σ' H' → g x σ' H' fun σ2 H2 => tu { D with nx := Pv H1 (i + 1), ct := Pv H1 (i + 1), bk := tz D } σ2 H2) (hd : ∀ H1 σ' H', Ex H H1 → Pv H1 ds.length σ' H' → tz D σ' H') : tSeq (tFor (iTup K tl) g tu) tz D σ H :=
  s_forTP (D := { D with nx := tz D }) h Pv h0 hT hs hd
/-- a, b, c = t: the target of a tuple of data -/
theorem g_tup3 {i j k : Nat} {Q : L2.St → Hp → Prop} {d1 d2 d3 : PyData} (h : PV K H v (.tuple [d1, d2, d3])) (q : ∀ v1 v2 v3, PV K H v1 d1 → PV K H v2 d2 → PV K H v3 d3 → Q (((σ.set i (some v1)).set j (some v2)).set k (some v3)) H) :
    gTup K 3 (gCons (gName i) (gCons (gName j) (gCons (gName k) gNil))) v σ H Q := by
  obtain ⟨a, xs, rfl, hx, px⟩ := pv_tup h
  cases px with
  | cons p1 px => cases px with
    | cons p2 px => cases px with
      | cons p3 px =>
        cases px
        exact ⟨a, _, rfl, hx.sq, rfl, _, _, rfl, _, _, rfl, _, _, rfl, rfl, q _ _ _ p1 p2 p3⟩
theorem g_tup2 {i j : Nat} {Q : L2.St → Hp → Prop} {d1 d2 : PyData} (h : PV K H v (.tuple [d1, d2])) (q : ∀ v1 v2, PV K H v1 d1 → PV K H v2 d2 → Q ((σ.set i (some v1)).set j (some v2)) H) :
    gTup K 2 (gCons (gName i) (gCons (gName j) gNil)) v σ H Q := by
  obtain ⟨a, xs, rfl, hx, px⟩ := pv_tup h
  cases px with
  | cons p1 px => cases px with
    | cons p2 px =>
      cases px
      exact ⟨a, _, rfl, hx.sq, rfl, _, _, rfl, _, _, rfl, rfl, q _ _ p1 p2⟩
/-- [.. for a, b in zip(t, u)], two tuples of one length -/
theorem el_lcZ {tz : TA} {i j : Nat} {vs : List Nat} (F : List PyData) (h : EvPs K tz σ H [.tuple ds, .tuple es]) (hl : ds.length = es.length) (hF : F.length = ds.length) (hz : ds.length ≤ 40000) (hw : ∀ x y, wipe (((wipe σ vs).set i (some x)).set j (some y)) vs = wipe σ vs)
    (he : ∀ (k : Nat) (x y : V) (c c' d : PyData) H1, Ex H H1 → ds[k]? = some c → es[k]? = some c' → F[k]? = some d → PV K H1 x c → PV K H1 y c' → EvP K te (((wipe σ vs).set i (some x)).set j (some y)) H1 d) :
    EvPL K (tLc (RZ.iZipA K tz) (gTup K 2 (gCons (gName i) (gCons (gName j) gNil))) tYes te vs) σ H F := fun H0 e Q q => h H0 e _ fun us H1 e1 pu => by
  cases pu with
  | cons pa pu => cases pu with
    | cons pb pu =>
      cases pu
      obtain ⟨a, xs, rfl, hx, px⟩ := pv_tup pa
      obtain ⟨b, ys, rfl, hy, py⟩ := pv_tup pb
      have lx := px.length
      have ly := py.length
      refine ⟨a, b, xs, ys, rfl, .inr ⟨hx.sq, hy.sq, fun Dl hD => ?_⟩⟩
      refine ⟨fun i m H => m = xs.length - i ∧ i ≤ xs.length ∧ Cv K H1 F Dl i H, ⟨xs.length, by simp, Nat.zero_le _, cv0 hD⟩, ?_⟩
      rintro k m H' ⟨rfl, hk, p⟩
      have ex := p.2.1
      by_cases hlt : k < xs.length
      · have gx : xs[k]? = some xs[k] := List.getElem?_eq_getElem hlt
        have hlt2 : k < ys.length := by omega
        have gy : ys[k]? = some ys[k] := List.getElem?_eq_getElem hlt2
        refine .inr ⟨⟨xs, ys, _, _, (hx.tx (tx_of ex)).sq, (hy.tx (tx_of ex)).sq, gx, gy⟩, Cv K H1 F Dl (k + 1), fun H' p' => ⟨xs.length - (k + 1), by omega, rfl, hlt, p'⟩, fun v H'' yl => ?_⟩
        obtain ⟨T, x', y', rfl, hT, rfl, f1, f2⟩ := yl
        have hx' := f1 xs (hx.tx (tx_of ex)).sq
        have hy' := f2 ys (hy.tx (tx_of ex)).sq
        obtain ⟨c, hc, pc⟩ := px.get hx'
        obtain ⟨c', hc', pc'⟩ := py.get hy'
        obtain ⟨d, hd⟩ : ∃ d, F[k]? = some d := ⟨_, List.getElem?_eq_getElem (by omega)⟩
        have eT : Ex H' (upd H' T (.tup [x', y'])) := Ex.new hT
        refine ⟨T, [x', y'], rfl, .inl (.inl upd_same), rfl, x', [y'], rfl, y', [], rfl, rfl, hw _ _, ?_⟩
        obtain ⟨p1, p2, ws, p3, p4⟩ := p
        exact cv_turn ⟨p1, p2.trans eT, ws, eT Dl _ p3, p4.ex eT⟩ (by omega) hd (he k x' y' c c' d _ ((e.trans e1).trans (p2.trans eT)) hc hc' hd (pc.ex (p2.trans eT)) (pc'.ex (p2.trans eT)))
      · have e2 : k = xs.length := by omega
        subst e2
        obtain ⟨p1, p2, ws, p3, p4⟩ := p
        refine .inl ⟨⟨xs, ys, (hx.tx (tx_of p2)).sq, (hy.tx (tx_of p2)).sq, Or.inl (Nat.le_refl _)⟩, q Dl ws H' (fresh_back e1 p1) (e1.trans p2) p3 ?_⟩
        rw [List.take_of_length_le (by omega)] at p4
        exact p4
end
/-! ### equality of data without bools -/
mutual
def nob : PyData → Bool
  | .bool _ => false
  | .dict _ => false
  | .list xs => nobs xs
  | .tuple xs => nobs xs
  | .none => true
  | .int _ => true
  | .str _ => true
def nobs : List PyData → Bool
  | [] => true
  | d :: r => nob d && nobs r
end
mutual
theorem eqv_iff : ∀ d e : PyData, nob d = true → nob e = true → (PyData.eqv d e = true ↔ d = e)
  | .none, e, _, he => by cases e <;> simp [PyData.eqv]
  | .bool b, e, hd, he => by simp [nob] at hd
  | .dict b, e, hd, he => by simp [nob] at hd
  | .int i, e, hd, he => by cases e <;> simp [PyData.eqv] <;> simp [nob] at he
  | .str i, e, hd, he => by cases e <;> simp [PyData.eqv]
  | .list xs, e, hd, he => by
    cases e with
    | list ys =>
      rw [PyData.eqv, eqvs_iff xs ys (by simpa [nob] using hd) (by simpa [nob] using he)]
      simp
    | _ => simp [PyData.eqv]
  | .tuple xs, e, hd, he => by
    cases e with
    | tuple ys =>
      rw [PyData.eqv, eqvs_iff xs ys (by simpa [nob] using hd) (by simpa [nob] using he)]
      simp
    | _ => simp [PyData.eqv]
theorem eqvs_iff : ∀ xs ys : List PyData, nobs xs = true → nobs ys = true → (PyData.eqvAll xs ys = true ↔ xs = ys)
  | [], [], _, _ => by simp [PyData.eqvAll]
  | [], y :: ys, _, _ => by simp [PyData.eqvAll]
  | x :: xs, [], _, _ => by simp [PyData.eqvAll]
  | x :: xs, y :: ys, hx, hy => by
    simp only [nobs, Bool.and_eq_true] at hx hy
    rw [PyData.eqvAll, Bool.and_eq_true, eqv_iff x y hx.1 hy.1, eqvs_iff xs ys hx.2 hy.2]
    simp
end
theorem nobs_map {α : Type} (f : α → PyData) (h : ∀ a, nob (f a) = true) : ∀ l : List α, nobs (l.map f) = true
  | [] => rfl
  | a :: l => by
    rw [List.map_cons, nobs, h a, nobs_map f h l]
    rfl
theorem canAll_map {α : Type} (f : α → PyData) (h : ∀ a, PyData.canLay0 (f a) = true) : ∀ l : List α, PyData.canLayAll0 (l.map f) = true
  | [] => by simp [PyData.canLayAll0]
  | a :: l => by
    rw [List.map_cons, PyData.canLayAll0, h a, canAll_map f h l]
    rfl
theorem depthAll_map {α : Type} (f : α → PyData) (n : Nat) (h : ∀ a, (f a).depth ≤ n) : ∀ l : List α, PyData.depthAll (l.map f) ≤ n
  | [] => by simp [PyData.depthAll]
  | a :: l => by
    rw [List.map_cons, PyData.depthAll]
    exact Nat.max_le.mpr ⟨h a, depthAll_map f n h l⟩
theorem shaped_of {d : PyData} (h : d.canLay0 = true) (k : d.depth ≤ 64) : SeqAt.shaped d = true := by
  unfold SeqAt.shaped
  rw [h, decide_eq_true k]
  rfl
theorem eqv_dec {d e : PyData} {p : Prop} [Decidable p] (hd : nob d = true) (he : nob e = true) (h : d = e ↔ p) : PyData.eqv d e = decide p := by
  rw [Bool.eq_iff_iff, eqv_iff d e hd he, h]
  simp
end Pd

/-! Law k34: rows of operators, their words and tables, the search. Plain Lean. -/
namespace K34
open PySem

inductive Op where
  | add | sub | mul | div | and | or | xor | shl | shr | lt | slt | eq
  deriving DecidableEq
def Op.s : Op → Str
  | .add => "add" | .sub => "sub" | .mul => "mul" | .div => "div" | .and => "and" | .or => "or" | .xor => "xor"
  | .shl => "shl" | .shr => "shr" | .lt => "lt" | .slt => "slt" | .eq => "eq"
def Op.ok : Op → Bool
  | .div => false | .slt => false | _ => true
def Op.all : List Op := [.add, .sub, .mul, .div, .and, .or, .xor, .shl, .shr, .lt, .slt, .eq]
theorem Op.mem (o : Op) : o ∈ Op.all := by cases o <;> decide
theorem Op.s_inj0 : (Op.all.all fun a => Op.all.all fun b => decide (a.s = b.s) == decide (a = b)) = true := by decide +kernel
theorem Op.s_dec (a b : Op) : decide (a.s = b.s) = decide (a = b) := by
  have h := List.all_eq_true.mp (List.all_eq_true.mp Op.s_inj0 a (Op.mem a)) b (Op.mem b)
  exact eq_of_beq h
theorem Op.s_inj {a b : Op} (h : a.s = b.s) : a = b := by
  have := Op.s_dec a b
  rw [decide_eq_true h] at this
  exact of_decide_eq_true this.symm
/-- the word of two words -/
def opW (w : Nat) : Op → Nat → Nat → Nat
  | .add, a, b => (a + b) % 2 ^ w
  | .sub, a, b => (a + 2 ^ w - b) % 2 ^ w
  | .mul, a, b => a * b % 2 ^ w
  | .div, a, b => if b = 0 then 0 else a / b
  | .and, a, b => a &&& b
  | .or, a, b => a ||| b
  | .xor, a, b => a ^^^ b
  | .shl, a, b => if b ≥ w then 0 else a * 2 ^ b % 2 ^ w
  | .shr, a, b => if b ≥ w then 0 else a / 2 ^ b
  | .lt, a, b => if a < b then 1 else 0
  | .slt, _, _ => 0
  | .eq, a, b => if a = b then 1 else 0
abbrev W2 (w : Nat) : Prop := w = 2 ∨ w = 3
theorem pow_pos2 (w : Nat) : 0 < 2 ^ w := Nat.pos_of_ne_zero (by simp)
theorem opW_lt {w : Nat} (hw : W2 w) {o : Op} (ho : o.ok = true) {a b : Nat} (ha : a < 2 ^ w) (hb : b < 2 ^ w) : opW w o a b < 2 ^ w := by
  have hp := pow_pos2 w
  have one : 1 < 2 ^ w := by rcases hw with rfl | rfl <;> decide
  cases o <;> simp only [opW] <;> try (exact Nat.mod_lt _ hp)
  · split
    · exact hp
    · exact Nat.lt_of_le_of_lt (Nat.div_le_self _ _) ha
  · exact Nat.and_lt_two_pow _ hb
  · exact Nat.or_lt_two_pow ha hb
  · exact Nat.xor_lt_two_pow ha hb
  · split
    · exact hp
    · exact Nat.mod_lt _ hp
  · split
    · exact hp
    · exact Nat.lt_of_le_of_lt (Nat.div_le_self _ _) ha
  · split <;> omega
  · exact hp
  · split <;> omega

inductive Part where
  | x | n (i : Nat) | j (k : Nat)
  deriving DecidableEq
abbrev Tri := Op × Part × Part
abbrev Row := List Tri
def pw (w : Nat) (p : Part) (x : Nat) (done : List Nat) : Nat := match p with
  | .x => x
  | .n i => i % 2 ^ w
  | .j k => done.getD k 0
def step (w x : Nat) (done : List Nat) (t : Tri) : List Nat := done ++ [opW w t.1 (pw w t.2.1 x done) (pw w t.2.2 x done)]
def doneOf (w x : Nat) (row : Row) : List Nat := row.foldl (step w x) []
def rowW (w : Nat) (row : Row) (x : Nat) : Nat := (doneOf w x row).getLast?.getD x
def tabW (w : Nat) (row : Row) : List Nat := (List.range (2 ^ w)).map (rowW w row)
def Part.ok (k : Nat) : Part → Prop
  | .j i => i < k
  | _ => True
def Tri.okAt (k : Nat) (t : Tri) : Prop := t.1.ok = true ∧ t.2.1.ok k ∧ t.2.2.ok k
def RowOk (row : Row) : Prop := ∀ k t, row[k]? = some t → Tri.okAt k t
theorem foldl_step_len (w x : Nat) : ∀ (row : Row) (d : List Nat), (row.foldl (step w x) d).length = d.length + row.length
  | [], d => by simp
  | t :: r, d => by
    rw [List.foldl_cons, foldl_step_len w x r]
    simp [step]
    omega
theorem doneOf_len (w x : Nat) (row : Row) : (doneOf w x row).length = row.length := by
  unfold doneOf
  rw [foldl_step_len]
  simp
theorem doneOf_snoc (w x : Nat) (row : Row) (t : Tri) : doneOf w x (row ++ [t]) = step w x (doneOf w x row) t := by
  unfold doneOf
  rw [List.foldl_append]
  rfl
theorem rowW_snoc (w x : Nat) (row : Row) (t : Tri) : rowW w (row ++ [t]) x = opW w t.1 (pw w t.2.1 x (doneOf w x row)) (pw w t.2.2 x (doneOf w x row)) := by
  unfold rowW
  rw [doneOf_snoc]
  simp [step]
theorem pw_lt {w x : Nat} {p : Part} {done : List Nat} (hx : x < 2 ^ w) (hd : ∀ v ∈ done, v < 2 ^ w) : pw w p x done < 2 ^ w := by
  cases p with
  | x => exact hx
  | n i => exact Nat.mod_lt _ (pow_pos2 w)
  | j k =>
    show done.getD k 0 < 2 ^ w
    by_cases h : k < done.length
    · rw [List.getD_eq_getElem?_getD, List.getElem?_eq_getElem h]
      exact hd _ (List.getElem_mem h)
    · rw [List.getD_eq_getElem?_getD, List.getElem?_eq_none (by omega)]
      exact pow_pos2 w
theorem take_succ_row {row : Row} {k : Nat} {t : Tri} (h : row[k]? = some t) : row.take (k + 1) = row.take k ++ [t] := by
  rw [List.take_add_one, h]
  rfl
theorem RowOk.take {row : Row} (h : RowOk row) (k : Nat) : RowOk (row.take k) := fun i t e => by
  rw [List.getElem?_take] at e
  split at e
  · exact h i t e
  · cases e
theorem RowOk.snoc {row : Row} {t : Tri} (h : RowOk row) (ht : Tri.okAt row.length t) : RowOk (row ++ [t]) := fun i u e => by
  by_cases hi : i < row.length
  · rw [List.getElem?_append_left hi] at e
    exact h i u e
  · rw [List.getElem?_append_right (by omega)] at e
    have : i - row.length = 0 := by
      cases q : i - row.length with
      | zero => rfl
      | succ n => rw [q] at e; cases e
    rw [this] at e
    cases e
    have : i = row.length := by omega
    rw [this]
    exact ht
theorem RowOk.nil : RowOk [] := fun i t e => by cases e
theorem RowOk.init {row : Row} {t : Tri} (h : RowOk (row ++ [t])) : RowOk row := fun i u e => h i u (by
  rw [List.getElem?_append_left (List.getElem?_eq_some_iff.mp e).1]
  exact e)
theorem done_lt {w x : Nat} (hw : W2 w) (hx : x < 2 ^ w) : ∀ (row : Row), (∀ t ∈ row, t.1.ok = true) → ∀ (d : List Nat), (∀ v ∈ d, v < 2 ^ w) → ∀ v ∈ row.foldl (step w x) d, v < 2 ^ w
  | [], _, d, hd => hd
  | t :: r, h, d, hd => by
    rw [List.foldl_cons]
    refine done_lt hw hx r (fun u hu => h u (List.mem_cons_of_mem _ hu)) _ fun v hv => ?_
    rcases List.mem_append.mp hv with q | q
    · exact hd v q
    · rw [List.mem_singleton.mp q]
      exact opW_lt hw (h t List.mem_cons_self) (pw_lt hx hd) (pw_lt hx hd)
theorem RowOk.ops {row : Row} (h : RowOk row) : ∀ t ∈ row, t.1.ok = true := fun t ht => by
  obtain ⟨i, hi⟩ := List.mem_iff_getElem?.mp ht
  exact (h i t hi).1
theorem doneOf_lt {w x : Nat} (hw : W2 w) (hx : x < 2 ^ w) {row : Row} (h : RowOk row) : ∀ v ∈ doneOf w x row, v < 2 ^ w :=
  done_lt hw hx row h.ops [] (fun v hv => by cases hv)
theorem rowW_lt {w x : Nat} (hw : W2 w) (hx : x < 2 ^ w) {row : Row} (h : RowOk row) : rowW w row x < 2 ^ w := by
  unfold rowW
  cases e : (doneOf w x row).getLast? with
  | none => exact hx
  | some v => exact doneOf_lt hw hx h v (List.mem_of_getLast? e)

/-! ### data -/
def natD (n : Nat) : PyData := .int (n : Int)
def tabD (t : List Nat) : PyData := .tuple (t.map natD)
def Part.d : Part → PyData
  | .x => .str "x"
  | .n i => .tuple [.str "n", .int (i : Int)]
  | .j k => .int (k : Int)
def triD (t : Tri) : PyData := .tuple [.str t.1.s, t.2.1.d, t.2.2.d]
def rowD (r : Row) : PyData := .tuple (r.map triD)
def optD : Option Row → PyData
  | none => .none
  | some r => rowD r

/-! ### the order of triples, the search -/
def parts (nums : List Nat) (many : Nat) : List Part := .x :: (nums.map Part.n ++ (List.range many).map Part.j)
def triples (ops : List Op) (nums : List Nat) (many : Nat) : List Tri := ops.flatMap fun o => (parts nums many).flatMap fun p => (parts nums many).map fun q => (o, p, q)
def longer (ops : List Op) (nums : List Nat) (rows : List Row) : List Row := rows.flatMap fun r => (triples ops nums r.length).map fun t => r ++ [t]
/-- the least row that has a table, of at most `most` triples -/
def search (w : Nat) (tab : List Nat) (ops : List Op) (nums : List Nat) : Nat → List Row → Option Row
  | 0, _ => none
  | k + 1, rows => match (longer ops nums rows).find? fun r => tabW w r == tab with
    | some r => some r
    | none => search w tab ops nums k (longer ops nums rows)
def shortest (w : Nat) (tab : List Nat) (ops : List Op) (nums : List Nat) (most : Nat) : Option Row :=
  if tab = List.range (2 ^ w) then some [] else search w tab ops nums most [[]]
def timesTab (w n : Nat) : List Nat := (List.range (2 ^ w)).map fun x => n * x % 2 ^ w
def times (w n : Nat) : Option Row := shortest w (timesTab w n) [.add, .sub, .shl] (List.range w) 3

theorem parts_ok {nums : List Nat} {many : Nat} {p : Part} (h : p ∈ parts nums many) : p.ok many := by
  unfold parts at h
  simp only [List.mem_cons, List.mem_append, List.mem_map, List.mem_range] at h
  rcases h with rfl | ⟨i, _, rfl⟩ | ⟨i, hi, rfl⟩
  · trivial
  · trivial
  · exact hi
theorem triples_ok {ops : List Op} {nums : List Nat} {many : Nat} {t : Tri} (ho : ∀ o ∈ ops, o.ok = true) (h : t ∈ triples ops nums many) : Tri.okAt many t := by
  unfold triples at h
  simp only [List.mem_flatMap, List.mem_map] at h
  obtain ⟨o, h1, p, h2, q, h3, rfl⟩ := h
  exact ⟨ho o h1, parts_ok h2, parts_ok h3⟩
theorem longer_ok {ops : List Op} {nums : List Nat} {rows : List Row} {n : Nat} (ho : ∀ o ∈ ops, o.ok = true) (h : ∀ r ∈ rows, RowOk r ∧ r.length = n) : ∀ r ∈ longer ops nums rows, RowOk r ∧ r.length = n + 1 := fun r hr => by
  unfold longer at hr
  simp only [List.mem_flatMap, List.mem_map] at hr
  obtain ⟨r0, h0, t, ht, rfl⟩ := hr
  obtain ⟨a, b⟩ := h r0 h0
  exact ⟨a.snoc (triples_ok ho ht), by simp [b]⟩
theorem search_ok {w : Nat} {tab : List Nat} {ops : List Op} {nums : List Nat} (ho : ∀ o ∈ ops, o.ok = true) : ∀ (k n : Nat) (rows : List Row) (r : Row), (∀ r ∈ rows, RowOk r ∧ r.length = n) → search w tab ops nums k rows = some r → RowOk r ∧ tabW w r = tab ∧ r.length ≤ n + k
  | 0, _, _, _, _, h => by cases h
  | k + 1, n, rows, r, hr, h => by
    unfold search at h
    split at h
    · rename_i r' e
      cases h
      have h1 := List.find?_some e
      obtain ⟨a, b⟩ := longer_ok (nums := nums) ho hr r (List.mem_of_find?_eq_some e)
      exact ⟨a, eq_of_beq h1, by omega⟩
    · obtain ⟨a, b, c⟩ := search_ok ho k (n + 1) _ r (longer_ok ho hr) h
      exact ⟨a, b, by omega⟩
theorem tabW_nil (w : Nat) : tabW w [] = List.range (2 ^ w) := by
  unfold tabW
  rw [show rowW w [] = id from rfl]
  simp
theorem shortest_ok {w : Nat} {tab : List Nat} {ops : List Op} {nums : List Nat} {most : Nat} {r : Row} (ho : ∀ o ∈ ops, o.ok = true) (h : shortest w tab ops nums most = some r) : RowOk r ∧ tabW w r = tab ∧ r.length ≤ most := by
  unfold shortest at h
  split at h
  · rename_i e
    cases h
    exact ⟨RowOk.nil, by rw [tabW_nil, e], Nat.zero_le _⟩
  · obtain ⟨a, b, c⟩ := search_ok ho most 0 [[]] r (fun r hr => by
      rw [List.mem_singleton.mp hr]
      exact ⟨RowOk.nil, rfl⟩) h
    exact ⟨a, b, by omega⟩
/-- what one more triple gives -/
theorem search_one {w : Nat} {tab : List Nat} {ops : List Op} {nums : List Nat} {k : Nat} {rows : List Row} {r : Row} (h : (longer ops nums rows).find? (fun r => tabW w r == tab) = some r) : search w tab ops nums (k + 1) rows = some r := by
  unfold search
  rw [h]
theorem times_best {w n : Nat} {r : Row} (h : shortest w (timesTab w n) [.add, .sub, .shl] (List.range w) 1 = some r) : times w n = some r := by
  unfold times
  unfold shortest at h ⊢
  split at h
  · rename_i e
    rw [if_pos e]
    exact h
  · rename_i e
    rw [if_neg e]
    unfold search at h ⊢
    split at h
    · exact h
    · cases h
end K34

namespace K34
open PySem L2 Pd
theorem natD_inj {a b : Nat} (h : natD a = natD b) : a = b := by
  have := PyData.int.inj h
  omega
theorem map_inj {α β : Type} {f : α → β} (hf : ∀ a b, f a = f b → a = b) : ∀ {l m : List α}, l.map f = m.map f → l = m
  | [], [], _ => rfl
  | [], b :: m, h => by cases h
  | a :: l, [], h => by cases h
  | a :: l, b :: m, h => by
    rw [List.map_cons, List.map_cons] at h
    have h1 := (List.cons.inj h).1
    have h2 := (List.cons.inj h).2
    rw [hf a b h1, map_inj hf h2]
theorem tabD_inj {s t : List Nat} (h : tabD s = tabD t) : s = t := map_inj (fun a b => natD_inj) (PyData.tuple.inj h)
theorem partD_inj {p q : Part} (h : p.d = q.d) : p = q := by
  cases p <;> cases q <;> simp [Part.d] at h <;> first | rfl | (congr 1; omega) | skip
theorem triD_inj {s t : Tri} (h : triD s = triD t) : s = t := by
  obtain ⟨o, p, q⟩ := s
  obtain ⟨o', p', q'⟩ := t
  have h1 := PyData.tuple.inj h
  have a := (List.cons.inj h1).1
  have h2 := (List.cons.inj h1).2
  have b := (List.cons.inj h2).1
  have h3 := (List.cons.inj h2).2
  have c := (List.cons.inj h3).1
  have e1 : o = o' := Op.s_inj (PyData.str.inj a)
  have e2 : p = p' := partD_inj b
  have e3 : q = q' := partD_inj c
  rw [e1, e2, e3]
theorem rowD_inj {r s : Row} (h : rowD r = rowD s) : r = s := map_inj (fun a b => triD_inj) (PyData.tuple.inj h)
theorem optD_inj {r s : Option Row} (h : optD r = optD s) : r = s := by
  cases r <;> cases s
  · rfl
  · cases h
  · cases h
  · exact congrArg some (rowD_inj h)
theorem natD_nob (n : Nat) : nob (natD n) = true := rfl
theorem tabD_nob (t : List Nat) : nob (tabD t) = true := by
  unfold tabD
  rw [nob]
  exact nobs_map _ natD_nob t
theorem partD_nob (p : Part) : nob p.d = true := by cases p <;> rfl
theorem triD_nob (t : Tri) : nob (triD t) = true := by
  unfold triD
  simp [nob, nobs, partD_nob]
theorem rowD_nob (r : Row) : nob (rowD r) = true := by
  unfold rowD
  rw [nob]
  exact nobs_map _ triD_nob r
theorem optD_nob (r : Option Row) : nob (optD r) = true := by
  cases r
  · rfl
  · exact rowD_nob _
theorem opS_ok (o : Op) : PyData.strOk o.s = true := by cases o <;> decide +kernel
theorem tabD_shaped (t : List Nat) : SeqAt.shaped (tabD t) = true := shaped_of (by
    unfold tabD
    rw [PyData.canLay0]
    exact canAll_map _ (fun n => by simp [natD, PyData.canLay0]) t) (by
    unfold tabD
    rw [PyData.depth]
    have := depthAll_map natD 0 (fun n => by simp [natD, PyData.depth]) t
    omega)
theorem xOk : PyData.strOk ("x" : Str) = true := by decide +kernel
theorem nOk : PyData.strOk ("n" : Str) = true := by decide +kernel
theorem partD_can (p : Part) : p.d.canLay0 = true := by
  cases p <;> simp [Part.d, PyData.canLay0, PyData.canLayAll0, xOk, nOk]
theorem partD_depth (p : Part) : p.d.depth ≤ 1 := by
  cases p <;> simp [Part.d, PyData.depth, PyData.depthAll]
theorem partD_shaped (p : Part) : SeqAt.shaped p.d = true := shaped_of (partD_can p) (Nat.le_trans (partD_depth p) (by decide))
theorem rowD_shaped (r : Row) : SeqAt.shaped (rowD r) = true := shaped_of (by
    unfold rowD
    rw [PyData.canLay0]
    refine canAll_map _ (fun t => ?_) r
    unfold triD
    simp [PyData.canLay0, PyData.canLayAll0, opS_ok, partD_can]) (by
    unfold rowD
    rw [PyData.depth]
    have := depthAll_map triD 2 (fun t => by
      unfold triD
      have h1 := partD_depth t.2.1
      have h2 := partD_depth t.2.2
      simp only [PyData.depth, PyData.depthAll]
      omega) r
    omega)
theorem optD_shaped (r : Option Row) : SeqAt.shaped (optD r) = true := by
  cases r
  · rfl
  · exact rowD_shaped _
theorem tab_eqv (s t : List Nat) : PyData.eqv (tabD s) (tabD t) = decide (s = t) := eqv_dec (tabD_nob s) (tabD_nob t) ⟨tabD_inj, fun h => by rw [h]⟩
theorem row_eqv (s t : Row) : PyData.eqv (rowD s) (rowD t) = decide (s = t) := eqv_dec (rowD_nob s) (rowD_nob t) ⟨rowD_inj, fun h => by rw [h]⟩
theorem opt_eqv (s t : Option Row) : PyData.eqv (optD s) (optD t) = decide (s = t) := eqv_dec (optD_nob s) (optD_nob t) ⟨optD_inj, fun h => by rw [h]⟩
theorem part_eqv_x (p : Part) : PyData.eqv p.d (.str "x") = decide (p = .x) := eqv_dec (partD_nob p) rfl ⟨fun h => partD_inj (q := .x) h, fun h => by rw [h]; rfl⟩
end K34

namespace K34
open PySem PySem.Spec PyProof.Rows L2 Evl Pd
def topS (i : Nat) : Stmt := PySem.Challenge.pw_phiworks_k34_whole_short_rows.main.body.getD i (.Pass ⟨0, 0, 0, 0⟩)
abbrev sWordOf : Stmt := topS 4
abbrev sMoved : Stmt := topS 6
abbrev sCompared : Stmt := topS 7
abbrev sJoined : Stmt := topS 8
abbrev sOperate : Stmt := topS 9
theorem scWordOf : FnScope ["w", "number"] ["w", "number"] (defScope sWordOf) := ⟨rfl, rfl, rfl, by decide +kernel, rfl, by decide +kernel, by decide +kernel⟩
theorem scMoved : FnScope ["w", "op", "a", "b"] ["w", "op", "a", "b"] (defScope sMoved) := ⟨rfl, rfl, rfl, by decide +kernel, rfl, by decide +kernel, by decide +kernel⟩
theorem scCompared : FnScope ["w", "op", "a", "b"] ["w", "op", "a", "b"] (defScope sCompared) := ⟨rfl, rfl, rfl, by decide +kernel, rfl, by decide +kernel, by decide +kernel⟩
theorem scJoined : FnScope ["op", "a", "b"] ["op", "a", "b"] (defScope sJoined) := ⟨rfl, rfl, rfl, by decide +kernel, rfl, by decide +kernel, by decide +kernel⟩
theorem scOperate : FnScope ["w", "op", "a", "b"] ["w", "op", "a", "b"] (defScope sOperate) := ⟨rfl, rfl, rfl, by decide +kernel, rfl, by decide +kernel, by decide +kernel⟩
section
variable {K : PySem.W.Frag} {H : Hp}
theorem pvs1 {vs : List V} {d1 : PyData} (h : PVs K H vs [d1]) : ∃ v1, vs = [v1] ∧ PV K H v1 d1 := by
  cases h with
  | cons a b => cases b; exact ⟨_, rfl, a⟩
theorem pvs2 {vs : List V} {d1 d2 : PyData} (h : PVs K H vs [d1, d2]) : ∃ v1 v2, vs = [v1, v2] ∧ PV K H v1 d1 ∧ PV K H v2 d2 := by
  cases h with
  | cons a b => obtain ⟨v, rfl, c⟩ := pvs1 b; exact ⟨_, _, rfl, a, c⟩
theorem pvs3 {vs : List V} {d1 d2 d3 : PyData} (h : PVs K H vs [d1, d2, d3]) : ∃ v1 v2 v3, vs = [v1, v2, v3] ∧ PV K H v1 d1 ∧ PV K H v2 d2 ∧ PV K H v3 d3 := by
  cases h with
  | cons a b => obtain ⟨_, _, rfl, c, d⟩ := pvs2 b; exact ⟨_, _, _, rfl, a, c, d⟩
theorem pvs4 {vs : List V} {d1 d2 d3 d4 : PyData} (h : PVs K H vs [d1, d2, d3, d4]) : ∃ v1 v2 v3 v4, vs = [v1, v2, v3, v4] ∧ PV K H v1 d1 ∧ PV K H v2 d2 ∧ PV K H v3 d3 ∧ PV K H v4 d4 := by
  cases h with
  | cons a b => obtain ⟨_, _, _, rfl, c, d, e⟩ := pvs3 b; exact ⟨_, _, _, _, rfl, a, c, d, e⟩
end
/-! ### promises -/
def spWordOf (K : PySem.W.Frag) : Sp := spP K fun ds d => ∃ (w : Nat) (n : Int), ds = [.int (w : Int), .int n] ∧ w ≤ 1000 ∧ d = .int (n % 2 ^ w)
def bitOps : List Op := [.and, .or, .xor]
def spJoined (K : PySem.W.Frag) : Sp := spP K fun ds d => ∃ (o : Op) (a b : Nat), ds = [.str o.s, natD a, natD b] ∧ o ∈ bitOps ∧ d = natD (opW 0 o a b)
def spMoved (K : PySem.W.Frag) : Sp := spP K fun ds d => ∃ (w : Nat) (o : Op) (a b : Nat), ds = [natD w, .str o.s, natD a, natD b] ∧ W2 w ∧ (o = .shl ∨ o = .shr) ∧ a < 2 ^ w ∧ d = natD (opW w o a b)
def spCompared (K : PySem.W.Frag) : Sp := spP K fun ds d => ∃ (w : Nat) (o : Op) (a b : Nat), ds = [natD w, .str o.s, natD a, natD b] ∧ (o = .lt ∨ o = .eq) ∧ d = natD (opW w o a b)
/-- operate, and the law's own reckoning of an operator -/
def spOperate (K : PySem.W.Frag) : Sp := spP K fun ds d => ∃ (w : Nat) (o : Op) (a b : Nat), ds = [natD w, .str o.s, natD a, natD b] ∧ W2 w ∧ o.ok = true ∧ a < 2 ^ w ∧ b < 2 ^ w ∧ d = natD (opW w o a b)
section
variable {P : Program} {w : World} {K : PySem.W.Frag} {mg : Str → Option Value} {base : Heap}
theorem shl1 {σ : L2.St} {H : Hp} {te : TE} {n : Nat} (h : Ev te σ H (.int (n : Int))) (hn : n ≤ 1000) : Ev (tOp (rI CPow fun i j => .int (i * 2 ^ j.toNat)) (tC (.int 1)) te) σ H (.int (2 ^ n : Int)) :=
  ev_is (ev_op ev_c h (rv_I (C := CPow) (g := fun i j => .int (i * 2 ^ j.toNat)) ⟨by omega, by omega, by decide⟩)) (by simp)
theorem two_pos (n : Nat) : (0 : Int) < 2 ^ n := by
  have := pow_pos2 n
  exact_mod_cast this
theorem ok_word_of {f : Addr} {fd : FuncData} (F : Fun K "word_of" "word_of" sWordOf f fd) : FnOk P w K mg base CX0 1 f fd ["w", "number"] (spWordOf K) := by
  refine F.ok scWordOf (fun vs H Q E h => ?_) (fun cdv A outer s H vs Q E hr h => ?_)
  · obtain ⟨ds, d, ps, ⟨w, n, rfl, _⟩, _⟩ := h
    exact ps.length
  · obtain ⟨ds, d, ps, ⟨w, n, rfl, hw, rfl⟩, q⟩ := h
    obtain ⟨_, _, rfl, a1, a2⟩ := pvs2 ps
    cases pv_int a1
    cases pv_int a2
    refine ⟨_, pss_one (ps_ret (pe_op op_mod (pv 1) (pe_op op_shl pe_int (pv 0)))), ?_⟩
    exact s_ret (ev_op (ev_var rfl) (shl1 (ev_var rfl) hw) (rv_I (two_pos w))) fun H1 e => q _ H1 e (.int _)
theorem eqS {σ : L2.St} {H : Hp} {ta tb : TE} {a b : Op} (h : Ev ta σ H (.str a.s)) (h2 : Ev tb σ H (.str b.s)) : Ev (tOp rEq ta tb) σ H (.bl (decide (a = b))) :=
  ev_is (ev_op h h2 (rv_eq rfl)) (by
    rw [← Op.s_dec a b]
    congr 1
    exact decide_eq_decide.mpr ⟨fun h => V.str.inj h, fun h => by rw [h]⟩)
theorem bitAnd_nat (a b : Nat) : Builtin.bitAnd (a : Int) (b : Int) = ((a &&& b : Nat) : Int) := by
  unfold Builtin.bitAnd
  simp
theorem bitOr_nat (a b : Nat) : Builtin.bitOr (a : Int) (b : Int) = ((a ||| b : Nat) : Int) := Bits.bitOr_pp (by omega) (by omega)
theorem bitXor_nat (a b : Nat) : Builtin.bitXor (a : Int) (b : Int) = ((a ^^^ b : Nat) : Int) := Bits.bitXor_pp (by omega) (by omega)
theorem ok_joined {f : Addr} {fd : FuncData} (F : Fun K "joined_bits" "joined_bits" sJoined f fd) : FnOk P w K mg base CX0 1 f fd ["op", "a", "b"] (spJoined K) := by
  refine F.ok scJoined (fun vs H Q E h => ?_) (fun cdv A outer s H vs Q E hr h => ?_)
  · obtain ⟨ds, d, ps, ⟨o, a, b, rfl, _⟩, _⟩ := h
    exact ps.length
  · obtain ⟨ds, d, ps, ⟨o, a, b, rfl, ho, rfl⟩, q⟩ := h
    obtain ⟨_, _, _, rfl, a1, a2, a3⟩ := pvs3 ps
    cases pv_str a1
    cases pv_int a2
    cases pv_int a3
    refine ⟨_, pss_cons (ps_if (pt_cmpR op_eq (pv 0) pe_str (nomark _)) (pss_one (ps_ret (pe_op op_and (pv 1) (pv 2)))) pss_nil)
      (pss_one (ps_ret (pe_ifExp (pt_cmpR op_eq (pv 0) pe_str (nomark _)) (pe_op op_or (pv 1) (pv 2)) (pe_op op_xor (pv 1) (pv 2))))), ?_⟩
    refine q_when (et_test (eqS (b := .and) (ev_var rfl) ev_c)) (fun e H1 e1 => ?_) (fun e H1 e1 => ?_)
    · cases of_decide_eq_true e
      exact s_ret (ev_is (ev_op (ev_var rfl) (ev_var rfl) rv_I0) (congrArg V.int (bitAnd_nat a b))) fun H2 e2 => q _ H2 (e1.trans e2) (.int _)
    · have hn : o ≠ .and := of_decide_eq_false e
      have ho2 : o = .or ∨ o = .xor := by
        simp only [bitOps, List.mem_cons, List.not_mem_nil, or_false] at ho
        rcases ho with z | z | z
        · exact absurd z hn
        · exact .inl z
        · exact .inr z
      refine s_ret (v := .int ((opW 0 o a b : Nat) : Int)) (ev_if (et_test (eqS (b := .or) (ev_var rfl) ev_c)) (fun e => ?_) (fun e => ?_)) fun H2 e2 => q _ H2 (e1.trans e2) (.int _)
      · cases of_decide_eq_true e
        exact ev_is (ev_op (ev_var rfl) (ev_var rfl) rv_I0) (congrArg V.int (bitOr_nat a b))
      · have hx : o = .xor := ho2.resolve_left (of_decide_eq_false e)
        subst hx
        exact ev_is (ev_op (ev_var rfl) (ev_var rfl) rv_I0) (congrArg V.int (bitXor_nat a b))
theorem spWordOf_call {σ : L2.St} {H : Hp} {E : XK} {ta tb : TE} {w : Nat} {n : Int} (h : Ev ta σ H (.int (w : Int))) (h2 : Ev tb σ H (.int n)) (hw : w ≤ 1000) : Ev (tCall (spWordOf K) [] E (tCons ta (tCons tb tNil))) σ H (.int (n % 2 ^ w)) :=
  ev_epI (ep_call (eps_cons (ep_evI h) (eps_cons (ep_evI h2) eps_nil)) ⟨w, n, rfl, hw, rfl⟩)
theorem w_le {w : Nat} (h : W2 w) : w ≤ 1000 := by rcases h with rfl | rfl <;> decide
theorem ok_moved {f fW : Addr} {fd fdW : FuncData} (F : Fun K "moved" "moved" sMoved f fd) (FW : Fun K "word_of" "word_of" sWordOf fW fdW) (bW : Binds K fdW ["w", "number"] []) (gW : mg "word_of" = some (.ref fW)) : FnOk P w K mg base CX0 2 f fd ["w", "op", "a", "b"] (spMoved K) := by
  have GW : FnOk P w K mg base CX0 1 fW fdW ["w", "number"] (spWordOf K) := ok_word_of FW
  refine F.ok scMoved (fun vs H Q E h => ?_) (fun cdv A outer s H vs Q E hr h => ?_)
  · obtain ⟨ds, d, ps, ⟨w, o, a, b, rfl, _⟩, _⟩ := h
    exact ps.length
  · obtain ⟨ds, d, ps, ⟨w, o, a, b, rfl, hw, ho, ha, rfl⟩, q⟩ := h
    obtain ⟨_, _, _, _, rfl, a1, a2, a3, a4⟩ := pvs4 ps
    cases pv_int a1
    cases pv_str a2
    cases pv_int a3
    cases pv_int a4
    refine ⟨_, pss_cons (ps_if (pt_cmpR op_ge (pv 3) (pv 0) (nomark _)) (pss_one (ps_ret pe_int)) pss_nil)
      (pss_one (ps_ret (pe_ifExp (pt_cmpR op_eq (pv 1) pe_str (nomark _)) (pe_call GW hr (by rfl) gW FW.kp bW .nil pass0 (pa_cons (pv 0) (pa_cons (pe_op op_shl (pv 2) (pv 3)) pa_nil))) (pe_op op_shr (pv 2) (pv 3))))), ?_⟩
    refine q_when (et_test (ev_op (ev_var rfl) (ev_var rfl) rv_I0)) (fun e H1 e1 => ?_) (fun e H1 e1 => ?_)
    · have hb : b ≥ w := by have := of_decide_eq_true e; omega
      refine s_ret ev_c fun H2 e2 => q _ H2 (e1.trans e2) ?_
      have : opW w o a b = 0 := by rcases ho with rfl | rfl <;> simp [opW, hb]
      rw [this]
      exact .int 0
    · have hb : ¬ b ≥ w := by have := of_decide_eq_false e; omega
      have hb2 : b < 10 := by rcases hw with rfl | rfl <;> omega
      refine s_ret (v := .int ((opW w o a b : Nat) : Int)) (ev_if (et_test (eqS (b := .shl) (ev_var rfl) ev_c)) (fun e => ?_) (fun e => ?_)) fun H2 e2 => q _ H2 (e1.trans e2) (.int _)
      · cases of_decide_eq_true e
        refine ev_is (spWordOf_call (ev_var rfl) (ev_op (ev_var rfl) (ev_var rfl) (rv_I (C := CPow) (g := fun i j => .int (i * 2 ^ j.toNat)) ⟨by omega, by omega, by rcases hw with rfl | rfl <;> omega⟩)) (w_le hw)) ?_
        simp only [opW, hb, if_false]
        simp
      · have hx : o = .shr := ho.resolve_left (of_decide_eq_false e)
        subst hx
        refine ev_is (ev_op (ev_var rfl) (ev_var rfl) (rv_I (C := fun _ j => 0 ≤ j) (g := fun i j => .int (i / 2 ^ j.toNat)) (by omega))) ?_
        simp only [opW, hb, if_false]
        simp
theorem int_b {σ : L2.St} {H : Hp} {te : TE} {b : Bool} {r : List V → Hp → VK → Prop} (hr : r = fun xs H Q => (∃ i, xs = [.int i] ∧ Q (.int i) H) ∨ ∃ k, xs = [.bl k] ∧ Q (.int (if k then 1 else 0)) H) (h : Ev te σ H (.bl b)) : Ev (tCB r (tCons te tNil)) σ H (.int (if b then 1 else 0)) := by
  subst hr
  exact ev_cb (ea_cons h ea_nil) fun H1 e Q q => .inr ⟨b, rfl, q H1 (Ex.refl H1)⟩
theorem ok_compared {f : Addr} {fd : FuncData} (F : Fun K "compared" "compared" sCompared f fd) (mi : mg "int" = none) : FnOk P w K mg base CX0 1 f fd ["w", "op", "a", "b"] (spCompared K) := by
  refine F.ok scCompared (fun vs H Q E h => ?_) (fun cdv A outer s H vs Q E hr h => ?_)
  · obtain ⟨ds, d, ps, ⟨w, o, a, b, rfl, _⟩, _⟩ := h
    exact ps.length
  · obtain ⟨ds, d, ps, ⟨w, o, a, b, rfl, ho, rfl⟩, q⟩ := h
    obtain ⟨_, _, _, _, rfl, a1, a2, a3, a4⟩ := pvs4 ps
    cases pv_int a1
    cases pv_str a2
    cases pv_int a3
    cases pv_int a4
    refine ⟨_, pss_cons (ps_if (pt_cmpR op_eq (pv 1) pe_str (nomark _)) (pss_one ps_never) pss_nil)
      (pss_one (ps_ret (pe_ifExp (pt_cmpR op_eq (pv 1) pe_str (nomark _)) (pe_callTy call_int1 (by rfl) mi (by decide +kernel) (pa_cons (pe_cmpR op_lt (pv 2) (pv 3) (nomark _)) pa_nil)) (pe_callTy call_int1 (by rfl) mi (by decide +kernel) (pa_cons (pe_cmpR op_eq (pv 2) (pv 3) (nomark _)) pa_nil))))), ?_⟩
    refine q_when (et_test (eqS (b := .slt) (ev_var rfl) ev_c)) (fun e H1 e1 => ?_) (fun e H1 e1 => ?_)
    · cases of_decide_eq_true e
      rcases ho with z | z <;> cases z
    · refine s_ret (v := .int ((opW w o a b : Nat) : Int)) (ev_if (et_test (eqS (b := .lt) (ev_var rfl) ev_c)) (fun e => ?_) (fun e => ?_)) fun H2 e2 => q _ H2 (e1.trans e2) (.int _)
      · cases of_decide_eq_true e
        refine ev_is (int_b rfl (ev_op (ev_var rfl) (ev_var rfl) rv_I0)) ?_
        simp only [opW]
        by_cases h : a < b
        · simp [h]
        · simp [h]
      · have hx : o = .eq := ho.resolve_left (of_decide_eq_false e)
        subst hx
        refine ev_is (int_b rfl (ev_op (ev_var rfl) (ev_var rfl) (rv_eq rfl))) ?_
        simp only [opW]
        by_cases h : a = b
        · simp [h]
        · have : ¬ (V.int (a : Int) = V.int (b : Int)) := fun z => h (by have := V.int.inj z; omega)
          simp [h, this]
end
end K34

namespace K34
open PySem PySem.Spec PyProof.Rows L2 Evl Pd
abbrev sBits : Stmt := topS 27
abbrev sLawOp : Stmt := topS 28
theorem scBits : FnScope ["a", "b", "op", "found", "k", "one", "other", "bit"] ["a", "b", "op"] (defScope sBits) := ⟨rfl, rfl, rfl, by decide +kernel, rfl, by decide +kernel, by decide +kernel⟩
theorem scLawOp : FnScope ["w", "op", "a", "b", "size", "own", "k"] ["w", "op", "a", "b"] (defScope sLawOp) := ⟨rfl, rfl, rfl, by decide +kernel, rfl, by decide +kernel, by decide +kernel⟩
theorem inS (o : Op) : ∀ l : List Op, inV (.str o.s) (l.map fun p => .str p.s) = decide (o ∈ l)
  | [] => by simp [inV]
  | p :: l => by
    have ih := inS o l
    unfold inV at ih ⊢
    rw [List.map_cons, List.any_cons, ih]
    have : eqV (.str p.s) (.str o.s) = decide (o = p) := by
      show (p.s == o.s) = decide (o = p)
      rw [show (p.s == o.s) = decide (p.s = o.s) from rfl, Op.s_dec p o]
      by_cases h : p = o
      · simp [h]
      · simp [h, Ne.symm h]
    rw [this]
    by_cases h : o = p <;> simp [h]
theorem flatS (l : List Op) : (l.map fun p => V.str p.s).all flatV = true := by simp [flatV]
section
variable {P : Program} {w : World} {K : PySem.W.Frag} {mg : Str → Option Value} {base : Heap}
theorem inOps {σ : L2.St} {H : Hp} {ta : TE} {tb : TA} {o : Op} (l : List Op) (h : Ev ta σ H (.str o.s)) (hb : EvA tb σ H (l.map fun p => .str p.s)) (hl : l.length ≤ 100) : Ev (tOp (rIn K false) ta (tTup tb)) σ H (.bl (decide (o ∈ l))) :=
  ev_is (ev_inU h (eu_tup hb (by rw [List.length_map]; omega)) rfl (flatS l)) (by rw [inS])
theorem ok_operate {f fW fM fC fJ : Addr} {fd fdW fdM fdC fdJ : FuncData} (F : Fun K "operate" "operate" sOperate f fd)
    (FW : Fun K "word_of" "word_of" sWordOf fW fdW) (bW : Binds K fdW ["w", "number"] []) (gW : mg "word_of" = some (.ref fW))
    (FM : Fun K "moved" "moved" sMoved fM fdM) (bM : Binds K fdM ["w", "op", "a", "b"] []) (gM : mg "moved" = some (.ref fM))
    (FC : Fun K "compared" "compared" sCompared fC fdC) (bC : Binds K fdC ["w", "op", "a", "b"] []) (gC : mg "compared" = some (.ref fC))
    (FJ : Fun K "joined_bits" "joined_bits" sJoined fJ fdJ) (bJ : Binds K fdJ ["op", "a", "b"] []) (gJ : mg "joined_bits" = some (.ref fJ)) (mi : mg "int" = none) :
    FnOk P w K mg base CX0 3 f fd ["w", "op", "a", "b"] (spOperate K) := by
  have GW : FnOk P w K mg base CX0 1 fW fdW ["w", "number"] (spWordOf K) := ok_word_of FW
  have GM : FnOk P w K mg base CX0 2 fM fdM ["w", "op", "a", "b"] (spMoved K) := ok_moved FM FW bW gW
  have GC : FnOk P w K mg base CX0 1 fC fdC ["w", "op", "a", "b"] (spCompared K) := ok_compared FC mi
  have GJ : FnOk P w K mg base CX0 1 fJ fdJ ["op", "a", "b"] (spJoined K) := ok_joined FJ
  refine F.ok scOperate (fun vs H Q E h => ?_) (fun cdv A outer s H vs Q E hr h => ?_)
  · obtain ⟨ds, d, ps, ⟨w, o, a, b, rfl, _⟩, _⟩ := h
    exact ps.length
  · obtain ⟨ds, d, ps, ⟨w, o, a, b, rfl, hw, ho, ha, hb, rfl⟩, q⟩ := h
    obtain ⟨_, _, _, _, rfl, a1, a2, a3, a4⟩ := pvs4 ps
    cases pv_int a1
    cases pv_str a2
    cases pv_int a3
    cases pv_int a4
    have hr1 : Room 1 _ := hr.mono (by decide)
    refine ⟨_, pss_cons (ps_if (pt_cmpR op_eq (pv 1) pe_str (nomark _)) (pss_one (ps_ret (pe_call GW hr1 (by rfl) gW FW.kp bW .nil pass0 (pa_cons (pv 0) (pa_cons (pe_op op_add (pv 2) (pv 3)) pa_nil))))) pss_nil)
      (pss_cons (ps_if (pt_cmpR op_eq (pv 1) pe_str (nomark _)) (pss_one (ps_ret (pe_call GW hr1 (by rfl) gW FW.kp bW .nil pass0 (pa_cons (pv 0) (pa_cons (pe_op op_sub (pv 2) (pv 3)) pa_nil))))) pss_nil)
      (pss_cons (ps_if (pt_cmpR op_eq (pv 1) pe_str (nomark _)) (pss_one (ps_ret (pe_call GW hr1 (by rfl) gW FW.kp bW .nil pass0 (pa_cons (pv 0) (pa_cons (pe_op op_mul (pv 2) (pv 3)) pa_nil))))) pss_nil)
      (pss_cons (ps_if (pt_cmpR op_eq (pv 1) pe_str (nomark _)) pss_never pss_nil)
      (pss_cons (ps_if (pt_cmpR op_in_seq (pv 1) (pe_tup (pa_cons pe_str (pa_cons pe_str (pa_cons pe_str pa_nil)))) (by rfl)) (pss_one (ps_ret (pe_call GJ hr1 (by rfl) gJ FJ.kp bJ .nil pass0 (pa_cons (pv 1) (pa_cons (pv 2) (pa_cons (pv 3) pa_nil)))))) pss_nil)
      (pss_cons (ps_if (pt_cmpR op_in_seq (pv 1) (pe_tup (pa_cons pe_str (pa_cons pe_str pa_nil))) (by rfl)) (pss_one (ps_ret (pe_call GM hr (by rfl) gM FM.kp bM .nil pass0 (pa_cons (pv 0) (pa_cons (pv 1) (pa_cons (pv 2) (pa_cons (pv 3) pa_nil))))))) pss_nil)
      (pss_cons (ps_if (pt_cmpR op_in_seq (pv 1) (pe_tup (pa_cons pe_str (pa_cons pe_str (pa_cons pe_str pa_nil)))) (by rfl)) (pss_one (ps_ret (pe_call GC hr1 (by rfl) gC FC.kp bC .nil pass0 (pa_cons (pv 0) (pa_cons (pv 1) (pa_cons (pv 2) (pa_cons (pv 3) pa_nil))))))) pss_nil)
      pss_never)))))), ?_⟩
    have cast2 : (((2 ^ w : Nat) : Nat) : Int) = (2 : Int) ^ w := by simp
    refine q_when (et_test (eqS (b := .add) (ev_var rfl) ev_c)) (fun e H1 e1 => ?_) (fun e H1 e1 => ?_)
    · cases of_decide_eq_true e
      refine s_ret (ev_is (spWordOf_call (ev_var rfl) (ev_op (ev_var rfl) (ev_var rfl) rv_I0) (w_le hw)) ?_) fun H2 e2 => q _ H2 (e1.trans e2) (.int _)
      simp [opW]
    have n1 := of_decide_eq_false e
    refine q_when (et_test (eqS (b := .sub) (ev_var rfl) ev_c)) (fun e H2 e2 => ?_) (fun e H2 e2 => ?_)
    · cases of_decide_eq_true e
      refine s_ret (ev_is (spWordOf_call (ev_var rfl) (ev_op (ev_var rfl) (ev_var rfl) rv_I0) (w_le hw)) ?_) fun H3 e3 => q _ H3 ((e1.trans e2).trans e3) (.int _)
      congr 1
      simp only [opW]
      rcases hw with rfl | rfl <;> omega
    have n2 := of_decide_eq_false e
    refine q_when (et_test (eqS (b := .mul) (ev_var rfl) ev_c)) (fun e H3 e3 => ?_) (fun e H3 e3 => ?_)
    · cases of_decide_eq_true e
      refine s_ret (ev_is (spWordOf_call (ev_var rfl) (ev_op (ev_var rfl) (ev_var rfl) (rv_I (C := CMul) (g := fun i j => .int (i * j)) (.inl ?_))) (w_le hw)) ?_) fun H4 e4 => q _ H4 (((e1.trans e2).trans e3).trans e4) (.int _)
      · rcases hw with rfl | rfl <;> constructor <;> omega
      · simp [opW]
    have n3 := of_decide_eq_false e
    refine q_when (et_test (eqS (b := .div) (ev_var rfl) ev_c)) (fun e H4 e4 => ?_) (fun e H4 e4 => ?_)
    · cases of_decide_eq_true e
      cases ho
    have e14 := ((e1.trans e2).trans e3).trans e4
    refine q_when (et_test (inOps [.and, .or, .xor] (ev_var rfl) (ea_cons ev_c (ea_cons ev_c (ea_cons ev_c ea_nil))) (by decide))) (fun e H5 e5 => ?_) (fun e H5 e5 => ?_)
    · have hm : o ∈ bitOps := of_decide_eq_true e
      refine s_retP (ep_call (eps_cons (ep_ev (ev_var rfl) (.str _)) (eps_cons (ep_ev (ev_var rfl) (.int _)) (eps_cons (ep_ev (ev_var rfl) (.int _)) eps_nil))) ⟨o, a, b, rfl, hm, rfl⟩) fun v H6 e6 p => ?_
      have : opW 0 o a b = opW w o a b := by
        simp only [bitOps, List.mem_cons, List.not_mem_nil, or_false] at hm
        rcases hm with rfl | rfl | rfl <;> rfl
      rw [this] at p
      exact q _ H6 ((e14.trans e5).trans e6) p
    have n5 := of_decide_eq_false e
    refine q_when (et_test (inOps [.shl, .shr] (ev_var rfl) (ea_cons ev_c (ea_cons ev_c ea_nil)) (by decide))) (fun e H6 e6 => ?_) (fun e H6 e6 => ?_)
    · have hm : o = .shl ∨ o = .shr := by
        have := of_decide_eq_true e
        simpa using this
      refine s_retP (ep_call (eps_cons (ep_ev (ev_var rfl) (.int _)) (eps_cons (ep_ev (ev_var rfl) (.str _)) (eps_cons (ep_ev (ev_var rfl) (.int _)) (eps_cons (ep_ev (ev_var rfl) (.int _)) eps_nil)))) ⟨w, o, a, b, rfl, hw, hm, ha, rfl⟩) fun v H7 e7 p => q _ H7 (((e14.trans e5).trans e6).trans e7) p
    have n6 := of_decide_eq_false e
    refine q_when (et_test (inOps [.lt, .slt, .eq] (ev_var rfl) (ea_cons ev_c (ea_cons ev_c (ea_cons ev_c ea_nil))) (by decide))) (fun e H7 e7 => ?_) (fun e H7 e7 => ?_)
    · have hm : o = .lt ∨ o = .eq := by
        have := of_decide_eq_true e
        simp only [List.mem_cons, List.not_mem_nil, or_false] at this
        rcases this with z | z | z
        · exact .inl z
        · subst z
          cases ho
        · exact .inr z
      refine s_retP (ep_call (eps_cons (ep_ev (ev_var rfl) (.int _)) (eps_cons (ep_ev (ev_var rfl) (.str _)) (eps_cons (ep_ev (ev_var rfl) (.int _)) (eps_cons (ep_ev (ev_var rfl) (.int _)) eps_nil)))) ⟨w, o, a, b, rfl, hm, rfl⟩) fun v H8 e8 p => q _ H8 ((((e14.trans e5).trans e6).trans e7).trans e8) p
    have n7 := of_decide_eq_false e
    cases o <;> first | (exact absurd rfl n1) | (exact absurd rfl n2) | (exact absurd rfl n3) | (exact absurd (by decide) n5) | (exact absurd (by decide) n6) | (exact absurd (by decide) n7) | (cases ho)
/-! ### the law's own operators -/
theorem bit_and : ∀ a < 8, ∀ b < 8, opW 0 .and a b = (a % 2) * (b % 2) + 2 * opW 0 .and (a / 2) (b / 2) := by decide
theorem bit_or : ∀ a < 8, ∀ b < 8, opW 0 .or a b = (if b % 2 > a % 2 then b % 2 else a % 2) + 2 * opW 0 .or (a / 2) (b / 2) := by decide
theorem bit_xor : ∀ a < 8, ∀ b < 8, opW 0 .xor a b + 2 * ((a % 2) * (b % 2)) = (a % 2) + (b % 2) + 2 * opW 0 .xor (a / 2) (b / 2) := by decide
theorem bits_zero (o : Op) (h : o ∈ bitOps) : opW 0 o 0 0 = 0 := by
  simp only [bitOps, List.mem_cons, List.not_mem_nil, or_false] at h
  rcases h with rfl | rfl | rfl <;> rfl
def bitV (o : Op) (x y : Int) : Int := if o = .and then x * y else if o = .or then (if y > x then y else x) else x + y - 2 * (x * y)
theorem bit_step {o : Op} (h : o ∈ bitOps) {a b : Nat} (ha : a < 8) (hb : b < 8) : ((opW 0 o a b : Nat) : Int) = bitV o ((a % 2 : Nat) : Int) ((b % 2 : Nat) : Int) + 2 * ((opW 0 o (a / 2) (b / 2) : Nat) : Int) := by
  simp only [bitOps, List.mem_cons, List.not_mem_nil, or_false] at h
  have m1 : a % 2 = 0 ∨ a % 2 = 1 := by omega
  have m2 : b % 2 = 0 ∨ b % 2 = 1 := by omega
  rcases h with rfl | rfl | rfl
  · have := bit_and a ha b hb
    show _ = ((a % 2 : Nat) : Int) * ((b % 2 : Nat) : Int) + _
    rw [this]
    simp
  · have := bit_or a ha b hb
    show _ = (if ((b % 2 : Nat) : Int) > ((a % 2 : Nat) : Int) then ((b % 2 : Nat) : Int) else ((a % 2 : Nat) : Int)) + _
    rw [this]
    rcases m1 with e | e <;> rcases m2 with e2 | e2 <;> rw [e, e2] <;> simp
  · have := bit_xor a ha b hb
    show _ = ((a % 2 : Nat) : Int) + ((b % 2 : Nat) : Int) - 2 * (((a % 2 : Nat) : Int) * ((b % 2 : Nat) : Int)) + _
    rcases m1 with e | e <;> rcases m2 with e2 | e2 <;> rw [e, e2] at this ⊢ <;> simp at this ⊢ <;> omega
def spBits (K : PySem.W.Frag) : Sp := spP K fun ds d => ∃ (o : Op) (a b : Nat), ds = [natD a, natD b, .str o.s] ∧ o ∈ bitOps ∧ a < 8 ∧ b < 8 ∧ d = natD (opW 0 o a b)
theorem half {σ : L2.St} {H : Hp} {te : TE} {a : Nat} (h : Ev te σ H (.int (a : Int))) : Ev (tOp (rI CDivN fun i j => .int (i.fdiv j)) te (tC (.int 2))) σ H (.int ((a / 2 : Nat) : Int)) :=
  ev_is (ev_op h ev_c (rv_I (C := CDivN) (g := fun i j => .int (i.fdiv j)) ⟨by decide, by decide⟩)) (by
    congr 1
    rw [Int.fdiv_eq_ediv_of_nonneg _ (by decide)]
    omega)
theorem low {σ : L2.St} {H : Hp} {te te2 : TE} {a : Nat} (h : Ev te σ H (.int (a : Int))) (h2 : Ev te2 σ H (.int (a : Int))) :
    Ev (tOp (rI0 fun i j => .int (i - j)) te (tOp (rI CMul fun i j => .int (i * j)) (tC (.int 2)) (tOp (rI CDivN fun i j => .int (i.fdiv j)) te2 (tC (.int 2))))) σ H (.int ((a % 2 : Nat) : Int)) :=
  ev_is (ev_op h (ev_op ev_c (half h2) (rv_I (C := CMul) (g := fun i j => .int (i * j)) (.inl ⟨by decide, by decide⟩))) rv_I0) (by
    congr 1
    omega)
theorem ok_bits {f : Addr} {fd : FuncData} (F : Fun K "_law_bits" "_law_bits" sBits f fd) (mm : mg "max" = none) : FnOk P w K mg base CX0 1 f fd ["a", "b", "op"] (spBits K) := by
  refine F.ok scBits (fun vs H Q E h => ?_) (fun cdv A outer s H vs Q E hr h => ?_)
  · obtain ⟨ds, d, ps, ⟨o, a, b, rfl, _⟩, _⟩ := h
    exact ps.length
  · obtain ⟨ds, d, ps, ⟨o, a0, b0, rfl, ho, ha0, hb0, rfl⟩, q⟩ := h
    obtain ⟨_, _, _, rfl, a1, a2, a3⟩ := pvs3 ps
    cases pv_int a1
    cases pv_int a2
    cases pv_str a3
    refine ⟨_, pss_cons (ps_set (i := 3) scBits.nd rfl (.inl rfl) pe_int)
      (pss_cons (ps_set (i := 4) scBits.nd rfl (.inl rfl) pe_int)
      (pss_cons (ps_while PassesOwn.never (PW.pt (pw_or (pt_cmpR op_gt (pv 0) pe_int (nomark _)) (pw_or1 (pt_cmpR op_gt (pv 1) pe_int (nomark _)))))
        (pss_cons (ps_set (i := 5) scBits.nd rfl (.inl rfl) (pe_op op_sub (pv 0) (pe_op op_mul pe_int (pe_op op_fdivN (pv 0) pe_int))))
        (pss_cons (ps_set (i := 6) scBits.nd rfl (.inl rfl) (pe_op op_sub (pv 1) (pe_op op_mul pe_int (pe_op op_fdivN (pv 1) pe_int))))
        (pss_cons (ps_set (i := 7) scBits.nd rfl (.inl rfl) (pe_ifExp (pt_cmpR op_eq (pv 2) pe_str (nomark _)) (pe_op op_mul (pv 5) (pv 6)) (pe_ifExp (pt_cmpR op_eq (pv 2) pe_str (nomark _)) (pe_callB (call_max2 rfl) (by rfl) mm (by decide +kernel) (pa_cons (pv 5) (pa_cons (pv 6) pa_nil))) (pe_op op_sub (pe_op op_add (pv 5) (pv 6)) (pe_op op_mul pe_int (pe_op op_mul (pv 5) (pv 6)))))))
        (pss_cons (ps_set (i := 3) scBits.nd rfl (.inl rfl) (pe_op op_add (pv 3) (pe_op op_mul (pv 4) (pv 7))))
        (pss_cons (ps_set (i := 0) scBits.nd rfl (.inl rfl) (pe_op op_fdivN (pv 0) pe_int))
        (pss_cons (ps_set (i := 1) scBits.nd rfl (.inl rfl) (pe_op op_fdivN (pv 1) pe_int))
        (pss_one (ps_set (i := 4) scBits.nd rfl (.inl rfl) (pe_op op_mul pe_int (pv 4)))))))))))
      (pss_one (ps_ret (pv 3))))), ?_⟩
    refine q_asg ev_c fun H1 e1 => q_asg ev_c fun H2 e2 => ?_
    refine q_while (fun m σ' H' => ∃ (a b k fo : Nat) (y5 y6 y7 : Option V), σ' = [some (.int (a : Int)), some (.int (b : Int)), some (.str o.s), some (.int (fo : Int)), some (.int (k : Int)), y5, y6, y7] ∧ m = a + b ∧ a < 8 ∧ b < 8 ∧ k ≤ 14 ∧ k * a ≤ 7 ∧ k * b ≤ 7 ∧
        fo + k * opW 0 o a b = opW 0 o a0 b0 ∧ Ex H H') (a0 + b0) ⟨a0, b0, 1, 0, none, none, none, rfl, rfl, ha0, hb0, by decide, by omega, by omega, by omega, e1.trans e2⟩ ?_
    rintro m σ' H' ⟨a, b, k, fo, y5, y6, y7, rfl, rfl, ha, hb, hk, hka, hkb, hv, ex⟩
    refine ⟨_, et_or (et_test (ev_op (ev_var rfl) ev_c rv_I0)) fun _ => et_test (ev_op (ev_var rfl) ev_c rv_I0), fun e H3 e3 => ?_, fun e H3 e3 => ?_⟩
    · have hpos : 0 < a ∨ 0 < b := by
        rcases Bool.or_eq_true_iff.mp e with z | z
        · have := of_decide_eq_true z
          omega
        · have := of_decide_eq_true z
          omega
      refine ⟨_, fun σ2 H2 n => n, ?_⟩
      refine q_asg (low (ev_var rfl) (ev_var rfl)) fun H4 e4 => q_asg (low (ev_var rfl) (ev_var rfl)) fun H5 e5 => ?_
      have m1 : a % 2 = 0 ∨ a % 2 = 1 := by omega
      have m2 : b % 2 = 0 ∨ b % 2 = 1 := by omega
      have hk7 : k ≤ 7 := by
        rcases hpos with z | z
        · exact Nat.le_trans (Nat.le_mul_of_pos_right k z) hka
        · exact Nat.le_trans (Nat.le_mul_of_pos_right k z) hkb
      refine q_asg (v := .int (bitV o ((a % 2 : Nat) : Int) ((b % 2 : Nat) : Int))) (ev_if (et_test (eqS (b := .and) (ev_var rfl) ev_c)) (fun e => ?_) (fun e => ?_)) fun H6 e6 => ?_
      · cases of_decide_eq_true e
        exact ev_op (ev_var rfl) (ev_var rfl) (rv_I (C := CMul) (g := fun i j => .int (i * j)) (.inl ⟨by omega, by omega⟩))
      · have n1 := of_decide_eq_false e
        refine ev_if (et_test (eqS (b := .or) (ev_var rfl) ev_c)) (fun e => ?_) (fun e => ?_)
        · cases of_decide_eq_true e
          exact ev_max2 (ev_var rfl) (ev_var rfl)
        · have n2 := of_decide_eq_false e
          refine ev_is (ev_op (ev_op (ev_var rfl) (ev_var rfl) rv_I0) (ev_op ev_c (ev_op (ev_var rfl) (ev_var rfl) (rv_I (C := CMul) (g := fun i j => .int (i * j)) (.inl ⟨by omega, by omega⟩))) (rv_I (C := CMul) (g := fun i j => .int (i * j)) (.inl ⟨by decide, by decide⟩))) rv_I0) ?_
          unfold bitV
          rw [if_neg n1, if_neg n2]
      have hbv := bit_step ho ha hb
      obtain ⟨bv, hbv0⟩ : ∃ bv : Nat, bitV o ((a % 2 : Nat) : Int) ((b % 2 : Nat) : Int) = (bv : Int) := by
        refine ⟨(bitV o ((a % 2 : Nat) : Int) ((b % 2 : Nat) : Int)).toNat, (Int.toNat_of_nonneg ?_).symm⟩
        unfold bitV
        rcases m1 with z | z <;> rcases m2 with z2 | z2 <;> rw [z, z2] <;> split <;> first | decide | (split <;> decide)
      rw [hbv0] at hbv
      rw [hbv0]
      refine q_asg (v := .int ((fo + k * bv : Nat) : Int)) (ev_is (ev_op (ev_var rfl) (ev_op (ev_var rfl) (ev_var rfl) (rv_I (C := CMul) (g := fun i j => .int (i * j)) (.inl ⟨by omega, by omega⟩))) rv_I0) (by simp)) fun H7 e7 => ?_
      refine q_asg (half (ev_var rfl)) fun H8 e8 => q_asg (half (ev_var rfl)) fun H9 e9 => ?_
      refine s_asg (v := .int ((2 * k : Nat) : Int)) (ev_is (ev_op ev_c (ev_var rfl) (rv_I (C := CMul) (g := fun i j => .int (i * j)) (.inl ⟨by decide, by decide⟩))) (by simp)) fun H10 e10 => ?_
      have hka2 : 2 * k * (a / 2) ≤ k * a := by
        have : k * (2 * (a / 2)) ≤ k * a := Nat.mul_le_mul_left k (by omega)
        rw [Nat.mul_comm 2 k, Nat.mul_assoc]
        exact this
      have hkb2 : 2 * k * (b / 2) ≤ k * b := by
        have : k * (2 * (b / 2)) ≤ k * b := Nat.mul_le_mul_left k (by omega)
        rw [Nat.mul_comm 2 k, Nat.mul_assoc]
        exact this
      have hval : opW 0 o a b = bv + 2 * opW 0 o (a / 2) (b / 2) := by omega
      refine ⟨a / 2 + b / 2, by omega, a / 2, b / 2, 2 * k, fo + k * bv, _, _, _, rfl, rfl, by omega, by omega, by omega, by omega, by omega, ?_, (((((((ex.trans e3).trans e4).trans e5).trans e6).trans e7).trans e8).trans e9).trans e10⟩
      rw [← hv, hval, Nat.mul_add, Nat.mul_comm 2 k, Nat.mul_assoc]
      omega
    · have hz : a = 0 ∧ b = 0 := by
        have := Bool.or_eq_false_iff.mp e
        have h1 := of_decide_eq_false this.1
        have h2 := of_decide_eq_false this.2
        omega
      obtain ⟨rfl, rfl⟩ := hz
      rw [bits_zero o ho] at hv
      have : fo = opW 0 o a0 b0 := by omega
      subst this
      exact s_ret (ev_var rfl) fun H4 e4 => q _ H4 ((ex.trans e3).trans e4) (.int _)
theorem modL {σ : L2.St} {H : Hp} {te te2 ts ts2 : TE} {x : Int} {w : Nat} (hw : W2 w) (h : Ev te σ H (.int x)) (h2 : Ev te2 σ H (.int x)) (hs : Ev ts σ H (.int (2 ^ w : Int))) (hs2 : Ev ts2 σ H (.int (2 ^ w : Int))) :
    Ev (tOp (rI0 fun i j => .int (i - j)) te (tOp (rI CMul fun i j => .int (i * j)) ts (tOp (rI CDivN fun i j => .int (i.fdiv j)) te2 ts2))) σ H (.int (x % 2 ^ w)) :=
  ev_is (ev_op h (ev_op hs (ev_op h2 hs2 (rv_I (C := CDivN) (g := fun i j => .int (i.fdiv j)) (by rcases hw with rfl | rfl <;> exact ⟨by decide, by decide⟩))) (rv_I (C := CMul) (g := fun i j => .int (i * j)) (.inl (by rcases hw with rfl | rfl <;> exact ⟨by decide, by decide⟩)))) rv_I0) (by
    congr 1
    rw [Int.fdiv_eq_ediv_of_nonneg _ (by have := two_pos w; omega)]
    have := Int.emod_add_mul_ediv x (2 ^ w)
    omega)
theorem add_mod_cast (w : Nat) (a b : Nat) : ((a : Int) + (b : Int)) % 2 ^ w = (((a + b) % 2 ^ w : Nat) : Int) := by simp
theorem ok_lawop {f fB : Addr} {fd fdB : FuncData} (F : Fun K "_law_op" "_law_op" sLawOp f fd) (FB : Fun K "_law_bits" "_law_bits" sBits fB fdB) (bB : Binds K fdB ["a", "b", "op"] []) (gB : mg "_law_bits" = some (.ref fB))
    (mm : mg "max" = none) (mn : mg "min" = none) (mr : mg "range" = none) (mi : mg "int" = none) : FnOk P w K mg base CX0 2 f fd ["w", "op", "a", "b"] (spOperate K) := by
  have GB : FnOk P w K mg base CX0 1 fB fdB ["a", "b", "op"] (spBits K) := ok_bits FB mm
  refine F.ok scLawOp (fun vs H Q E h => ?_) (fun cdv A outer s H vs Q E hr h => ?_)
  · obtain ⟨ds, d, ps, ⟨w, o, a, b, rfl, _⟩, _⟩ := h
    exact ps.length
  · obtain ⟨ds, d, ps, ⟨w, o, a, b, rfl, hw, ho, ha, hb, rfl⟩, q⟩ := h
    obtain ⟨_, _, _, _, rfl, a1, a2, a3, a4⟩ := pvs4 ps
    cases pv_int a1
    cases pv_str a2
    cases pv_int a3
    cases pv_int a4
    refine ⟨_, pss_cons (ps_set (i := 4) scLawOp.nd rfl (.inl rfl) (pe_op op_shl pe_int (pv 0)))
      (pss_cons (ps_if (pt_cmpR op_in_seq (pv 1) (pe_tup (pa_cons pe_str (pa_cons pe_str (pa_cons pe_str pa_nil)))) (by rfl))
        (pss_cons (ps_set (i := 5) scLawOp.nd rfl (.inl rfl) (pe_ifExp (pt_cmpR op_eq (pv 1) pe_str (nomark _)) (pe_op op_add (pv 2) (pv 3)) (pe_ifExp (pt_cmpR op_eq (pv 1) pe_str (nomark _)) (pe_op op_sub (pv 2) (pv 3)) (pe_op op_mul (pv 2) (pv 3)))))
        (pss_one (ps_ret (pe_op op_sub (pv 5) (pe_op op_mul (pv 4) (pe_op op_fdivN (pv 5) (pv 4))))))) pss_nil)
      (pss_cons (ps_if (pt_cmpR op_eq (pv 1) pe_str (nomark _)) pss_never pss_nil)
      (pss_cons (ps_if (pt_cmpR op_in_seq (pv 1) (pe_tup (pa_cons pe_str (pa_cons pe_str (pa_cons pe_str pa_nil)))) (by rfl)) (pss_one (ps_ret (pe_call GB hr (by rfl) gB FB.kp bB .nil pass0 (pa_cons (pv 2) (pa_cons (pv 3) (pa_cons (pv 1) pa_nil)))))) pss_nil)
      (pss_cons (ps_if (pt_cmpR op_in_seq (pv 1) (pe_tup (pa_cons pe_str (pa_cons pe_str pa_nil))) (by rfl))
        (pss_cons (ps_for PassesOwn.never rfl (pi_range1 rfl mr (pa_cons (pe_callB (call_min2 rfl) (by rfl) mn (by decide +kernel) (pa_cons (pv 3) (pa_cons (pv 0) pa_nil))) pa_nil)) (pg_name (i := 6) scLawOp.nd rfl (.inl rfl))
          (pss_one (ps_set (i := 2) scLawOp.nd rfl (.inl rfl) (pe_ifExp (pt_cmpR op_eq (pv 1) pe_str (nomark _)) (pe_op op_sub (pe_op op_mul pe_int (pv 2)) (pe_op op_mul (pv 4) (pe_op op_fdivN (pe_op op_mul pe_int (pv 2)) (pv 4)))) (pe_op op_fdivN (pv 2) pe_int)))))
        (pss_one (ps_ret (pv 2)))) pss_nil)
      (pss_cons (ps_if (pt_cmpR op_eq (pv 1) pe_str (nomark _)) pss_never pss_nil)
      (pss_one (ps_ret (pe_ifExp (pt_cmpR op_eq (pv 1) pe_str (nomark _)) (pe_callTy call_int1 (by rfl) mi (by decide +kernel) (pa_cons (pe_cmpR op_lt (pv 2) (pv 3) (nomark _)) pa_nil)) (pe_callTy call_int1 (by rfl) mi (by decide +kernel) (pa_cons (pe_cmpR op_eq (pv 2) (pv 3) (nomark _)) pa_nil)))))))))), ?_⟩
    refine q_asg (shl1 (ev_var rfl) (w_le hw)) fun H1 e1 => ?_
    refine q_when (et_test (inOps [.add, .sub, .mul] (ev_var rfl) (ea_cons ev_c (ea_cons ev_c (ea_cons ev_c ea_nil))) (by decide))) (fun e H2 e2 => ?_) (fun e H2 e2 => ?_)
    · have hm : o = .add ∨ o = .sub ∨ o = .mul := by simpa using of_decide_eq_true e
      refine q_asg (v := .int (if o = .add then (a : Int) + b else if o = .sub then (a : Int) - b else (a : Int) * b)) (ev_if (et_test (eqS (b := .add) (ev_var rfl) ev_c)) (fun e => ?_) (fun e => ?_)) fun H3 e3 => ?_
      · cases of_decide_eq_true e
        exact ev_op (ev_var rfl) (ev_var rfl) rv_I0
      · have n1 := of_decide_eq_false e
        rw [if_neg n1]
        refine ev_if (et_test (eqS (b := .sub) (ev_var rfl) ev_c)) (fun e => ?_) (fun e => ?_)
        · cases of_decide_eq_true e
          exact ev_op (ev_var rfl) (ev_var rfl) rv_I0
        · rw [if_neg (of_decide_eq_false e)]
          exact ev_op (ev_var rfl) (ev_var rfl) (rv_I (C := CMul) (g := fun i j => .int (i * j)) (.inl (by rcases hw with rfl | rfl <;> constructor <;> omega)))
      · refine s_ret (v := .int ((opW w o a b : Nat) : Int)) (ev_is (modL hw (ev_var rfl) (ev_var rfl) (ev_var rfl) (ev_var rfl)) ?_) fun H4 e4 => q _ H4 (((e1.trans e2).trans e3).trans e4) (.int _)
        congr 1
        rcases hm with rfl | rfl | rfl
        · simp [opW]
        · rw [if_neg (by decide), if_pos rfl]
          simp only [opW]
          rcases hw with rfl | rfl <;> omega
        · rw [if_neg (by decide), if_neg (by decide)]
          simp [opW]
    have n1 := of_decide_eq_false e
    refine q_when (et_test (eqS (b := .div) (ev_var rfl) ev_c)) (fun e H3 e3 => ?_) (fun e H3 e3 => ?_)
    · cases of_decide_eq_true e
      cases ho
    have e13 := (e1.trans e2).trans e3
    refine q_when (et_test (inOps [.and, .or, .xor] (ev_var rfl) (ea_cons ev_c (ea_cons ev_c (ea_cons ev_c ea_nil))) (by decide))) (fun e H4 e4 => ?_) (fun e H4 e4 => ?_)
    · have hm : o ∈ bitOps := of_decide_eq_true e
      have h8 : 2 ^ w ≤ 8 := by rcases hw with rfl | rfl <;> decide
      refine s_retP (ep_call (eps_cons (ep_ev (ev_var rfl) (.int _)) (eps_cons (ep_ev (ev_var rfl) (.int _)) (eps_cons (ep_ev (ev_var rfl) (.str _)) eps_nil))) ⟨o, a, b, rfl, hm, by omega, by omega, rfl⟩) fun v H6 e6 p => ?_
      have : opW 0 o a b = opW w o a b := by
        simp only [bitOps, List.mem_cons, List.not_mem_nil, or_false] at hm
        rcases hm with rfl | rfl | rfl <;> rfl
      rw [this] at p
      exact q _ H6 ((e13.trans e4).trans e6) p
    have n4 := of_decide_eq_false e
    refine q_when (et_test (inOps [.shl, .shr] (ev_var rfl) (ea_cons ev_c (ea_cons ev_c ea_nil)) (by decide))) (fun e H5 e5 => ?_) (fun e H5 e5 => ?_)
    · have hm : o = .shl ∨ o = .shr := by simpa using of_decide_eq_true e
      let g : Nat → Nat := fun i => if o = .shl then a * 2 ^ i % 2 ^ w else a / 2 ^ i
      have hmin : (if (w : Int) < (b : Int) then (w : Int) else (b : Int)) = ((min b w : Nat) : Int) := by
        split <;> omega
      have hmin10 : min b w ≤ 3 := by rcases hw with rfl | rfl <;> omega
      refine q_forR1 (n := ((min b w : Nat) : Int)) (ea_cons (ev_cb (ea_cons (ev_var rfl) (ea_cons (ev_var rfl) ea_nil)) fun H1 e Q q => ⟨_, _, rfl, by rw [hmin]; exact q H1 (Ex.refl H1)⟩) ea_nil) ⟨by omega, by omega⟩ (fun i σ' H' => ∃ y5 y6, σ' = [some (.int (w : Int)), some (.str o.s), some (.int ((g i : Nat) : Int)), some (.int (b : Int)), some (.int (2 ^ w : Int)), y5, y6] ∧ Ex H H')
        (fun H6 e6 => ⟨none, none, ?_, ((e13.trans e4).trans e5).trans e6⟩) ?_ ?_
      · have : g 0 = a := by
          show (if o = .shl then a * 2 ^ 0 % 2 ^ w else a / 2 ^ 0) = a
          split
          · simp [Nat.mod_eq_of_lt ha]
          · simp
        rw [this]
        rfl
      · rintro i σ' H' hi ⟨y5, y6, rfl, ex⟩
        have hg : g i < 8 := by
          show (if o = .shl then a * 2 ^ i % 2 ^ w else a / 2 ^ i) < 8
          have h8 : 2 ^ w ≤ 8 := by rcases hw with rfl | rfl <;> decide
          split
          · exact Nat.lt_of_lt_of_le (Nat.mod_lt _ (pow_pos2 w)) h8
          · exact Nat.lt_of_le_of_lt (Nat.div_le_self _ _) (by omega)
        refine s_asg (v := .int ((g (i + 1) : Nat) : Int)) (ev_if (et_test (eqS (b := .shl) (ev_var rfl) ev_c)) (fun e => ?_) (fun e => ?_)) fun H6 e6 => ⟨_, _, rfl, ex.trans e6⟩
        · have hs := of_decide_eq_true e
          refine ev_is (modL hw (ev_op ev_c (ev_var rfl) (rv_I (C := CMul) (g := fun i j => .int (i * j)) (.inl ⟨by decide, by decide⟩))) (ev_op ev_c (ev_var rfl) (rv_I (C := CMul) (g := fun i j => .int (i * j)) (.inl ⟨by decide, by decide⟩))) (ev_var rfl) (ev_var rfl)) ?_
          congr 1
          have : g (i + 1) = 2 * g i % 2 ^ w := by
            show (if o = .shl then a * 2 ^ (i + 1) % 2 ^ w else a / 2 ^ (i + 1)) = 2 * (if o = .shl then a * 2 ^ i % 2 ^ w else a / 2 ^ i) % 2 ^ w
            rw [if_pos hs, if_pos hs, Nat.mul_mod_mod, Nat.pow_succ]
            congr 1
            rw [← Nat.mul_assoc, Nat.mul_comm]
          rw [this]
          simp
        · have hs := of_decide_eq_false e
          refine ev_is (half (ev_var rfl)) ?_
          congr 2
          show (if o = .shl then a * 2 ^ i % 2 ^ w else a / 2 ^ i) / 2 = (if o = .shl then a * 2 ^ (i + 1) % 2 ^ w else a / 2 ^ (i + 1))
          rw [if_neg hs, if_neg hs, Nat.div_div_eq_div_mul, Nat.pow_succ]
      · rintro σ' H' ⟨y5, y6, rfl, ex⟩
        have hfin : g (min b w) = opW w o a b := by
          rcases hm with rfl | rfl
          · show (if Op.shl = .shl then a * 2 ^ (min b w) % 2 ^ w else a / 2 ^ (min b w)) = if b ≥ w then 0 else a * 2 ^ b % 2 ^ w
            rw [if_pos rfl]
            split
            · rw [Nat.min_eq_right (by omega), Nat.mul_mod_left]
            · rw [Nat.min_eq_left (by omega)]
          · show (if Op.shr = .shl then a * 2 ^ (min b w) % 2 ^ w else a / 2 ^ (min b w)) = if b ≥ w then 0 else a / 2 ^ b
            rw [if_neg (by decide)]
            split
            · rw [Nat.min_eq_right (by omega), Nat.div_eq_of_lt ha]
            · rw [Nat.min_eq_left (by omega)]
        have e0 : (((min b w : Nat) : Int)).toNat = min b w := Int.toNat_natCast _
        rw [e0, hfin]
        exact s_ret (ev_var rfl) fun H7 e7 => q _ H7 (ex.trans e7) (.int _)
    have n5 := of_decide_eq_false e
    refine q_when (et_test (eqS (b := .slt) (ev_var rfl) ev_c)) (fun e H6 e6 => ?_) (fun e H6 e6 => ?_)
    · cases of_decide_eq_true e
      cases ho
    have hl : o = .lt ∨ o = .eq := by
      cases o <;> first | (exact .inl rfl) | (exact .inr rfl) | (exact absurd (by decide) n1) | (exact absurd (by decide) n4) | (exact absurd (by decide) n5) | (cases ho)
    refine s_ret (v := .int ((opW w o a b : Nat) : Int)) (ev_if (et_test (eqS (b := .lt) (ev_var rfl) ev_c)) (fun e => ?_) (fun e => ?_)) fun H7 e7 => q _ H7 ((((e13.trans e4).trans e5).trans e6).trans e7) (.int _)
    · cases of_decide_eq_true e
      refine ev_is (int_b rfl (ev_op (ev_var rfl) (ev_var rfl) rv_I0)) ?_
      simp only [opW]
      by_cases h : a < b
      · simp [h]
      · simp [h]
    · have hx : o = .eq := hl.resolve_left (of_decide_eq_false e)
      subst hx
      refine ev_is (int_b rfl (ev_op (ev_var rfl) (ev_var rfl) (rv_eq rfl))) ?_
      simp only [opW]
      by_cases h : a = b
      · simp [h]
      · have : ¬ (V.int (a : Int) = V.int (b : Int)) := fun z => h (by have := V.int.inj z; omega)
        simp [h, this]
end
end K34

namespace K34
open PySem PySem.Spec PyProof.Rows L2 Evl Pd
abbrev sPartWord : Stmt := topS 14
abbrev sRowWord : Stmt := topS 15
abbrev sRowTable : Stmt := topS 16
abbrev sRowCost : Stmt := topS 17
abbrev sIsRule : Stmt := topS 18
abbrev sColumn : Stmt := topS 19
abbrev sLawPart : Stmt := topS 29
abbrev sLawRowWord : Stmt := topS 30
abbrev sLawTable : Stmt := topS 31
theorem scPartWord : FnScope ["w", "part", "x", "done"] ["w", "part", "x", "done"] (defScope sPartWord) := ⟨rfl, rfl, rfl, by decide +kernel, rfl, by decide +kernel, by decide +kernel⟩
theorem scLawPart : FnScope ["w", "part", "x", "done"] ["w", "part", "x", "done"] (defScope sLawPart) := ⟨rfl, rfl, rfl, by decide +kernel, rfl, by decide +kernel, by decide +kernel⟩
theorem scRowWord : FnScope ["w", "row", "x", "done", "op", "one", "other"] ["w", "row", "x"] (defScope sRowWord) := ⟨rfl, rfl, rfl, by decide +kernel, rfl, by decide +kernel, by decide +kernel⟩
theorem scLawRowWord : FnScope ["w", "row", "x", "done", "op", "one", "other"] ["w", "row", "x"] (defScope sLawRowWord) := ⟨rfl, rfl, rfl, by decide +kernel, rfl, by decide +kernel, by decide +kernel⟩
theorem scRowTable : FnScope ["w", "row", "x"] ["w", "row"] (defScope sRowTable) := ⟨rfl, rfl, rfl, by decide +kernel, rfl, by decide +kernel, by decide +kernel⟩
theorem scLawTable : FnScope ["w", "row", "x"] ["w", "row"] (defScope sLawTable) := ⟨rfl, rfl, rfl, by decide +kernel, rfl, by decide +kernel, by decide +kernel⟩
/-! ### parts -/
def Part.isN : Part → Bool
  | .n _ => true
  | _ => false
/-- the word of a part, the done words in a list -/
def spPart (K : PySem.W.Frag) : Sp := fun vs H Q _ => ∃ (w x : Nat) (p : Part) (done : List Nat) (v : V) (a : Addr), vs = [.int (w : Int), v, .int (x : Int), .ref a] ∧ PV K H v p.d ∧ SqL K H a (done.map fun (n : Nat) => V.int (n : Int)) ∧ W2 w ∧ p.ok done.length ∧
  ∀ H', Ex H H' → Q (.int ((pw w p x done : Nat) : Int)) H'
section
variable {P : Program} {w : World} {K : PySem.W.Frag} {mg : Str → Option Value} {base : Heap}
theorem isTup {H : Hp} {v : V} {p : Part} (h : PV K H v p.d) : ∃ t, TyX K H v t ∧ PySem.W.kitOne K t (.type "tuple") = some p.isN := by
  cases p with
  | x =>
    cases pv_str h
    exact ⟨_, .base (.str _), kit_ty (show kitB "str" "tuple" = some false by decide +kernel)⟩
  | n i =>
    obtain ⟨a, xs, rfl, hx, _⟩ := pv_tup h
    refine ⟨.type "tuple", ?_, kit_ty (show kitB "tuple" "tuple" = some true by decide +kernel)⟩
    rcases hx with e | ⟨o, its, n, e, c, _⟩
    · exact .base (.tup e)
    · exact .kTuple e c
  | j k =>
    cases pv_int h
    exact ⟨_, .base (.int _), kit_ty (show kitB "int" "tuple" = some false by decide +kernel)⟩
theorem ev_isi {σ : L2.St} {H : Hp} {p : Part} {ta tb : TE} (h : EvP K ta σ H p.d) (hb : Ev tb σ H (.ty "tuple")) : Ev (tCB (rIsi K) (tCons ta (tCons tb tNil))) σ H (.bl p.isN) := fun H1 e Q q =>
  h H1 e _ fun u H2 e2 pu => hb H2 (e.trans e2) _ fun H3 e3 => by
    obtain ⟨t, ty, kk⟩ := isTup (pu.ex e3)
    exact ⟨u, .ty "tuple", t, .type "tuple", _, rfl, .ty _, ty, kk, q H3 (e2.trans e3)⟩
theorem ok_part_word {f fW : Addr} {fd fdW : FuncData} (F : Fun K "part_word" "part_word" sPartWord f fd) (FW : Fun K "word_of" "word_of" sWordOf fW fdW) (bW : Binds K fdW ["w", "number"] []) (gW : mg "word_of" = some (.ref fW))
    (ms : mg "isinstance" = none) (mt : mg "tuple" = none) : FnOk P w K mg base CX0 2 f fd ["w", "part", "x", "done"] (spPart K) := by
  have GW : FnOk P w K mg base CX0 1 fW fdW ["w", "number"] (spWordOf K) := ok_word_of FW
  refine F.ok scPartWord (fun vs H Q E h => ?_) (fun cdv A outer s H vs Q E hr h => ?_)
  · obtain ⟨w, x, p, done, v, a, rfl, _⟩ := h
    rfl
  · obtain ⟨w, x, p, done, v, a, rfl, hv, hd, hw, hp, q⟩ := h
    refine ⟨_, pss_cons (ps_if (pt_cmpR (op_eqD hr.units) (pv 1) pe_str (nomark _)) (pss_one (ps_ret (pv 2))) pss_nil)
      (pss_one (ps_ret (pe_ifExp (pt_val (pe_callB call_isi (by rfl) ms (by decide +kernel) (pa_cons (pv 1) (pa_cons (pe_bltn (v := .ty "tuple") (u := .type "tuple") (by rfl) mt (by decide +kernel) rfl) pa_nil))))
        (pe_call GW hr (by rfl) gW FW.kp bW .nil pass0 (pa_cons (pv 0) (pa_cons (pe_ix ix_tup (pv 1) pe_int (fun _ _ => rfl)) pa_nil))) (pe_ix ix_list (pv 3) (pv 1) (fun _ _ => rfl))))), ?_⟩
    refine q_when (et_test (ev_is (et_eqD (ep_var rfl hv) ep_str (partD_shaped p) (by decide +kernel)) (congrArg V.bl (part_eqv_x p)))) (fun e H1 e1 => ?_) (fun e H1 e1 => ?_)
    · cases of_decide_eq_true e
      exact s_ret (ev_var rfl) fun H2 e2 => q H2 (e1.trans e2)
    · have hx := of_decide_eq_false e
      refine s_ret (v := .int ((pw w p x done : Nat) : Int)) (ev_if (et_B (ev_isi (ep_var rfl (hv.ex e1)) ev_c)) (fun e => ?_) (fun e => ?_)) fun H2 e2 => q H2 (e1.trans e2)
      · cases p with
        | x => cases e
        | j k => cases e
        | n i =>
          refine ev_is (spWordOf_call (ev_var rfl) (ev_epI (ep_ixT (i := 1) (ep_var rfl (hv.ex e1)) ev_c rfl)) (w_le hw)) ?_
          simp [pw]
      · cases p with
        | x => exact absurd rfl hx
        | n i => cases e
        | j k =>
          cases pv_int hv
          have hk : k < done.length := hp
          refine ev_is (ev_op (ev_var rfl) (ev_var rfl) (rv_ixL (ex_l e1 hd) (atI_nat (j := k) (by rw [List.getElem?_map, List.getElem?_eq_getElem hk]; rfl)))) ?_
          show V.int _ = V.int ((done.getD k 0 : Nat) : Int)
          rw [List.getD_eq_getElem?_getD, List.getElem?_eq_getElem hk]
          rfl
theorem ok_law_part {f : Addr} {fd : FuncData} (F : Fun K "_law_part" "_law_part" sLawPart f fd) (ms : mg "isinstance" = none) (mt : mg "tuple" = none) : FnOk P w K mg base CX0 1 f fd ["w", "part", "x", "done"] (spPart K) := by
  refine F.ok scLawPart (fun vs H Q E h => ?_) (fun cdv A outer s H vs Q E hr h => ?_)
  · obtain ⟨w, x, p, done, v, a, rfl, _⟩ := h
    rfl
  · obtain ⟨w, x, p, done, v, a, rfl, hv, hd, hw, hp, q⟩ := h
    refine ⟨_, pss_cons (ps_if (pt_cmpR (op_eqD hr.units) (pv 1) pe_str (nomark _)) (pss_one (ps_ret (pv 2))) pss_nil)
      (pss_one (ps_ret (pe_ifExp (pt_val (pe_callB call_isi (by rfl) ms (by decide +kernel) (pa_cons (pv 1) (pa_cons (pe_bltn (v := .ty "tuple") (u := .type "tuple") (by rfl) mt (by decide +kernel) rfl) pa_nil))))
        (pe_op op_sub (pe_ix ix_tup (pv 1) pe_int (fun _ _ => rfl)) (pe_op op_mul (pe_op op_shl pe_int (pv 0)) (pe_op op_fdivN (pe_ix ix_tup (pv 1) pe_int (fun _ _ => rfl)) (pe_op op_shl pe_int (pv 0))))) (pe_ix ix_list (pv 3) (pv 1) (fun _ _ => rfl))))), ?_⟩
    refine q_when (et_test (ev_is (et_eqD (ep_var rfl hv) ep_str (partD_shaped p) (by decide +kernel)) (congrArg V.bl (part_eqv_x p)))) (fun e H1 e1 => ?_) (fun e H1 e1 => ?_)
    · cases of_decide_eq_true e
      exact s_ret (ev_var rfl) fun H2 e2 => q H2 (e1.trans e2)
    · have hx := of_decide_eq_false e
      refine s_ret (v := .int ((pw w p x done : Nat) : Int)) (ev_if (et_B (ev_isi (ep_var rfl (hv.ex e1)) ev_c)) (fun e => ?_) (fun e => ?_)) fun H2 e2 => q H2 (e1.trans e2)
      · cases p with
        | x => cases e
        | j k => cases e
        | n i =>
          have h1 : EvP K (tOp (rIxT K) (tVar 1) (tC (.int 1))) (L2.start ["w", "part", "x", "done"] [.int (w : Int), v, .int (x : Int), .ref a]) H1 (.int (i : Int)) := ep_ixT (i := 1) (ep_var rfl (hv.ex e1)) ev_c rfl
          refine ev_is (modL hw (ev_epI h1) (ev_epI h1) (shl1 (ev_var rfl) (w_le hw)) (shl1 (ev_var rfl) (w_le hw))) ?_
          simp [pw]
      · cases p with
        | x => exact absurd rfl hx
        | n i => cases e
        | j k =>
          cases pv_int hv
          have hk : k < done.length := hp
          refine ev_is (ev_op (ev_var rfl) (ev_var rfl) (rv_ixL (ex_l e1 hd) (atI_nat (j := k) (by rw [List.getElem?_map, List.getElem?_eq_getElem hk]; rfl)))) ?_
          show V.int _ = V.int ((done.getD k 0 : Nat) : Int)
          rw [List.getD_eq_getElem?_getD, List.getElem?_eq_getElem hk]
          rfl
end
end K34

namespace K34
open PySem PySem.Spec PyProof.Rows L2 Evl Pd
def wordsV (l : List Nat) : List V := l.map fun (n : Nat) => V.int (n : Int)
/-- the word of a row, both ways -/
def spRow (K : PySem.W.Frag) : Sp := spP K fun ds d => ∃ (w x : Nat) (row : Row), ds = [natD w, rowD row, natD x] ∧ W2 w ∧ RowOk row ∧ row.length ≤ 100 ∧ x < 2 ^ w ∧ d = natD (rowW w row x)
section
variable {P : Program} {w : World} {K : PySem.W.Frag} {mg : Str → Option Value} {base : Heap}
theorem ev_part {σ : L2.St} {H : Hp} {E : XK} {ta tb tc td : TE} {w x : Nat} {p : Part} {done : List Nat} {v : V} {a : Addr} (h1 : Ev ta σ H (.int (w : Int))) (h2 : Ev tb σ H v) (h3 : Ev tc σ H (.int (x : Int))) (h4 : Ev td σ H (.ref a))
    (hv : PV K H v p.d) (hd : SqL K H a (wordsV done)) (hw : W2 w) (hp : p.ok done.length) : Ev (tCall (spPart K) [] E (tCons ta (tCons tb (tCons tc (tCons td tNil))))) σ H (.int ((pw w p x done : Nat) : Int)) :=
  ev_call (ea_cons h1 (ea_cons h2 (ea_cons h3 (ea_cons h4 ea_nil)))) fun H1 e Q q E => ⟨w, x, p, done, v, a, rfl, hv.ex e, ex_l e hd, hw, hp, fun H' e' => q H' e'⟩
theorem ev_operate {σ : L2.St} {H : Hp} {E : XK} {ta tb tc td : TE} {w a b : Nat} {o : Op} (h1 : Ev ta σ H (.int (w : Int))) (h2 : Ev tb σ H (.str o.s)) (h3 : Ev tc σ H (.int (a : Int))) (h4 : Ev td σ H (.int (b : Int)))
    (hw : W2 w) (ho : o.ok = true) (ha : a < 2 ^ w) (hb : b < 2 ^ w) : Ev (tCall (spOperate K) [] E (tCons ta (tCons tb (tCons tc (tCons td tNil))))) σ H (.int ((opW w o a b : Nat) : Int)) :=
  ev_epI (ep_call (eps_cons (ep_evI h1) (eps_cons (ep_ev h2 (.str _)) (eps_cons (ep_evI h3) (eps_cons (ep_evI h4) eps_nil)))) ⟨w, o, a, b, rfl, hw, ho, ha, hb, rfl⟩)
theorem wordsV_at {l : List Nat} {i n : Nat} (h : l[i]? = some n) : (wordsV l)[i]? = some (.int (n : Int)) := by
  unfold wordsV
  rw [List.getElem?_map, h]
  rfl
theorem wordsV_last {l : List Nat} {n : Nat} (h : l.getLast? = some n) : atI (wordsV l) (-1) = some (.int (n : Int)) := by
  obtain ⟨ys, rfl⟩ := List.getLast?_eq_some_iff.mp h
  have : wordsV (ys ++ [n]) = wordsV ys ++ [.int (n : Int)] := by
    unfold wordsV
    rw [List.map_append]
    rfl
  rw [this]
  exact atI_last _ _
/-- the loop over the triples, and what follows it -/
theorem row_loop {σr σx : Option V} {H H1 : Hp} {D : Ends} {tz : TS} {E1 E2 E3 : XK} {w x : Nat} {row : Row} {l : Addr} {rv : V} (hw : W2 w) (hok : RowOk row) (hlen : row.length ≤ 100) (hx : x < 2 ^ w) (e1 : Ex H H1) (hl : H l = none) (hl1 : H1 l = some (.lst [])) (hr : PV K H1 rv (rowD row))
    (k : ∀ σ' H', Ex H H' → H' l = some (.lst (wordsV (doneOf w x row))) → (∃ y4 y5 y6, σ' = [some (.int (w : Int)), some rv, some (.int (x : Int)), some (.ref l), y4, y5, y6]) → tz D σ' H') :
    tSeq (tFor (iTup K (tVar 1)) (gTup K 3 (gCons (gName 4) (gCons (gName 5) (gCons (gName 6) gNil))))
      (tDrop (tBM K "list" rAppend (tVar 3) (tCons (tCall (spOperate K) [] E1 (tCons (tVar 0) (tCons (tVar 4) (tCons (tCall (spPart K) [] E2 (tCons (tVar 0) (tCons (tVar 5) (tCons (tVar 2) (tCons (tVar 3) tNil))))) (tCons (tCall (spPart K) [] E3 (tCons (tVar 0) (tCons (tVar 6) (tCons (tVar 2) (tCons (tVar 3) tNil))))) tNil))))) tNil))))
      tz D [some (.int (w : Int)), some rv, some (.int (x : Int)), some (.ref l), none, none, none] H1 := by
  refine q_forTP (ep_var rfl hr) (fun H2 i σ' H' => ∃ y4 y5 y6, σ' = [some (.int (w : Int)), some rv, some (.int (x : Int)), some (.ref l), y4, y5, y6] ∧ Tx H2 H' ∧ Ex H H' ∧ H' l = some (.lst (wordsV (doneOf w x (row.take i)))))
    (fun H2 e2 => ⟨none, none, none, rfl, Tx.refl _, e1.trans e2, e2 l _ hl1⟩) (fun H2 i σ' H' ⟨_, _, _, _, t, _⟩ => t) ?_ ?_
  · rintro H2 i y d σ' H' e2 hd pd ⟨y4, y5, y6, rfl, tx, ex, hL⟩
    obtain ⟨t, ht, rfl⟩ : ∃ t, row[i]? = some t ∧ triD t = d := by
      rw [List.getElem?_map] at hd
      cases e : row[i]? with
      | none => rw [e] at hd; cases hd
      | some t => rw [e] at hd; exact ⟨t, rfl, Option.some.inj hd⟩
    have hi : i < row.length := (List.getElem?_eq_some_iff.mp ht).1
    have hat := hok i t ht
    have hdl : (doneOf w x (row.take i)).length = i := by
      rw [doneOf_len, List.length_take]
      omega
    refine g_tup3 pd fun v1 v2 v3 p1 p2 p3 => ?_
    cases pv_str p1
    have hdn : ∀ v ∈ doneOf w x (row.take i), v < 2 ^ w := doneOf_lt hw hx (hok.take i)
    refine s_app (v := .int ((opW w t.1 (pw w t.2.1 x (doneOf w x (row.take i))) (pw w t.2.2 x (doneOf w x (row.take i))) : Nat) : Int)) hL (ev_var rfl) (ev_operate (ev_var rfl) (ev_var rfl)
      (ev_part (v := v2) (ev_var rfl) (ev_var rfl) (ev_var rfl) (ev_var rfl) p2 (SqL.of hL) hw (by rw [hdl]; exact hat.2.1)) (ev_part (v := v3) (ev_var rfl) (ev_var rfl) (ev_var rfl) (ev_var rfl) p3 (SqL.of hL) hw (by rw [hdl]; exact hat.2.2))
      hw hat.1 (pw_lt hx hdn) (pw_lt hx hdn)) ?_ fun H3 e3 => ?_
    · unfold wordsV
      rw [List.length_map, hdl]
      omega
    · refine ⟨_, _, _, rfl, (tx.trans (tx_of e3)).trans (Tx.updL (e3 l _ hL)), Ex.mut (ex.trans e3) hl, ?_⟩
      rw [upd_same, take_succ_row ht, doneOf_snoc]
      unfold step wordsV
      rw [List.map_append]
      rfl
  · rintro H2 σ' H' e2 ⟨y4, y5, y6, rfl, tx, ex, hL⟩
    rw [List.length_map, List.take_length] at hL
    exact k _ H' ex hL ⟨_, _, _, rfl⟩
theorem ok_row_word {f fO fP : Addr} {fd fdO fdP : FuncData} (F : Fun K "row_word" "row_word" sRowWord f fd) (GO : FnOk P w K mg base CX0 3 fO fdO ["w", "op", "a", "b"] (spOperate K)) (kO : PySem.W.keepIn K (.ref fO) = true) (bO : Binds K fdO ["w", "op", "a", "b"] []) (gO : mg "operate" = some (.ref fO))
    (GP : FnOk P w K mg base CX0 2 fP fdP ["w", "part", "x", "done"] (spPart K)) (kP : PySem.W.keepIn K (.ref fP) = true) (bP : Binds K fdP ["w", "part", "x", "done"] []) (gP : mg "part_word" = some (.ref fP)) : FnOk P w K mg base CX0 4 f fd ["w", "row", "x"] (spRow K) := by
  refine F.ok scRowWord (fun vs H Q E h => ?_) (fun cdv A outer s H vs Q E hr h => ?_)
  · obtain ⟨ds, d, ps, ⟨w, x, row, rfl, _⟩, _⟩ := h
    exact ps.length
  · obtain ⟨ds, d, ps, ⟨w, x, row, rfl, hw, hok, hlen, hx, rfl⟩, q⟩ := h
    obtain ⟨_, rv, _, rfl, a1, a2, a3⟩ := pvs3 ps
    cases pv_int a1
    cases pv_int a3
    have hr2 : Room 2 _ := hr.mono (by decide)
    refine ⟨_, pss_cons (ps_set (i := 3) scRowWord.nd rfl (.inl rfl) (pe_lst pa_nil))
      (pss_cons (ps_for PassesOwn.never rfl (pi_tup (pv 1)) (pg_tup rfl (pgs_cons (pg_name (i := 4) scRowWord.nd rfl (.inl rfl)) (pgs_cons (pg_name (i := 5) scRowWord.nd rfl (.inl rfl)) (pgs_cons (pg_name (i := 6) scRowWord.nd rfl (.inl rfl)) pgs_nil))))
        (pss_one (ps_expr (pe_bm PySem.F.plainAttrs_list PySem.F.slot_list_append PySem.F.type_list_append mt_append (pv 3) (pa_cons (pe_call GO hr (by rfl) gO kO bO .nil pass0 (pa_cons (pv 0) (pa_cons (pv 4)
          (pa_cons (pe_call GP hr2 (by rfl) gP kP bP .nil pass0 (pa_cons (pv 0) (pa_cons (pv 5) (pa_cons (pv 2) (pa_cons (pv 3) pa_nil))))) (pa_cons (pe_call GP hr2 (by rfl) gP kP bP .nil pass0 (pa_cons (pv 0) (pa_cons (pv 6) (pa_cons (pv 2) (pa_cons (pv 3) pa_nil))))) pa_nil))))) pa_nil)))))
      (pss_one (ps_ret (pe_ifExp (pt_truth (pv 3) (by intro _; rfl)) (pe_ix ix_list (pv 3) (pe_un un_neg pe_int) (fun _ _ => rfl)) (pv 2))))), ?_⟩
    refine q_asgPL (K := K) (el_tup eps_nil (by decide)) fun l vs H1 hl e1 hl1 pl => ?_
    cases pl
    refine row_loop (σr := none) (σx := none) hw hok hlen hx e1 hl hl1 (a2.ex e1) fun σ' H' ex hL hσ => ?_
    obtain ⟨y4, y5, y6, rfl⟩ := hσ
    refine s_ret (v := .int ((rowW w row x : Nat) : Int)) (ev_if (b := !(doneOf w x row).isEmpty) (fun H2 e2 Q q => ⟨.ref l, rfl, _, .inl ⟨_, SqL.of (e2 l _ hL), by cases doneOf w x row <;> rfl⟩, q H2 (Ex.refl H2)⟩) (fun e => ?_) (fun e => ?_)) fun H2 e2 => q _ H2 (ex.trans e2) (.int _)
    · obtain ⟨n, hn⟩ : ∃ n, (doneOf w x row).getLast? = some n := by
        cases h : (doneOf w x row).getLast? with
        | none => rw [List.getLast?_eq_none_iff.mp h] at e; cases e
        | some n => exact ⟨n, rfl⟩
      refine ev_is (ev_op (ev_var rfl) (ev_un ev_c ru_neg) (rv_ixL (SqL.of hL) (wordsV_last hn))) ?_
      unfold rowW
      rw [hn]
      rfl
    · have hz : doneOf w x row = [] := by
        cases h : doneOf w x row with
        | nil => rfl
        | cons a b => rw [h] at e; cases e
      refine ev_is (ev_var rfl) ?_
      unfold rowW
      rw [hz]
      rfl
theorem ok_law_row_word {f fO fP : Addr} {fd fdO fdP : FuncData} (F : Fun K "_law_row_word" "_law_row_word" sLawRowWord f fd) (GO : FnOk P w K mg base CX0 2 fO fdO ["w", "op", "a", "b"] (spOperate K)) (kO : PySem.W.keepIn K (.ref fO) = true) (bO : Binds K fdO ["w", "op", "a", "b"] []) (gO : mg "_law_op" = some (.ref fO))
    (GP : FnOk P w K mg base CX0 1 fP fdP ["w", "part", "x", "done"] (spPart K)) (kP : PySem.W.keepIn K (.ref fP) = true) (bP : Binds K fdP ["w", "part", "x", "done"] []) (gP : mg "_law_part" = some (.ref fP)) (ml : mg "len" = none) : FnOk P w K mg base CX0 3 f fd ["w", "row", "x"] (spRow K) := by
  refine F.ok scLawRowWord (fun vs H Q E h => ?_) (fun cdv A outer s H vs Q E hr h => ?_)
  · obtain ⟨ds, d, ps, ⟨w, x, row, rfl, _⟩, _⟩ := h
    exact ps.length
  · obtain ⟨ds, d, ps, ⟨w, x, row, rfl, hw, hok, hlen, hx, rfl⟩, q⟩ := h
    obtain ⟨_, rv, _, rfl, a1, a2, a3⟩ := pvs3 ps
    cases pv_int a1
    cases pv_int a3
    have hr1 : Room 1 _ := hr.mono (by decide)
    refine ⟨_, pss_cons (ps_set (i := 3) scLawRowWord.nd rfl (.inl rfl) (pe_lst pa_nil))
      (pss_cons (ps_for PassesOwn.never rfl (pi_tup (pv 1)) (pg_tup rfl (pgs_cons (pg_name (i := 4) scLawRowWord.nd rfl (.inl rfl)) (pgs_cons (pg_name (i := 5) scLawRowWord.nd rfl (.inl rfl)) (pgs_cons (pg_name (i := 6) scLawRowWord.nd rfl (.inl rfl)) pgs_nil))))
        (pss_one (ps_expr (pe_bm PySem.F.plainAttrs_list PySem.F.slot_list_append PySem.F.type_list_append mt_append (pv 3) (pa_cons (pe_call GO hr (by rfl) gO kO bO .nil pass0 (pa_cons (pv 0) (pa_cons (pv 4)
          (pa_cons (pe_call GP hr1 (by rfl) gP kP bP .nil pass0 (pa_cons (pv 0) (pa_cons (pv 5) (pa_cons (pv 2) (pa_cons (pv 3) pa_nil))))) (pa_cons (pe_call GP hr1 (by rfl) gP kP bP .nil pass0 (pa_cons (pv 0) (pa_cons (pv 6) (pa_cons (pv 2) (pa_cons (pv 3) pa_nil))))) pa_nil))))) pa_nil)))))
      (pss_one (ps_ret (pe_ifExp (pt_cmpR op_gt (pe_callB call_len_seq (by rfl) ml PySem.boot_len (pa_cons (pv 3) pa_nil)) pe_int (nomark _)) (pe_ix ix_list (pv 3) (pe_un un_neg pe_int) (fun _ _ => rfl)) (pv 2))))), ?_⟩
    refine q_asgPL (K := K) (el_tup eps_nil (by decide)) fun l vs H1 hl e1 hl1 pl => ?_
    cases pl
    refine row_loop (σr := none) (σx := none) hw hok hlen hx e1 hl hl1 (a2.ex e1) fun σ' H' ex hL hσ => ?_
    obtain ⟨y4, y5, y6, rfl⟩ := hσ
    refine s_ret (v := .int ((rowW w row x : Nat) : Int)) (ev_if (et_test (ev_op (ev_len (ev_var rfl) (SqL.of hL)) ev_c rv_I0)) (fun e => ?_) (fun e => ?_)) fun H2 e2 => q _ H2 (ex.trans e2) (.int _)
    · have h0 := of_decide_eq_true e
      obtain ⟨n, hn⟩ : ∃ n, (doneOf w x row).getLast? = some n := by
        cases h : (doneOf w x row).getLast? with
        | none =>
          rw [List.getLast?_eq_none_iff.mp h] at h0
          simp [wordsV] at h0
        | some n => exact ⟨n, rfl⟩
      refine ev_is (ev_op (ev_var rfl) (ev_un ev_c ru_neg) (rv_ixL (SqL.of hL) (wordsV_last hn))) ?_
      unfold rowW
      rw [hn]
      rfl
    · have h0 := of_decide_eq_false e
      have hz : doneOf w x row = [] := by
        cases h : doneOf w x row with
        | nil => rfl
        | cons a b =>
          rw [h] at h0
          simp [wordsV] at h0
      refine ev_is (ev_var rfl) ?_
      unfold rowW
      rw [hz]
      rfl
end
end K34

namespace K34
open PySem PySem.Spec PyProof.Rows L2 Evl Pd
def spTable (K : PySem.W.Frag) : Sp := spP K fun ds d => ∃ (w : Nat) (row : Row), ds = [natD w, rowD row] ∧ W2 w ∧ RowOk row ∧ row.length ≤ 100 ∧ d = tabD (tabW w row)
def col (w : Nat) (p : Part) (cols : List (List Nat)) : List Nat := match p with
  | .x => List.range (2 ^ w)
  | .n i => List.replicate (2 ^ w) (i % 2 ^ w)
  | .j k => cols.getD k []
def spColumn (K : PySem.W.Frag) : Sp := spP K fun ds d => ∃ (w : Nat) (p : Part) (cols : List (List Nat)), ds = [natD w, p.d, .tuple (cols.map tabD)] ∧ W2 w ∧ p.ok cols.length ∧ d = tabD (col w p cols)
def costOp : Op → Nat
  | .mul => 3 | .div => 6 | _ => 1
def cost (row : Row) : Nat := (row.map fun t => costOp t.1).sum
def spCost (K : PySem.W.Frag) : Sp := spP K fun ds d => ∃ (row : Row), ds = [rowD row] ∧ (∀ t ∈ row, t.1.ok = true) ∧ row.length ≤ 100 ∧ d = natD (cost row)
def spIsRule (K : PySem.W.Frag) : Sp := spP K fun ds d => ∃ (w : Nat) (one other : Row), ds = [natD w, rowD one, rowD other] ∧ W2 w ∧ RowOk one ∧ one.length ≤ 100 ∧ RowOk other ∧ other.length ≤ 100 ∧ d = .bool (decide (tabW w one = tabW w other))
/-! ### d.get(k, x) of a written dict with text keys -/
def tKGet2 (K : PySem.W.Frag) (w : World) (td ty tx : TE) : TE := fun σ H Q => td σ H fun x H1 => ∃ (d : Addr) (es : Array DictEntry) (n : Nat), x = .ref d ∧ KDict K w d es n ∧ ty σ H1 fun y H2 => tx σ H2 fun z H3 => ∃ (k : Str) (r : Option Value) (o : Option V), y = .str k ∧ PySem.W.nsIn K d k = some r ∧ RelO o r ∧ Q (o.getD z) H3
section
variable {X : Cx} {o e f : Expr} {td ty tx : TE} {apos cpos : Pos}
theorem pe_kget2 (ho : PE X o td) (he : PE X e ty) (hf : PE X f tx) (m : M2 X o "get" apos e f cpos) : PE X (.Call (.Attribute o "get" apos) [e, f] [] cpos) (tKGet2 X.K X.w td ty tx) := by
  refine ⟨fun pins s σ H Q I h => ?_⟩
  refine wpAny_Call_method m.base m.few m.line PySem.F.plainAttrs_dict PySem.F.slot_dict_get PySem.F.type_dict_get (thn (ho.run pins s σ H _ I h) fun u s1 ⟨x, H1, I1, rx, a, es, n, ex, D, q1⟩ => ?_)
  subst ex
  obtain rfl : u = Value.ref a := rx
  refine ⟨kd_type D I1, fun b hb => ?_, ?_⟩
  · cases hb
    exact ⟨_, I1.kIn _ _ D.at_, rfl⟩
  rw [m.trees]
  refine Calls.callWith_builtin rfl (Calls.evalArgs_plain (Calls.spliced_cons (thn (he.run pins s1 σ H1 _ I1 q1) fun iv s2 ⟨y, H2, I2, ry, q2⟩ =>
    Calls.spliced_cons (thn (hf.run pins s2 σ H2 _ I2 q2) fun fv s3 ⟨z, H3, I3, rz, k, r, ov, ey, hk, ro, q3⟩ => Calls.spliced_nil ?_))))
  subst ey
  obtain ⟨t, rfl⟩ := ry
  have hm := PySem.W.mapOf_K (prog := X.prog) (w := X.w) I3.kIn D.at_ D.lit
  refine call_meetsIn PySem.F.slot_dict_get hm.typeIs PySem.F.entry_dict_get (PySem.F.args_dict_get_3 _ _ _) (meets_dict_get_default (PySem.strKind X.prog X.w) a (PySem.strKind_is X.prog X.w k t) D.low fv) ⟨_, hm, ?_⟩
  rw [PySem.W.find_K D.at_ hk]
  refine ⟨ov.getD z, H3, I3.tok _, ?_, q3⟩
  cases ov with
  | none => cases r with
    | none => exact rz
    | some u => cases ro
  | some v => cases r with
    | none => cases ro
    | some u => exact ro
end
theorem scRowCost : FnScope ["row", "op", "_"] ["row"] (defScope sRowCost) := ⟨rfl, rfl, rfl, by decide +kernel, rfl, by decide +kernel, by decide +kernel⟩
theorem scIsRule : FnScope ["w", "one", "other"] ["w", "one", "other"] (defScope sIsRule) := ⟨rfl, rfl, rfl, by decide +kernel, rfl, by decide +kernel, by decide +kernel⟩
theorem scColumn : FnScope ["w", "part", "columns"] ["w", "part", "columns"] (defScope sColumn) := ⟨rfl, rfl, rfl, by decide +kernel, rfl, by decide +kernel, by decide +kernel⟩
section
variable {P : Program} {w : World} {K : PySem.W.Frag} {mg : Str → Option Value} {base : Heap}
theorem w_pow {w : Nat} (h : W2 w) : 2 ^ w ≤ 8 := by rcases h with rfl | rfl <;> decide
theorem shl1N {σ : L2.St} {H : Hp} {te : TE} {n : Nat} (h : Ev te σ H (.int (n : Int))) (hn : n ≤ 1000) : Ev (tOp (rI CPow fun i j => .int (i * 2 ^ j.toNat)) (tC (.int 1)) te) σ H (.int ((2 ^ n : Nat) : Int)) :=
  ev_is (shl1 h hn) (by simp)
theorem ok_table {f fR : Addr} {fd fdR : FuncData} {j : Nat} {x : Str} {st : Stmt} {rn : Str} (F : Fun K x x st f fd) (hst : st = sRowTable ∧ rn = "row_word" ∨ st = sLawTable ∧ rn = "_law_row_word")
    (GR : FnOk P w K mg base CX0 j fR fdR ["w", "row", "x"] (spRow K)) (kR : PySem.W.keepIn K (.ref fR) = true) (bR : Binds K fdR ["w", "row", "x"] []) (gR : mg rn = some (.ref fR)) (mt : mg "tuple" = none) (mr : mg "range" = none) : FnOk P w K mg base CX0 (j + 1) f fd ["w", "row"] (spTable K) := by
  have fin : ∀ {H : Hp} {Q : VK} {E1 : XK} {w : Nat} {row : Row} {rv : V}, W2 w → RowOk row → row.length ≤ 100 → PV K H rv (rowD row) → (∀ v H', Ex H H' → PV K H' v (tabD (tabW w row)) → Q v H') →
      tRet (tThen (tLc (iRng1 (tCons (tOp (rI CPow fun i j => .int (i * 2 ^ j.toNat)) (tC (.int 1)) (tVar 0)) tNil)) (gName 2) tYes (tCall (spRow K) [] E1 (tCons (tVar 0) (tCons (tVar 1) (tCons (tVar 2) tNil)))) [2]) (kTup K)) { nx := fun _ H' => Q .non H', rt := Q } [some (.int (w : Int)), some rv, none] H := by
    intro H Q E1 w row rv hw hok hlen hrv q
    refine s_retP (d := tabD (tabW w row)) (ep_tupleOf (ds := (tabW w row).map natD) ?_) q
    have := el_lcR (K := K) (σ := [some (.int (w : Int)), some rv, none]) (H := H) (te := tCall (spRow K) [] E1 (tCons (tVar 0) (tCons (tVar 1) (tCons (tVar 2) tNil)))) (ta := tCons (tOp (rI CPow fun i j => .int (i * 2 ^ j.toNat)) (tC (.int 1)) (tVar 0)) tNil) (j := 2) (vs := [2]) (n := 2 ^ w)
      (fun i => natD (rowW w row i)) (eps_cons (ep_evI (shl1N (ev_var rfl) (w_le hw))) eps_nil) (by have := w_pow hw; omega) (fun x => rfl)
      (fun i H1 e hi => ep_call (eps_cons (ep_ev (ev_var rfl) (.int _)) (eps_cons (ep_ev (ev_var rfl) (hrv.ex e)) (eps_cons (ep_ev (ev_var rfl) (.int _)) eps_nil))) ⟨w, i, row, rfl, hw, hok, hlen, hi, rfl⟩)
    unfold tabW
    rw [List.map_map]
    exact this
  rcases hst with ⟨rfl, rfl⟩ | ⟨rfl, rfl⟩
  · refine F.ok scRowTable (fun vs H Q E h => ?_) (fun cdv A outer s H vs Q E hr h => ?_)
    · obtain ⟨ds, d, ps, ⟨w, row, rfl, _⟩, _⟩ := h
      exact ps.length
    · obtain ⟨ds, d, ps, ⟨w, row, rfl, hw, hok, hlen, rfl⟩, q⟩ := h
      obtain ⟨_, rv, rfl, a1, a2⟩ := pvs2 ps
      cases pv_int a1
      refine ⟨_, pss_one (ps_ret (pe_tupleOf (by rfl) mt (pe_lc (own := [("x", 2)]) (g := gName 2) (tt := tYes) rfl scRowTable.nd (pi_range1 rfl mr (pa_cons (pe_op op_shl pe_int (pv 0)) pa_nil)) (blkOk_by (N := ["w", "row", "x"]) (sc := defScope sRowTable) (by decide +kernel))
        (fun _ _ _ _ _ => pg_name (i := 2) scRowTable.nd rfl (Or.inl rfl)) (fun _ _ _ _ _ => pts_nil) (fun _ _ _ _ _ => pe_call GR hr (by rfl) gR kR bR .nil pass0 (pa_cons (pv 0) (pa_cons (pv 1) (pa_cons (pv 2) pa_nil))))))), ?_⟩
      exact fin hw hok hlen a2 q
  · refine F.ok scLawTable (fun vs H Q E h => ?_) (fun cdv A outer s H vs Q E hr h => ?_)
    · obtain ⟨ds, d, ps, ⟨w, row, rfl, _⟩, _⟩ := h
      exact ps.length
    · obtain ⟨ds, d, ps, ⟨w, row, rfl, hw, hok, hlen, rfl⟩, q⟩ := h
      obtain ⟨_, rv, rfl, a1, a2⟩ := pvs2 ps
      cases pv_int a1
      refine ⟨_, pss_one (ps_ret (pe_tupleOf (by rfl) mt (pe_lc (own := [("x", 2)]) (g := gName 2) (tt := tYes) rfl scLawTable.nd (pi_range1 rfl mr (pa_cons (pe_op op_shl pe_int (pv 0)) pa_nil)) (blkOk_by (N := ["w", "row", "x"]) (sc := defScope sLawTable) (by decide +kernel))
        (fun _ _ _ _ _ => pg_name (i := 2) scLawTable.nd rfl (Or.inl rfl)) (fun _ _ _ _ _ => pts_nil) (fun _ _ _ _ _ => pe_call GR hr (by rfl) gR kR bR .nil pass0 (pa_cons (pv 0) (pa_cons (pv 1) (pa_cons (pv 2) pa_nil))))))), ?_⟩
      exact fin hw hok hlen a2 q
/-! ### t * k, sums -/
theorem PVs.rep {H : Hp} {vs : List V} {ds : List PyData} (h : PVs K H vs ds) : ∀ k : Nat, PVs K H (List.replicate k vs).flatten (List.replicate k ds).flatten
  | 0 => .nil
  | k + 1 => by
    rw [List.replicate_succ, List.replicate_succ, List.flatten_cons, List.flatten_cons]
    exact h.append (PVs.rep h k)
theorem ep_rep {σ : L2.St} {H : Hp} {ta tb : TE} {ds : List PyData} {k : Nat} (h : EvP K ta σ H (.tuple ds)) (h2 : Ev tb σ H (.int (k : Int))) (hn : ds ≠ []) (h0 : 2 ≤ k) (h1 : k ≤ 1000) (hl : ds.length ≤ 1000) : EvP K (tOp (rRepT K) ta tb) σ H (.tuple (List.replicate k ds).flatten) := fun H1 e Q q =>
  h H1 e _ fun v H2 e2 p => h2 H2 (e.trans e2) _ fun H3 e3 => by
    obtain ⟨a, xs, rfl, hx, px⟩ := pv_tup (p.ex e3)
    refine ⟨a, (k : Int), xs, rfl, rfl, hx.sq, fun z => ?_, by omega, by omega, by rw [px.length]; exact hl, fun c hc => ?_⟩
    · subst z
      cases px
      exact hn rfl
    · refine q _ _ ((e2.trans e3).trans (Ex.new hc)) (.tup (.inl upd_same) ?_)
      rw [Int.toNat_natCast]
      exact (PVs.rep px k).ex (Ex.new hc)
theorem ev_sum {σ : L2.St} {H : Hp} {te : TE} {ns : List Int} (h : EvPL K te σ H (ns.map PyData.int)) : Ev (tCB (rSum K) (tCons te tNil)) σ H (.int ns.sum) := fun H1 e Q q =>
  h H1 e _ fun p vs H2 hp e2 hl ps => by
    rw [PVs.of_ints ps] at hl
    exact ⟨p, ns, rfl, SqL.of hl, q H2 e2⟩
theorem ep_col {σ : L2.St} {H : Hp} {E : XK} {ta tb tc : TE} {w i : Nat} (hw : W2 w) (h1 : Ev ta σ H (.int (w : Int))) (h2 : Ev tb σ H (.int (i : Int))) (h3 : Ev tc σ H (.int ((2 ^ w : Nat) : Int))) :
    EvP K (tOp (rRepT K) (tTup (tCons (tCall (spWordOf K) [] E (tCons ta (tCons tb tNil))) tNil)) tc) σ H (tabD (List.replicate (2 ^ w) (i % 2 ^ w))) := by
  have hw8 := w_pow hw
  have h4 : 4 ≤ 2 ^ w := by rcases hw with rfl | rfl <;> decide
  have h := ep_rep (K := K) (ds := [natD (i % 2 ^ w)]) (ep_tup (eps_cons (ep_evI (ev_is (spWordOf_call (K := K) (E := E) h1 h2 (w_le hw)) (by simp))) eps_nil) (by simp)) h3 (by simp) (by omega) (by omega) (by simp)
  have e : (List.replicate (2 ^ w) [natD (i % 2 ^ w)]).flatten = (List.replicate (2 ^ w) (i % 2 ^ w)).map natD := by
    rw [List.map_replicate]
    generalize i % 2 ^ w = m
    generalize 2 ^ w = n
    induction n with
    | zero => rfl
    | succ n ih =>
      rw [List.replicate_succ, List.flatten_cons, ih, List.replicate_succ]
      rfl
  rw [e] at h
  exact h
theorem ok_column {f fW : Addr} {fd fdW : FuncData} (F : Fun K "column" "column" sColumn f fd) (FW : Fun K "word_of" "word_of" sWordOf fW fdW) (bW : Binds K fdW ["w", "number"] []) (gW : mg "word_of" = some (.ref fW))
    (ms : mg "isinstance" = none) (mt : mg "tuple" = none) (mr : mg "range" = none) : FnOk P w K mg base CX0 2 f fd ["w", "part", "columns"] (spColumn K) := by
  have GW : FnOk P w K mg base CX0 1 fW fdW ["w", "number"] (spWordOf K) := ok_word_of FW
  refine F.ok scColumn (fun vs H Q E h => ?_) (fun cdv A outer s H vs Q E hr h => ?_)
  · obtain ⟨ds, d, ps, ⟨w, p, cols, rfl, _⟩, _⟩ := h
    exact ps.length
  · obtain ⟨ds, d, ps, ⟨w, p, cols, rfl, hw, hp, rfl⟩, q⟩ := h
    obtain ⟨_, v2, v3, rfl, a1, a2, a3⟩ := pvs3 ps
    cases pv_int a1
    have hw8 := w_pow hw
    refine ⟨_, pss_cons (ps_if (pt_cmpR (op_eqD hr.units) (pv 1) pe_str (nomark _)) (pss_one (ps_ret (pe_tupRg rfl (by rfl) mt (prg_1 (by rfl) mr (pe_op op_shl pe_int (pv 0)))))) pss_nil)
      (pss_one (ps_ret (pe_ifExp (pt_val (pe_callB call_isi (by rfl) ms (by decide +kernel) (pa_cons (pv 1) (pa_cons (pe_bltn (v := .ty "tuple") (u := .type "tuple") (by rfl) mt (by decide +kernel) rfl) pa_nil))))
        (pe_op op_repT (pe_tup (pa_cons (pe_call GW hr (by rfl) gW FW.kp bW .nil pass0 (pa_cons (pv 0) (pa_cons (pe_ix ix_tup (pv 1) pe_int (fun _ _ => rfl)) pa_nil))) pa_nil)) (pe_op op_shl pe_int (pv 0))) (pe_ix ix_tup (pv 2) (pv 1) (fun _ _ => rfl))))), ?_⟩
    refine q_when (et_test (ev_is (et_eqD (ep_var rfl a2) ep_str (partD_shaped p) (by decide +kernel)) (congrArg V.bl (part_eqv_x p)))) (fun e H1 e1 => ?_) (fun e H1 e1 => ?_)
    · cases of_decide_eq_true e
      refine s_retP (d := tabD (List.range (2 ^ w))) ?_ fun v H2 e2 p => q v H2 (e1.trans e2) p
      have := ep_tupRg (K := K) (n := 2 ^ w) (H := H1) (σ := L2.start ["w", "part", "columns"] [.int (w : Int), v2, v3]) (shl1N (te := tVar 0) (ev_var rfl) (w_le hw)) (by omega)
      unfold Pd.upTo at this
      rw [List.map_map] at this
      exact this
    · have hx := of_decide_eq_false e
      refine s_retP (d := tabD (col w p cols)) (ep_if (et_B (ev_isi (ep_var rfl (a2.ex e1)) ev_c)) (fun e => ?_) (fun e => ?_)) fun v H2 e2 p => q v H2 (e1.trans e2) p
      · cases p with
        | x => cases e
        | j k => cases e
        | n i =>
          exact ep_col hw (ev_var rfl) (ev_epI (ep_ixT (i := 1) (ep_var rfl (a2.ex e1)) ev_c rfl)) (shl1N (ev_var rfl) (w_le hw))
      · cases p with
        | x => exact absurd rfl hx
        | n i => cases e
        | j k =>
          cases pv_int a2
          have hk : k < cols.length := hp
          refine ep_ixT (i := k) (ep_var rfl (a3.ex e1)) (ev_var rfl) ?_
          rw [List.getElem?_map, List.getElem?_eq_getElem hk]
          show some (tabD cols[k]) = some (tabD (cols.getD k []))
          rw [List.getD_eq_getElem?_getD, List.getElem?_eq_getElem hk]
          rfl
/-! ### costs -/
/-- the module's dict of costs -/
structure Costs (K : PySem.W.Frag) (w : World) (mg : Str → Option Value) (d : Addr) : Prop where
  gv : mg "COSTS" = some (.ref d)
  kd : ∃ es n, KDict K w d es n
  mul : ∃ t, PySem.W.nsIn K d "mul" = some (some (.int 3 t))
  no : ∀ o : Op, o.ok = true → o ≠ .mul → PySem.W.nsIn K d o.s = some none
theorem Costs.at_ {d : Addr} (C : Costs K w mg d) (o : Op) (h : o.ok = true) : ∃ r ov, PySem.W.nsIn K d o.s = some r ∧ RelO ov r ∧ ov.getD (.int 1) = .int (costOp o : Int) := by
  by_cases hm : o = .mul
  · subst hm
    obtain ⟨t, e⟩ := C.mul
    exact ⟨_, some (.int 3), e, ⟨t, rfl⟩, rfl⟩
  · refine ⟨none, none, C.no o h hm, trivial, ?_⟩
    cases o <;> first | rfl | (exact absurd rfl hm) | (cases h)
theorem map_at {α β : Type} {f : α → β} {l : List α} {i : Nat} {y : β} (h : (l.map f)[i]? = some y) : ∃ x, l[i]? = some x ∧ f x = y := by
  rw [List.getElem?_map] at h
  cases e : l[i]? with
  | none => rw [e] at h; cases h
  | some x => rw [e] at h; exact ⟨x, rfl, Option.some.inj h⟩
theorem cost_sum (row : Row) : (cost row : Int) = (row.map fun t => (costOp t.1 : Int)).sum := by
  unfold cost
  induction row with
  | nil => rfl
  | cons t r ih =>
    rw [List.map_cons, List.map_cons, List.sum_cons, List.sum_cons, ← ih]
    simp
theorem ok_row_cost {f dC : Addr} {fd : FuncData} (F : Fun K "row_cost" "row_cost" sRowCost f fd) (C : Costs K w mg dC) (ms : mg "sum" = none) : FnOk P w K mg base CX0 1 f fd ["row"] (spCost K) := by
  refine F.ok scRowCost (fun vs H Q E h => ?_) (fun cdv A outer s H vs Q E hr h => ?_)
  · obtain ⟨ds, d, ps, ⟨row, rfl, _⟩, _⟩ := h
    exact ps.length
  · obtain ⟨ds, d, ps, ⟨row, rfl, hok, hlen, rfl⟩, q⟩ := h
    obtain ⟨rv, rfl, a1⟩ := pvs1 ps
    obtain ⟨es, n, kd⟩ := C.kd
    refine ⟨_, pss_one (ps_ret (pe_callB (cr_sum rfl) (by rfl) ms (by decide +kernel) (pa_cons (pe_lc (own := [("op", 1), ("_", 2)]) (g := gTup K 3 (gCons (gName 1) (gCons (gName 2) (gCons (gName 2) gNil)))) (tt := tYes) (te := tKGet2 K w (tC (.ref dC)) (tVar 1) (tC (.int 1))) rfl scRowCost.nd (pi_tup (pv 0)) (blkOk_by (N := ["row", "op", "_"]) (sc := defScope sRowCost) (by decide +kernel))
        (fun _ _ _ _ _ => pg_tup rfl (pgs_cons (pg_name (i := 1) scRowCost.nd rfl (Or.inl rfl)) (pgs_cons (pg_name (i := 2) scRowCost.nd rfl (Or.inl rfl)) (pgs_cons (pg_name (i := 2) scRowCost.nd rfl (Or.inl rfl)) pgs_nil)))) (fun _ _ _ _ _ => pts_nil)
        (fun _ _ _ _ _ => pe_kget2 (pe_glob (v := .ref dC) (by rfl) C.gv (by rfl)) (pv 1) pe_int ⟨by rfl, by rfl, by rfl, by rfl⟩)) pa_nil))), ?_⟩
    refine s_ret (v := .int (cost row : Int)) (ev_is (ev_sum (ns := row.map fun t => (costOp t.1 : Int)) ?_) (by rw [cost_sum])) fun H1 e => q _ H1 e (.int _)
    refine el_lcT (σ := [some rv, none, none]) (tl := tVar 0) (g := gTup K 3 (gCons (gName 1) (gCons (gName 2) (gCons (gName 2) gNil)))) (te := tKGet2 K w (tC (.ref dC)) (tVar 1) (tC (.int 1))) (vs := [1, 2]) (ds := row.map triD) ((row.map fun t => (costOp t.1 : Int)).map PyData.int) (ep_var rfl a1) (by simp) (by rw [List.length_map]; omega) ?_
    intro i x c d H1 e hc pc hd Q k
    obtain ⟨t, ht, rfl⟩ := map_at hc
    obtain ⟨m, hm, rfl⟩ := map_at hd
    obtain ⟨t2, ht2, rfl⟩ := map_at hm
    rw [ht] at ht2
    cases ht2
    refine g_tup3 pc fun v1 v2 v3 p1 p2 p3 => k _ H1 (Ex.refl H1) rfl ?_
    cases pv_str p1
    obtain ⟨r, ov, e1, ro, e2⟩ := C.at_ t.1 (hok t (List.mem_of_getElem? ht))
    intro H2 x2 Q2 q2
    refine ⟨dC, es, n, rfl, kd, .str t.1.s, rfl, t.1.s, r, ov, rfl, e1, ro, ?_⟩
    rw [e2]
    exact q2 _ H2 (Ex.refl H2) (.int _)
theorem ok_is_rule {f fT : Addr} {fd fdT : FuncData} {j : Nat} (F : Fun K "is_rule" "is_rule" sIsRule f fd) (GT : FnOk P w K mg base CX0 j fT fdT ["w", "row"] (spTable K)) (kT : PySem.W.keepIn K (.ref fT) = true) (bT : Binds K fdT ["w", "row"] []) (gT : mg "row_table" = some (.ref fT)) :
    FnOk P w K mg base CX0 (j + 1) f fd ["w", "one", "other"] (spIsRule K) := by
  refine F.ok scIsRule (fun vs H Q E h => ?_) (fun cdv A outer s H vs Q E hr h => ?_)
  · obtain ⟨ds, d, ps, ⟨w, one, other, rfl, _⟩, _⟩ := h
    exact ps.length
  · obtain ⟨ds, d, ps, ⟨w, one, other, rfl, hw, h1, l1, h2, l2, rfl⟩, q⟩ := h
    obtain ⟨_, v2, v3, rfl, a1, a2, a3⟩ := pvs3 ps
    cases pv_int a1
    refine ⟨_, pss_one (ps_ret (pe_cmpR (op_eqD hr.units) (pe_call GT hr (by rfl) gT kT bT .nil pass0 (pa_cons (pv 0) (pa_cons (pv 1) pa_nil))) (pe_call GT hr (by rfl) gT kT bT .nil pass0 (pa_cons (pv 0) (pa_cons (pv 2) pa_nil))) (nomark _))), ?_⟩
    refine s_ret (et_eqD (ep_call (eps_cons (ep_ev (ev_var rfl) (.int _)) (eps_cons (ep_var rfl a2) eps_nil)) ⟨w, one, rfl, hw, h1, l1, rfl⟩) (ep_call (eps_cons (ep_ev (ev_var rfl) (.int _)) (eps_cons (ep_var rfl a3) eps_nil)) ⟨w, other, rfl, hw, h2, l2, rfl⟩) (tabD_shaped _) (tabD_shaped _)) fun H1 e => ?_
    rw [tab_eqv]
    exact q _ H1 e (.bl _)
end
end K34

namespace K34
open PySem PySem.Spec PyProof.Rows L2 Evl Pd
abbrev sSInit : Stmt := inClass (topS 20) 0
abbrev sTriples : Stmt := inClass (topS 20) 1
abbrev sGrown : Stmt := inClass (topS 20) 2
abbrev sFind : Stmt := inClass (topS 20) 3
abbrev sLast : Stmt := inClass (topS 20) 4
theorem scSInit : FnScope ["self", "w", "table", "ops", "numbers", "number"] ["self", "w", "table", "ops", "numbers"] (defScope sSInit) := ⟨rfl, rfl, rfl, by decide +kernel, rfl, by decide +kernel, by decide +kernel⟩
theorem scTriples : FnScope ["self", "many", "parts", "found", "op", "one", "other"] ["self", "many"] (defScope sTriples) := ⟨rfl, rfl, rfl, by decide +kernel, rfl, by decide +kernel, by decide +kernel⟩
def opsD (ops : List Op) : PyData := .tuple (ops.map fun o => .str o.s)
def numsD (nums : List Nat) : PyData := .tuple (nums.map natD)
def flds (w : Nat) (tv ov : V) (l : Addr) : List (Str × V) := [("w", .int (w : Int)), ("table", tv), ("ops", ov), ("numbers", .ref l)]
theorem putF_new {f : Str} {y : V} : ∀ {fs : List (Str × V)}, (∀ p ∈ fs, ¬ p.1 = f) → putF f y fs = fs ++ [(f, y)]
  | [], _ => rfl
  | (g, v) :: r, h => by
    unfold putF
    rw [if_neg (h (g, v) List.mem_cons_self), putF_new fun p hp => h p (List.mem_cons_of_mem _ hp)]
    rfl
theorem lk_ne {f g : Str} {v : V} {r : List (Str × V)} (h : ¬ f = g) : ((g, v) :: r).lookup f = r.lookup f := by
  rw [List.lookup_cons]
  have : (f == g) = false := beq_eq_false_iff_ne.mpr h
  rw [this]
theorem lk_eq {f : Str} {v : V} {r : List (Str × V)} : ((f, v) :: r).lookup f = some v := by
  rw [List.lookup_cons]
  simp
section
variable (w : Nat) (tv ov : V) (l : Addr)
theorem fl_w : (flds w tv ov l).lookup ("w" : Str) = some (V.int (w : Int)) := lk_eq
theorem fl_table : (flds w tv ov l).lookup ("table" : Str) = some tv := by
  unfold flds
  rw [lk_ne (by decide +kernel)]
  exact lk_eq
theorem fl_ops : (flds w tv ov l).lookup ("ops" : Str) = some ov := by
  unfold flds
  rw [lk_ne (by decide +kernel), lk_ne (by decide +kernel)]
  exact lk_eq
theorem fl_numbers : (flds w tv ov l).lookup ("numbers" : Str) = some (V.ref l) := by
  unfold flds
  rw [lk_ne (by decide +kernel), lk_ne (by decide +kernel), lk_ne (by decide +kernel)]
  exact lk_eq
theorem fl_no {m : Str} (h1 : ¬ m = "w") (h2 : ¬ m = "table") (h3 : ¬ m = "ops") (h4 : ¬ m = "numbers") : (flds w tv ov l).lookup m = none := by
  unfold flds
  rw [lk_ne h1, lk_ne h2, lk_ne h3, lk_ne h4]
  rfl
end
structure SearchAt (K : PySem.W.Frag) (C : Addr) (H : Hp) (p : Addr) (w : Nat) (tab : List Nat) (ops : List Op) (nums : List Nat) (dx : Addr) (tv ov : V) (l : Addr) (vs : List V) : Prop where
  ob : H p = some (.ins C dx (flds w tv ov l))
  tb : PV K H tv (tabD tab)
  op : PV K H ov (opsD ops)
  nl : H l = some (.lst vs)
  nu : PVs K H vs (nums.map fun i => (Part.n i).d)
theorem SearchAt.ex {K : PySem.W.Frag} {C : Addr} {H H' : Hp} {p : Addr} {w : Nat} {tab : List Nat} {ops : List Op} {nums : List Nat} {dx : Addr} {tv ov : V} {l : Addr} {vs : List V} (S : SearchAt K C H p w tab ops nums dx tv ov l vs) (e : Ex H H') : SearchAt K C H' p w tab ops nums dx tv ov l vs :=
  ⟨e _ _ S.ob, S.tb.ex e, S.op.ex e, e _ _ S.nl, S.nu.ex e⟩
/-- what is asked of the class as the top has made it -/
structure SCl (K : PySem.W.Frag) (mg : Str → Option Value) (C : Addr) : Prop where
  cl : Cls K C
  nW : NoAttr K C "w"
  nT : NoAttr K C "table"
  nO : NoAttr K C "ops"
  nN : NoAttr K C "numbers"
  mgC : mg "Search" = some (.ref C)
def spSInit (K : PySem.W.Frag) (C : Addr) : Sp := fun vs H Q _ => ∃ (p dx : Addr) (w : Nat) (tab : List Nat) (ops : List Op) (nums : List Nat) (tv ov nv : V), vs = [.ref p, .int (w : Int), tv, ov, nv] ∧ H p = some (.ins C dx []) ∧ PV K H tv (tabD tab) ∧ PV K H ov (opsD ops) ∧ PV K H nv (numsD nums) ∧ nums.length ≤ 100 ∧
  ∀ l us H', SearchAt K C H' p w tab ops nums dx tv ov l us → (∀ b o, H b = some o → b ≠ p → H' b = some o) → Q .non H'
def spTriples (K : PySem.W.Frag) (C : Addr) : Sp := fun vs H Q _ => ∃ (p : Addr) (w : Nat) (tab : List Nat) (ops : List Op) (nums : List Nat) (dx : Addr) (tv ov : V) (l : Addr) (us : List V) (many : Nat), vs = [.ref p, .int (many : Int)] ∧ SearchAt K C H p w tab ops nums dx tv ov l us ∧ ops.length ≤ 5 ∧ nums.length ≤ 10 ∧ many ≤ 10 ∧
  ∀ q vs' H', H q = none → Ex H H' → H' q = some (.lst vs') → PVs K H' vs' ((triples ops nums many).map triD) → Q (.ref q) H'
section
variable {P : Program} {w : World} {K : PySem.W.Frag} {mg : Str → Option Value} {base : Heap}
theorem ev_fld {σ : L2.St} {H : Hp} {ta : TE} {p C dx : Addr} {fs : List (Str × V)} {f : Str} {v : V} (h : Ev ta σ H (.ref p)) (ho : H p = some (.ins C dx fs)) (c : Cls K C) (n : NoAttr K C f) (hl : fs.lookup f = some v) : Ev (tFld K ta f) σ H v := fun H1 e Q q =>
  h H1 e _ fun H2 e2 => ⟨p, C, dx, fs, v, rfl, e2 _ _ (e _ _ ho), c, n, hl, q H2 e2⟩
/-- a list made + a list that stands; two lists made -/
theorem el_catL {σ : L2.St} {H : Hp} {ta tb : TE} {ds es : List PyData} {b : Addr} {ys : List V} (h : EvPL K ta σ H ds) (h2 : Ev tb σ H (.ref b)) (hb : H b = some (.lst ys)) (pb : PVs K H ys es) (hl : ds.length + es.length ≤ 100000) : EvPL K (tOp rCat ta tb) σ H (ds ++ es) := fun H1 e Q q =>
  h H1 e _ fun p vs H2 hp e2 h2' ps => h2 H2 (e.trans e2) _ fun H3 e3 => by
    have pb' := pb.ex ((e.trans e2).trans e3)
    have ps' := ps.ex e3
    refine ⟨p, b, vs, ys, rfl, rfl, e3 _ _ h2', e3 _ _ (e2 _ _ (e _ _ hb)), by rw [ps.length, pb.length]; exact sz_of hl, fun c hc => ?_⟩
    exact q c _ _ (fresh_back (e2.trans e3) hc) ((e2.trans e3).trans (Ex.new hc)) upd_same ((ps'.append pb').ex (Ex.new hc))
theorem el_catN {σ : L2.St} {H : Hp} {ta tb : TE} {ds es : List PyData} (h : EvPL K ta σ H ds) (h2 : EvPL K tb σ H es) (hl : ds.length + es.length ≤ 100000) : EvPL K (tOp rCat ta tb) σ H (ds ++ es) := fun H1 e Q q =>
  h H1 e _ fun p vs H2 hp e2 h2' ps => h2 H2 (e.trans e2) _ fun b ys H3 hb e3 h3' pb => by
    have ps' := ps.ex e3
    refine ⟨p, b, vs, ys, rfl, rfl, e3 _ _ h2', h3', by rw [ps.length, pb.length]; exact sz_of hl, fun c hc => ?_⟩
    exact q c _ _ (fresh_back (e2.trans e3) hc) ((e2.trans e3).trans (Ex.new hc)) upd_same ((ps'.append pb).ex (Ex.new hc))
/-- xs.extend([..]) -/
theorem s_ext {σ : L2.St} {H : Hp} {D : Ends} {ta te : TE} {l : Addr} {xs : List V} {ds : List PyData} (hl : H l = some (.lst xs)) (ha : Ev ta σ H (.ref l)) (h : EvPL K te σ H ds) (hz : xs.length + ds.length ≤ 100000) (k : ∀ vs H1, Ex H H1 → PVs K H1 vs ds → D.nx σ (upd H1 l (.lst (xs ++ vs)))) :
    tDrop (tBM K "list" rExtend ta (tCons te tNil)) D σ H := ha H (Ex.refl H) _ fun H1 e1 =>
  ⟨Or.inl ⟨rfl, xs, SqL.of (e1 l _ hl)⟩, h H1 e1 _ fun p vs H2 hp e2 h2 ps => ⟨l, p, xs, vs, rfl, rfl, e2 l _ (e1 l _ hl), h2, by rw [ps.length]; exact sz_of hz, k vs H2 (e1.trans e2) ps⟩⟩
theorem s_fldPL {σ : L2.St} {H : Hp} {D : Ends} {ta te : TE} {p C dx : Addr} {fs : List (Str × V)} {f : Str} {ds : List PyData} (ha : Ev ta σ H (.ref p)) (h : EvPL K te σ H ds) (ho : H p = some (.ins C dx fs)) (c : Cls K C) (n : NoAttr K C f) (hl : fs.length < 1000)
    (k : ∀ l vs H1, H l = none → Ex H H1 → H1 l = some (.lst vs) → PVs K H1 vs ds → D.nx σ (upd H1 p (.ins C dx (putF f (.ref l) fs)))) : sFld K ta te f D σ H :=
  h H (Ex.refl H) _ fun l vs H1 h1 e1 h2 ps => ha H1 e1 _ fun H2 e2 => ⟨p, C, dx, fs, rfl, e2 _ _ (e1 _ _ ho), c, n, hl, k l vs H2 h1 (e1.trans e2) (e2 _ _ h2) (ps.ex e2)⟩
theorem s_fld {σ : L2.St} {H : Hp} {D : Ends} {ta te : TE} {p C dx : Addr} {fs : List (Str × V)} {f : Str} {v : V} (ha : Ev ta σ H (.ref p)) (h : Ev te σ H v) (ho : H p = some (.ins C dx fs)) (c : Cls K C) (n : NoAttr K C f) (hl : fs.length < 1000)
    (k : ∀ H1, Ex H H1 → D.nx σ (upd H1 p (.ins C dx (putF f v fs)))) : sFld K ta te f D σ H :=
  h H (Ex.refl H) _ fun H1 e1 => ha H1 e1 _ fun H2 e2 => ⟨p, C, dx, fs, rfl, e2 _ _ (e1 _ _ ho), c, n, hl, k H2 (e1.trans e2)⟩
theorem q_fld {σ : L2.St} {H : Hp} {D : Ends} {tz : TS} {ta te : TE} {p C dx : Addr} {fs : List (Str × V)} {f : Str} {v : V} (ha : Ev ta σ H (.ref p)) (h : Ev te σ H v) (ho : H p = some (.ins C dx fs)) (c : Cls K C) (n : NoAttr K C f) (hl : fs.length < 1000)
    (k : ∀ H1, Ex H H1 → tz D σ (upd H1 p (.ins C dx (putF f v fs)))) : tSeq (sFld K ta te f) tz D σ H := s_fld (D := { D with nx := tz D }) ha h ho c n hl k
theorem put1 (a : V) : putF ("w" : Str) a [] = ([("w", a)] : List (Str × V)) := rfl
theorem put2 (a b : V) : putF ("table" : Str) b [(("w" : Str), a)] = ([("w", a), ("table", b)] : List (Str × V)) := putF_new fun p hp => by
  simp only [List.mem_cons, List.not_mem_nil, or_false] at hp
  subst hp
  dsimp only
  decide +kernel
theorem put3 (a b c : V) : putF ("ops" : Str) c [(("w" : Str), a), ("table", b)] = ([("w", a), ("table", b), ("ops", c)] : List (Str × V)) := putF_new fun p hp => by
  simp only [List.mem_cons, List.not_mem_nil, or_false] at hp
  rcases hp with rfl | rfl <;> dsimp only <;> decide +kernel
theorem put4 (a b c d : V) : putF ("numbers" : Str) d [(("w" : Str), a), ("table", b), ("ops", c)] = ([("w", a), ("table", b), ("ops", c), ("numbers", d)] : List (Str × V)) := putF_new fun p hp => by
  simp only [List.mem_cons, List.not_mem_nil, or_false] at hp
  rcases hp with rfl | rfl | rfl <;> dsimp only <;> decide +kernel
theorem ok_sinit {f C : Addr} {fd : FuncData} (F : Fun K "__init__" "Search.__init__" sSInit f fd) (T : SCl K mg C) : FnOk P w K mg base CX0 1 f fd ["self", "w", "table", "ops", "numbers"] (spSInit K C) := by
  refine F.ok scSInit (fun vs H Q E h => ?_) (fun cdv A outer s H vs Q E hr h => ?_)
  · obtain ⟨p, dx, w, tab, ops, nums, tv, ov, nv, rfl, _⟩ := h
    rfl
  · obtain ⟨p, dx, w, tab, ops, nums, tv, ov, nv, rfl, ho, ht, hop, hn, hnl, q⟩ := h
    refine ⟨_, pss_cons (ps_fld (pv 0) (pv 1) rfl) (pss_cons (ps_fld (pv 0) (pv 2) rfl) (pss_cons (ps_fld (pv 0) (pv 3) rfl)
      (pss_one (ps_fld (pv 0) (pe_lc (own := [("number", 5)]) (g := gName 5) (tt := tYes) (te := tTup (tCons (tC (.str "n")) (tCons (tVar 5) tNil))) rfl scSInit.nd (pi_tup (pv 4)) (blkOk_by (N := ["self", "w", "table", "ops", "numbers", "number"]) (sc := defScope sSInit) (by decide +kernel))
        (fun _ _ _ _ _ => pg_name (i := 5) scSInit.nd rfl (Or.inl rfl)) (fun _ _ _ _ _ => pts_nil) (fun _ _ _ _ _ => pe_tup (pa_cons pe_str (pa_cons (pv 5) pa_nil)))) rfl)))), ?_⟩
    have tx0 : ∀ {G : Hp} {o : HO} {fs : List (Str × V)}, G p = some (.ins C dx fs) → Tx G (upd G p o) := fun {G o fs} e => Tx.upd fun xs z => by
      rw [e] at z
      cases z
    refine q_fld (ev_var rfl) (ev_var rfl) ho T.cl T.nW (by decide) fun H1 e1 => ?_
    rw [put1]
    refine q_fld (ev_var rfl) (ev_var rfl) upd_same T.cl T.nT (by show 1 < 1000; decide) fun H2 e2 => ?_
    rw [put2]
    refine q_fld (ev_var rfl) (ev_var rfl) upd_same T.cl T.nO (by show 2 < 1000; decide) fun H3 e3 => ?_
    rw [put3]
    have t3 : Tx H H3 := ((((tx_of e1).trans (tx0 (e1 _ _ ho))).trans (tx_of e2)).trans (tx0 (e2 _ _ upd_same))).trans (tx_of e3)
    have t4 : Tx H (upd H3 p (.ins C dx [("w", .int (w : Int)), ("table", tv), ("ops", ov)])) := t3.trans (tx0 (e3 _ _ upd_same))
    refine s_fldPL (ev_var rfl) (el_lcT (σ := [some (.ref p), some (.int (w : Int)), some tv, some ov, some nv, none]) (tl := tVar 4) (g := gName 5) (vs := [5]) (ds := nums.map natD) (nums.map fun i => (Part.n i).d) (ep_var rfl (hn.tx t4)) (by simp) (by rw [List.length_map]; omega) ?_) upd_same T.cl T.nN (by show 3 < 1000; decide) fun l us H4 h4 e4 h4' pu => ?_
    · intro i x c d H1 e hc pc hd Q k
      obtain ⟨m, hm, rfl⟩ := map_at hc
      obtain ⟨m2, hm2, rfl⟩ := map_at hd
      rw [hm] at hm2
      cases hm2
      cases pv_int pc
      exact k _ H1 (Ex.refl H1) rfl (ep_tup (eps_cons ep_str (eps_cons (ep_ev (ev_var rfl) (.int _)) eps_nil)) (by simp))
    · rw [put4]
      have hlp : l ≠ p := fun z => by
        subst z
        rw [upd_same] at h4
        cases h4
      have t5 : Tx H (upd H4 p (.ins C dx [("w", .int (w : Int)), ("table", tv), ("ops", ov), ("numbers", .ref l)])) := (t4.trans (tx_of e4)).trans (tx0 (e4 _ _ upd_same))
      refine q l us _ ⟨upd_same, ht.tx t5, hop.tx t5, by rw [upd_ne hlp]; exact h4', pu.tx (tx0 (e4 _ _ upd_same))⟩ fun b o hb hbp => ?_
      rw [upd_ne hbp]
      refine e4 _ _ ?_
      rw [upd_ne hbp]
      refine e3 _ _ ?_
      rw [upd_ne hbp]
      refine e2 _ _ ?_
      rw [upd_ne hbp]
      exact e1 _ _ hb
theorem take_flat {α β : Type} (f : α → List β) (l : List α) (i : Nat) (a : α) (h : l[i]? = some a) : (l.take (i + 1)).flatMap f = (l.take i).flatMap f ++ f a := by
  rw [List.take_add_one, h, List.flatMap_append]
  simp
theorem parts_len (nums : List Nat) (many : Nat) : (parts nums many).length = 1 + nums.length + many := by
  simp [parts]
  omega
theorem flatMap_len {α β : Type} {f : α → List β} {n : Nat} (h : ∀ a, (f a).length = n) : ∀ l : List α, (l.flatMap f).length = l.length * n
  | [] => by simp
  | a :: l => by
    rw [List.flatMap_cons, List.length_append, h a, flatMap_len h l, List.length_cons, Nat.succ_mul]
    omega
theorem triples_len (ops : List Op) (nums : List Nat) (many : Nat) : (triples ops nums many).length = ops.length * ((1 + nums.length + many) * (1 + nums.length + many)) := by
  unfold triples
  refine flatMap_len (fun o => ?_) ops
  rw [flatMap_len (n := 1 + nums.length + many) (fun p => by rw [List.length_map, parts_len]), parts_len]
theorem ok_triples {f C : Addr} {fd : FuncData} (F : Fun K "triples" "Search.triples" sTriples f fd) (T : SCl K mg C) (ml : mg "list" = none) (mr : mg "range" = none) : FnOk P w K mg base CX0 1 f fd ["self", "many"] (spTriples K C) := by
  refine F.ok scTriples (fun vs H Q E h => ?_) (fun cdv A outer s H vs Q E hr h => ?_)
  · obtain ⟨p, w, tab, ops, nums, dx, tv, ov, l, us, many, rfl, _⟩ := h
    rfl
  · obtain ⟨p, w, tab, ops, nums, dx, tv, ov, l, us, many, rfl, S, ho, hn, hm, q⟩ := h
    refine ⟨_, pss_cons (ps_set (i := 2) scTriples.nd rfl (.inl rfl) (pe_op op_cat (pe_op op_cat (pe_lst (pa_cons pe_str pa_nil)) (pe_fld (pv 0) rfl)) (pe_listRg rfl (by rfl) ml (prg_1 (by rfl) mr (pv 1)))))
      (pss_cons (ps_set (i := 3) scTriples.nd rfl (.inl rfl) (pe_lst pa_nil))
      (pss_cons (ps_for PassesOwn.never rfl (pi_tup (pe_fld (pv 0) rfl)) (pg_name (i := 4) scTriples.nd rfl (.inr rfl))
        (pss_one (ps_for PassesOwn.never rfl (pi_list (pv 2)) (pg_name (i := 5) scTriples.nd rfl (.inr rfl))
          (pss_one (ps_expr (pe_bm PySem.F.plainAttrs_list PySem.F.slot_list_extend PySem.F.type_list_extend mt_extend (pv 3)
            (pa_cons (pe_lc (own := [("other", 6)]) (g := gName 6) (tt := tYes) (te := tTup (tCons (tVar 4) (tCons (tVar 5) (tCons (tVar 6) tNil)))) rfl scTriples.nd (pi_list (pv 2)) (blkOk_by (N := ["self", "many", "parts", "found", "op", "one", "other"]) (sc := defScope sTriples) (by decide +kernel))
              (fun _ _ _ _ _ => pg_name (i := 6) scTriples.nd rfl (Or.inl rfl)) (fun _ _ _ _ _ => pts_nil) (fun _ _ _ _ _ => pe_tup (pa_cons (pv 4) (pa_cons (pv 5) (pa_cons (pv 6) pa_nil))))) pa_nil)))))))
      (pss_one (ps_ret (pv 3))))), ?_⟩
    have hpd : (parts nums many).map Part.d = [PyData.str "x"] ++ (nums.map fun i => (Part.n i).d) ++ (Pd.upTo many).map PyData.int := by
      unfold parts Pd.upTo
      simp [Function.comp_def, Part.d]
    have hpl := parts_len nums many
    refine q_asgPL (K := K) (ds := (parts nums many).map Part.d) ?_ fun lp pvs H1 hp1 e1 hlp ppl => ?_
    · rw [hpd]
      exact el_catN (el_catL (el_tup (eps_cons ep_str eps_nil) (by simp)) (ev_fld (ev_var rfl) S.ob T.cl T.nN (fl_numbers _ _ _ _)) S.nl S.nu (by simp; omega)) (el_lstRg (ev_var rfl) (by omega)) (by simp [Pd.upTo]; omega)
    refine q_asgPL (K := K) (ds := []) (el_tup eps_nil (by simp)) fun lf fvs H2 hf2 e2 hlf pfl => ?_
    cases pfl
    have S2 := S.ex (e1.trans e2)
    have hlp2 := e2 _ _ hlp
    have pp2 := ppl.ex e2
    have hl0 : H1 lf = none := hf2
    let blk : Op → List Tri := fun o => (parts nums many).flatMap fun p => (parts nums many).map fun q => (o, p, q)
    have hblk : ∀ o, (blk o).length = (1 + nums.length + many) * (1 + nums.length + many) := fun o => by
      show ((parts nums many).flatMap _).length = _
      rw [flatMap_len (n := 1 + nums.length + many) (fun p => by rw [List.length_map, parts_len]), parts_len]
    have sq : (1 + nums.length + many) * (1 + nums.length + many) ≤ 21 * 21 := Nat.mul_le_mul (by omega) (by omega)
    have hpvl : pvs.length = (parts nums many).length := by rw [ppl.length, List.length_map]
    refine q_forTP (ds := ops.map fun (o : Op) => PyData.str o.s) (ep_ev (ev_fld (ev_var rfl) S2.ob T.cl T.nO (fl_ops _ _ _ _)) S2.op)
      (fun H3 i σ' H' => ∃ y4 y5 vs, σ' = [some (.ref p), some (.int (many : Int)), some (.ref lp), some (.ref lf), y4, y5, none] ∧ Tx H3 H' ∧ Ex H1 H' ∧ H' lf = some (.lst vs) ∧ PVs K H' vs (((ops.take i).flatMap blk).map triD))
      (fun H3 e3 => ⟨none, none, [], rfl, Tx.refl _, e2.trans e3, e3 _ _ hlf, .nil⟩) (fun H3 i σ' H' ⟨_, _, _, _, t, _⟩ => t) ?_ ?_
    · rintro H3 i x d σ' H' e3 hd pd ⟨y4, y5, vs, rfl, tx, ex, hL, pL⟩
      obtain ⟨o, ho2, rfl⟩ := map_at hd
      have hio : i < ops.length := (List.getElem?_eq_some_iff.mp ho2).1
      cases pv_str pd
      have bound : ∀ j, j ≤ (parts nums many).length → ∀ ws : List V, ∀ G : Hp, PVs K G ws ((((ops.take i).flatMap blk) ++ ((parts nums many).take j).flatMap fun p => (parts nums many).map fun q => (o, p, q)).map triD) → ws.length ≤ 5000 := fun j hj ws G h => by
        have h1 := h.length
        rw [List.length_map, List.length_append, flatMap_len hblk, flatMap_len (n := 1 + nums.length + many) (fun p => by rw [List.length_map, parts_len]), List.length_take, List.length_take] at h1
        have a1 : min i ops.length * ((1 + nums.length + many) * (1 + nums.length + many)) ≤ 5 * (21 * 21) := Nat.mul_le_mul (by omega) sq
        have a2 : min j (parts nums many).length * (1 + nums.length + many) ≤ 21 * 21 := Nat.mul_le_mul (by omega) (by omega)
        omega
      refine s_forLn (ev_var rfl) (SqL.of (ex _ _ hlp)) (fun j σ' H'' => ∃ y5 vs, σ' = [some (.ref p), some (.int (many : Int)), some (.ref lp), some (.ref lf), some (.str o.s), y5, none] ∧ Tx H3 H'' ∧ Ex H1 H'' ∧ H'' lf = some (.lst vs) ∧ PVs K H'' vs ((((ops.take i).flatMap blk) ++ ((parts nums many).take j).flatMap fun p => (parts nums many).map fun q => (o, p, q)).map triD))
        (fun H4 e4 => ⟨y5, vs, rfl, tx.trans (tx_of e4), ex.trans e4, e4 _ _ hL, by simpa using pL.ex e4⟩) (fun j σ' H'' _ ⟨_, _, _, _, x, _⟩ => SqL.of (x _ _ hlp)) ?_ ?_
      · rintro j u σ' H'' hj ⟨y5, vs, rfl, tx, ex, hL, pL⟩
        obtain ⟨d, hd', pu⟩ := (ppl.ex ex).get hj
        obtain ⟨pt, hpt, rfl⟩ := map_at hd'
        have hjl : j < (parts nums many).length := (List.getElem?_eq_some_iff.mp hpt).1
        have hb := bound j (by omega) vs H'' pL
        refine s_ext (ds := ((parts nums many).map fun q => (o, pt, q)).map triD) hL (ev_var rfl) ?_ (by simp; omega) fun ws H4 e4 pw => ?_
        · refine el_lcL (σ := [some (.ref p), some (.int (many : Int)), some (.ref lp), some (.ref lf), some (.str o.s), some u, none]) (vs := [6]) (fun _ => []) _ (ev_var rfl) (SqL.of (ex _ _ hlp)) (by simp [hpvl]) (by omega) ?_
          intro k v d H5 e5 hv hd5 Q kq
          obtain ⟨d6, hd6, pv6⟩ := ((ppl.ex ex).ex e5).get hv
          obtain ⟨pq, hpq, rfl⟩ := map_at hd6
          obtain ⟨t, ht, rfl⟩ := map_at hd5
          obtain ⟨pq2, hpq2, rfl⟩ := map_at ht
          rw [hpq] at hpq2
          cases hpq2
          exact kq _ H5 (Ex.refl H5) rfl (ep_tup (eps_cons (ep_ev (ev_var rfl) (.str _)) (eps_cons (ep_var rfl (pu.ex e5)) (eps_cons (ep_var rfl pv6) eps_nil))) (by simp))
        · refine ⟨_, _, rfl, (tx.trans (tx_of e4)).trans (Tx.updL (e4 _ _ hL)), Ex.mut (ex.trans e4) hl0, upd_same, ?_⟩
          have e9 : (((ops.take i).flatMap blk) ++ ((parts nums many).take (j + 1)).flatMap fun p => (parts nums many).map fun q => (o, p, q)).map triD =
              ((((ops.take i).flatMap blk) ++ ((parts nums many).take j).flatMap fun p => (parts nums many).map fun q => (o, p, q)).map triD) ++ (((parts nums many).map fun q => (o, pt, q)).map triD) := by
            rw [take_flat _ _ _ _ hpt, ← List.append_assoc, List.map_append]
          rw [e9]
          exact ((pL.ex e4).append pw).tx (Tx.updL (e4 _ _ hL))
      · rintro σ' H'' ⟨y5, vs, rfl, tx, ex, hL, pL⟩
        refine ⟨_, _, _, rfl, tx, ex, hL, ?_⟩
        rw [hpvl, List.take_length] at pL
        rw [take_flat _ _ _ _ ho2]
        exact pL
    · rintro H3 σ' H' e3 ⟨y4, y5, vs, rfl, tx, ex, hL, pL⟩
      refine s_ret (ev_var rfl) fun H4 e4 => q lf vs H4 (fresh_back e1 hf2) ((e1.trans ex).trans e4) (e4 _ _ hL) ?_
      rw [List.length_map, List.take_length] at pL
      exact pL.ex e4
end
end K34

namespace K34
open PySem L2 Pd
/-- the columns of a row: the words of its triples for all x -/
def colsOf (w : Nat) (r : Row) : List (List Nat) := (List.range r.length).map fun k => (List.range (2 ^ w)).map fun x => (doneOf w x r).getD k 0
def pairD (w : Nat) (r : Row) : PyData := .tuple [rowD r, .tuple ((colsOf w r).map tabD)]
theorem colsOf_len (w : Nat) (r : Row) : (colsOf w r).length = r.length := by simp [colsOf]
theorem col_colsOf {w : Nat} {p : Part} {r : Row} (hp : p.ok r.length) : col w p (colsOf w r) = (List.range (2 ^ w)).map fun x => pw w p x (doneOf w x r) := by
  cases p with
  | x =>
    show List.range (2 ^ w) = _
    rw [show (fun x => pw w .x x (doneOf w x r)) = id from rfl]
    simp
  | n i =>
    show List.replicate (2 ^ w) (i % 2 ^ w) = _
    show _ = (List.range (2 ^ w)).map fun _ => i % 2 ^ w
    simp [List.map_const']
  | j k =>
    have hk : k < r.length := hp
    show (colsOf w r).getD k [] = _
    rw [List.getD_eq_getElem?_getD]
    unfold colsOf
    rw [List.getElem?_map, List.getElem?_eq_getElem (by simpa using hk)]
    simp [pw]
theorem zip_map {α β γ δ : Type} (f : β → γ → δ) (g : α → β) (h : α → γ) (l : List α) : List.zipWith f (l.map g) (l.map h) = l.map fun x => f (g x) (h x) := by
  induction l with
  | nil => rfl
  | cons a l ih => simp [ih]
theorem zip_cols {w : Nat} {t : Tri} {r : Row} (ht : Tri.okAt r.length t) : List.zipWith (opW w t.1) (col w t.2.1 (colsOf w r)) (col w t.2.2 (colsOf w r)) = tabW w (r ++ [t]) := by
  rw [col_colsOf ht.2.1, col_colsOf ht.2.2, zip_map]
  unfold tabW
  exact List.map_congr_left fun x _ => (rowW_snoc w x r t).symm
theorem colsOf_snoc (w : Nat) (r : Row) (t : Tri) : colsOf w (r ++ [t]) = colsOf w r ++ [tabW w (r ++ [t])] := by
  unfold colsOf
  rw [List.length_append, List.length_singleton, List.range_succ, List.map_append, List.map_singleton]
  congr 1
  · refine List.map_congr_left fun k hk => List.map_congr_left fun x _ => ?_
    have hk2 := List.mem_range.mp hk
    rw [doneOf_snoc]
    unfold step
    rw [List.getD_eq_getElem?_getD, List.getD_eq_getElem?_getD, List.getElem?_append_left (by rw [doneOf_len]; exact hk2)]
  · congr 1
    unfold tabW
    refine List.map_congr_left fun x _ => ?_
    rw [rowW_snoc, doneOf_snoc]
    unfold step
    rw [List.getD_eq_getElem?_getD, List.getElem?_append_right (by rw [doneOf_len]; exact Nat.le_refl _), doneOf_len]
    simp
theorem find_mid {α : Type} {p : α → Bool} {B R : List α} {c : α} (hB : ∀ x ∈ B, p x = false) (hc : p c = true) : (B ++ c :: R).find? p = some c := by
  rw [List.find?_append, List.find?_eq_none.mpr (fun x hx => by rw [hB x hx]; decide), List.find?_cons, hc]
  rfl
theorem longer_take {ops : List Op} {nums : List Nat} {rs : List Row} {i : Nat} {r : Row} (h : rs[i]? = some r) : longer ops nums (rs.take (i + 1)) = longer ops nums (rs.take i) ++ (triples ops nums r.length).map fun t => r ++ [t] := by
  unfold longer
  exact take_flat (fun r => (triples ops nums r.length).map fun t => r ++ [t]) rs i r h
theorem longer_split {ops : List Op} {nums : List Nat} {rs : List Row} {i j : Nat} {r : Row} {t : Tri} (h : rs[i]? = some r) (h2 : (triples ops nums r.length)[j]? = some t) :
    ∃ R, longer ops nums rs = (longer ops nums (rs.take i) ++ ((triples ops nums r.length).take j).map fun t => r ++ [t]) ++ (r ++ [t]) :: R := by
  have e1 : longer ops nums rs = longer ops nums (rs.take (i + 1)) ++ longer ops nums (rs.drop (i + 1)) := by
    unfold longer
    rw [← List.flatMap_append, List.take_append_drop]
  have hj := (List.getElem?_eq_some_iff.mp h2).1
  have e2 : triples ops nums r.length = (triples ops nums r.length).take j ++ t :: (triples ops nums r.length).drop (j + 1) := by
    have := (List.getElem?_eq_some_iff.mp h2).2
    rw [← this]
    simp [List.take_append_drop]
  refine ⟨((triples ops nums r.length).drop (j + 1)).map (fun t => r ++ [t]) ++ longer ops nums (rs.drop (i + 1)), ?_⟩
  rw [e1, longer_take h]
  conv => lhs; arg 1; arg 2; rw [e2]
  simp
theorem longer_len {ops : List Op} {nums : List Nat} {n m : Nat} (hm : ops.length * ((1 + nums.length + n) * (1 + nums.length + n)) = m) : ∀ {rs : List Row}, (∀ r ∈ rs, r.length = n) → (longer ops nums rs).length = rs.length * m
  | [], _ => by simp [longer]
  | r :: rs, h => by
    have e : longer ops nums (r :: rs) = ((triples ops nums r.length).map fun t => r ++ [t]) ++ longer ops nums rs := by simp [longer]
    rw [e, List.length_append, List.length_map, triples_len, h r List.mem_cons_self, hm, longer_len hm (fun r hr => h r (List.mem_cons_of_mem _ hr)), List.length_cons, Nat.succ_mul]
    omega
end K34

namespace K34
open PySem PySem.Spec PyProof.Rows L2 Evl Pd
/-! ### all but one list stays -/
def Exl (l : Addr) (H H' : Hp) : Prop := ∀ a o, H a = some o → a ≠ l → H' a = some o
theorem Exl.refl {l : Addr} (H : Hp) : Exl l H H := fun _ _ h _ => h
theorem Exl.trans {l : Addr} {H H1 H2 : Hp} (a : Exl l H H1) (b : Exl l H1 H2) : Exl l H H2 := fun x o h n => b x o (a x o h n) n
theorem exl_of {l : Addr} {H H' : Hp} (e : Ex H H') : Exl l H H' := fun a o h _ => e a o h
theorem Exl.upd {l : Addr} {H : Hp} {o : HO} : Exl l H (L2.upd H l o) := fun a u h n => by rw [upd_ne n]; exact h
theorem Exl.tx {l : Addr} {H H' : Hp} (e : Exl l H H') {xs : List V} (h : H l = some (.lst xs)) : Tx H H' := fun a ys ha => e a _ ha fun z => by
  subst z
  rw [h] at ha
  cases ha
theorem Exl.ex {l : Addr} {H H' : Hp} (e : Exl l H H') (h : H l = none) : Ex H H' := fun a o ha => e a o ha fun z => by
  subst z
  rw [h] at ha
  cases ha
theorem Ex.exl {l : Addr} {H H1 H2 : Hp} (e : Ex H H1) (h : H l = none) (x : Exl l H1 H2) : Ex H H2 := fun a o ha => x a o (e a o ha) fun z => by
  subst z
  rw [h] at ha
  cases ha
theorem SearchAt.exl {K : PySem.W.Frag} {C : Addr} {H H' : Hp} {p : Addr} {w : Nat} {tab : List Nat} {ops : List Op} {nums : List Nat} {dx : Addr} {tv ov : V} {l lf : Addr} {vs xs : List V} (S : SearchAt K C H p w tab ops nums dx tv ov l vs) (e : Exl lf H H') (h : H lf = some (.lst xs)) (n : l ≠ lf) : SearchAt K C H' p w tab ops nums dx tv ov l vs :=
  ⟨e _ _ S.ob (fun z => by
    have := S.ob
    rw [z, h] at this
    cases this), S.tb.tx (e.tx h), S.op.tx (e.tx h), e _ _ S.nl n, S.nu.tx (e.tx h)⟩
section
variable {K : PySem.W.Frag} {H : Hp} {σ : L2.St} {ds : List PyData} {tl te : TE} {g : TG} {tu tz : TS} {D : Ends}
/-- for .. in a new list -/
theorem s_forPL {lf : Addr} {zs : List V} (hf : H lf = some (.lst zs)) (h : EvPL K tl σ H ds) (Pv : Hp → Nat → L2.St → Hp → Prop) (h0 : ∀ H1, Ex H H1 → Pv H1 0 σ H1) (hT : ∀ H1 i σ' H', Pv H1 i σ' H' → Exl lf H1 H')
    (hs : ∀ H1 i x d σ' H', Ex H H1 → ds[i]? = some d → PV K H' x d → Pv H1 i σ' H' → g x σ' H' fun σ2 H2 => tu { D with nx := Pv H1 (i + 1), ct := Pv H1 (i + 1), bk := D.nx } σ2 H2) (hd : ∀ H1 σ' H', Ex H H1 → Pv H1 ds.length σ' H' → D.nx σ' H') : tFor (iList K tl) g tu D σ H :=
  h H (Ex.refl H) _ fun p vs H1 hp e h1 ps => by
    have hpf : p ≠ lf := fun z => by
      subst z
      rw [hf] at hp
      cases hp
    refine ⟨p, rfl, ⟨vs, SqL.of h1⟩, for_list (Pv H1) (h0 H1 e) (fun i σ' H' _ q => SqL.of (hT H1 i σ' H' q _ _ h1 hpf)) (fun i x σ' H' hi q => ?_) (fun σ' H' q => hd H1 σ' H' e (by rw [← ps.length]; exact q))⟩
    obtain ⟨d, hd, pd⟩ := ps.get hi
    exact hs H1 i x d σ' H' e hd (pd.tx ((hT H1 i σ' H' q).tx (e _ _ hf))) q
/-- self.m(..) that gives a new list -/
theorem el_meth {C p dx : Addr} {m : Str} {sp : Sp} {E : XK} {ta : TE} {t : TA} {fs : List (Str × V)} (h : Ev ta σ H (.ref p)) (ho : H p = some (.ins C dx fs)) (hm : fs.lookup m = none) {es : List PyData} (ha : EvPs K t σ H es)
    (hs : ∀ H1, Ex H H1 → ∀ vs, PVs K H1 vs es → ∀ Q : VK, (∀ q vs' H2, H1 q = none → Ex H1 H2 → H2 q = some (.lst vs') → PVs K H2 vs' ds → Q (.ref q) H2) → sp (.ref p :: (vs ++ [])) H1 Q E) : EvPL K (tMeth C m sp [] E ta t) σ H ds := fun H1 e Q q =>
  h H1 e _ fun H2 e2 => ⟨p, dx, fs, rfl, e2 _ _ (e _ _ ho), hm, ha H2 (e.trans e2) _ fun vs H3 e3 ps => hs H3 ((e.trans e2).trans e3) vs ps _ fun q' vs' H4 h4 e4 l4 p4 => q q' vs' H4 (fresh_back (e2.trans e3) h4) ((e2.trans e3).trans e4) l4 p4⟩
theorem q_par {i j : Nat} {ta : TA} {d e : PyData} (h : EvPs K ta σ H [d, e]) (k : ∀ v w H1, Ex H H1 → PV K H1 v d → PV K H1 w e → tz D ((σ.set i (some v)).set j (some w)) H1) : tSeq (tPar i j ta) tz D σ H :=
  h H (Ex.refl H) _ fun vs H1 e1 ps => by
    cases ps with
    | cons a ps => cases ps with
      | cons b ps =>
        cases ps
        exact ⟨_, _, rfl, k _ _ H1 e1 a b⟩
/-- xs.append(plain data) -/
theorem s_appP {l : Addr} {xs : List V} {ta te : TE} {d : PyData} (hl : H l = some (.lst xs)) (ha : Ev ta σ H (.ref l)) (h : EvP K te σ H d) (hz : xs.length < 100000) (k : ∀ v H1, Ex H H1 → PV K H1 v d → D.nx σ (upd H1 l (.lst (xs ++ [v])))) :
    tDrop (tBM K "list" rAppend ta (tCons te tNil)) D σ H := ha H (Ex.refl H) _ fun H1 e1 =>
  ⟨Or.inl ⟨rfl, xs, SqL.of (e1 l _ hl)⟩, h H1 e1 _ fun v H2 e2 p => ⟨l, xs, v, rfl, rfl, e2 l _ (e1 l _ hl), sz_lt hz, k v H2 (e1.trans e2) p⟩⟩
theorem ev_lenT {ta : TE} (h : EvP K ta σ H (.tuple ds)) : Ev (tCB (rLenS K) (tCons ta tNil)) σ H (.int (ds.length : Int)) := fun H1 e Q q =>
  h H1 e _ fun v H2 e2 p => by
    obtain ⟨a, xs, rfl, hx, px⟩ := pv_tup p
    exact ⟨a, xs, rfl, .inr hx.sq, by rw [px.length]; exact q H2 e2⟩
end
section
variable {K : PySem.W.Frag} {H : Hp} {σ : L2.St} {D : Ends} {te : TE}
/-- return xs, plain data -/
theorem s_retLP {i : Nat} {lf : Addr} {d : PyData} (hv : σ[i]? = some (some (.ref lf))) (h : EvP K te σ H d) (k : ∀ t v H1, Ex H H1 → PV K H1 v d → H1 t = some (.tup [.ref lf, v]) → D.rt (.ref t) H1) : tRet (tTup (tCons (tVar i) (tCons te tNil))) D σ H :=
  ⟨_, hv, h H (Ex.refl H) _ fun v H1 e1 p => ⟨sz_of (by simp), fun t ht => k t v _ (e1.trans (Ex.new ht)) (p.ex (Ex.new ht)) upd_same⟩⟩
end
theorem scGrown : FnScope ["self", "rows", "found", "row", "columns", "op", "one", "other", "first", "second", "own", "a", "b"] ["self", "rows"] (defScope sGrown) := ⟨rfl, rfl, rfl, by decide +kernel, rfl, by decide +kernel, by decide +kernel⟩
def spGrown (K : PySem.W.Frag) (C : Addr) : Sp := fun vs H Q _ => ∃ (p : Addr) (w : Nat) (tab : List Nat) (ops : List Op) (nums : List Nat) (dx : Addr) (tv ov : V) (l : Addr) (us : List V) (lr : Addr) (ws : List V) (rs : List Row) (n : Nat),
  vs = [.ref p, .ref lr] ∧ SearchAt K C H p w tab ops nums dx tv ov l us ∧ H lr = some (.lst ws) ∧ PVs K H ws (rs.map (pairD w)) ∧ W2 w ∧ (∀ o ∈ ops, o.ok = true) ∧ ops.length ≤ 5 ∧ nums.length ≤ 10 ∧ n ≤ 10 ∧ (∀ r ∈ rs, RowOk r ∧ r.length = n) ∧
  rs.length * (ops.length * ((1 + nums.length + n) * (1 + nums.length + n))) ≤ 50000 ∧
  ∀ t q fv vs' H', Ex H H' → H q = none → H' t = some (.tup [.ref q, fv]) → H' q = some (.lst vs') → PV K H' fv (optD ((longer ops nums rs).find? fun r => tabW w r == tab)) →
    ((longer ops nums rs).find? (fun r => tabW w r == tab) = none → PVs K H' vs' ((longer ops nums rs).map (pairD w))) → Q (.ref t) H'
section
variable {P : Program} {w : World} {K : PySem.W.Frag} {mg : Str → Option Value} {base : Heap}
theorem ok_grown {f C fT fC fO : Addr} {fd fdT fdC fdO : FuncData} (F : Fun K "grown" "Search.grown" sGrown f fd) (T : SCl K mg C) (MT : Meth K C "triples" fT) (GT : FnOk P w K mg base CX0 1 fT fdT ["self", "many"] (spTriples K C)) (bT : Binds K fdT ["self", "many"] [])
    (GC : FnOk P w K mg base CX0 2 fC fdC ["w", "part", "columns"] (spColumn K)) (kC : PySem.W.keepIn K (.ref fC) = true) (bC : Binds K fdC ["w", "part", "columns"] []) (gC : mg "column" = some (.ref fC))
    (GO : FnOk P w K mg base CX0 3 fO fdO ["w", "op", "a", "b"] (spOperate K)) (kO : PySem.W.keepIn K (.ref fO) = true) (bO : Binds K fdO ["w", "op", "a", "b"] []) (gO : mg "operate" = some (.ref fO))
    (mn : mg "len" = none) (mt : mg "tuple" = none) (mz : mg "zip" = none) : FnOk P w K mg base CX0 4 f fd ["self", "rows"] (spGrown K C) := by
  refine F.ok scGrown (fun vs H Q E h => ?_) (fun cdv A outer s H vs Q E hr h => ?_)
  · obtain ⟨p, w, tab, ops, nums, dx, tv, ov, l, us, lr, ws, rs, n, rfl, _⟩ := h
    rfl
  · obtain ⟨p, w, tab, ops, nums, dx, tv, ov, l, us, lr, ws, rs, n, rfl, S, hlr, pr, hw, hops, hol, hnl, hnn, hrs, hbig, q⟩ := h
    have hr1 : Room 1 _ := hr.mono (by decide)
    have hr2 : Room 2 _ := hr.mono (by decide)
    refine ⟨_, pss_cons (ps_set (i := 2) scGrown.nd rfl (.inl rfl) (pe_lst pa_nil))
      (pss_cons (ps_for PassesOwn.never rfl (pi_list (pv 1)) (pg_tup rfl (pgs_cons (pg_name (i := 3) scGrown.nd rfl (.inl rfl)) (pgs_cons (pg_name (i := 4) scGrown.nd rfl (.inl rfl)) pgs_nil)))
        (pss_one (ps_for PassesOwn.never rfl (pi_list (pe_meth (pv 0) T.cl MT GT hr1 bT .nil pass0 (pa_cons (pe_callB call_len_seq (by rfl) mn PySem.boot_len (pa_cons (pv 3) pa_nil)) pa_nil)))
          (pg_tup rfl (pgs_cons (pg_name (i := 5) scGrown.nd rfl (.inr rfl)) (pgs_cons (pg_name (i := 6) scGrown.nd rfl (.inl rfl)) (pgs_cons (pg_name (i := 7) scGrown.nd rfl (.inl rfl)) pgs_nil))))
          (pss_cons (ps_par (i := 8) (j := 9) rfl scGrown.nd rfl rfl (by decide) rfl rfl (pa_cons (pe_call GC hr2 (by rfl) gC kC bC .nil pass0 (pa_cons (pe_fld (pv 0) rfl) (pa_cons (pv 6) (pa_cons (pv 4) pa_nil)))) (pa_cons (pe_call GC hr2 (by rfl) gC kC bC .nil pass0 (pa_cons (pe_fld (pv 0) rfl) (pa_cons (pv 7) (pa_cons (pv 4) pa_nil)))) pa_nil)) (by rfl))
          (pss_cons (ps_set (i := 10) scGrown.nd rfl (.inl rfl) (pe_tupleOf (by rfl) mt (pe_lc (own := [("a", 11), ("b", 12)]) (g := gTup K 2 (gCons (gName 11) (gCons (gName 12) gNil))) (tt := tYes) (te := tCall (spOperate K) [] E0 (tCons (tFld K (tVar 0) "w") (tCons (tVar 5) (tCons (tVar 11) (tCons (tVar 12) tNil))))) rfl scGrown.nd (RZ.pi_zipA (by rfl) mz (pa_cons (pv 8) (pa_cons (pv 9) pa_nil))) (blkOk_by (N := ["self", "rows", "found", "row", "columns", "op", "one", "other", "first", "second", "own", "a", "b"]) (sc := defScope sGrown) (by decide +kernel))
            (fun _ _ _ _ _ => pg_tup rfl (pgs_cons (pg_name (i := 11) scGrown.nd rfl (Or.inl rfl)) (pgs_cons (pg_name (i := 12) scGrown.nd rfl (Or.inl rfl)) pgs_nil))) (fun _ _ _ _ _ => pts_nil) (fun _ _ _ _ _ => pe_call GO hr (by rfl) gO kO bO .nil pass0 (pa_cons (pe_fld (pv 0) rfl) (pa_cons (pv 5) (pa_cons (pv 11) (pa_cons (pv 12) pa_nil))))))))
          (pss_cons (ps_if (pt_cmpR (op_eqD hr.units) (pv 10) (pe_fld (pv 0) rfl) (nomark _)) (pss_one (ps_ret (pe_tup (pa_cons (pv 2) (pa_cons (pe_op op_catA (pv 3) (pe_tup (pa_cons (pe_tup (pa_cons (pv 5) (pa_cons (pv 6) (pa_cons (pv 7) pa_nil)))) pa_nil))) pa_nil))))) pss_nil)
          (pss_one (ps_expr (pe_bm PySem.F.plainAttrs_list PySem.F.slot_list_append PySem.F.type_list_append mt_append (pv 2) (pa_cons (pe_tup (pa_cons (pe_op op_catA (pv 3) (pe_tup (pa_cons (pe_tup (pa_cons (pv 5) (pa_cons (pv 6) (pa_cons (pv 7) pa_nil)))) pa_nil))) (pa_cons (pe_op op_catA (pv 4) (pe_tup (pa_cons (pv 10) pa_nil))) pa_nil))) pa_nil)))))))))) 
      (pss_one (ps_ret (pe_tup (pa_cons (pv 2) (pa_cons pe_non pa_nil)))))), ?_⟩
    refine q_asgPL (K := K) (ds := []) (el_tup eps_nil (by simp)) fun lf fvs H1 hf e1 hlf pfl => ?_
    cases pfl
    have nl : l ≠ lf := fun z => by
      have := S.nl
      rw [z, hf] at this
      cases this
    have nr : lr ≠ lf := fun z => by
      rw [z, hf] at hlr
      cases hlr
    refine q_forL (ev_var rfl) (SqL.of (e1 _ _ hlr)) (fun i σ' H' => ∃ y3 y4 y5 y6 y7 y8 y9 y10 vs, σ' = [some (.ref p), some (.ref lr), some (.ref lf), y3, y4, y5, y6, y7, y8, y9, y10, none, none] ∧ Exl lf H1 H' ∧ H' lf = some (.lst vs) ∧ PVs K H' vs ((longer ops nums (rs.take i)).map (pairD w)) ∧ ∀ r ∈ longer ops nums (rs.take i), (tabW w r == tab) = false)
      (fun H2 e2 => ⟨none, none, none, none, none, none, none, none, [], rfl, exl_of e2, e2 _ _ hlf, .nil, fun r hr => by cases hr⟩) (fun i σ' H' _ ⟨_, _, _, _, _, _, _, _, _, _, x, _⟩ => SqL.of (x _ _ (e1 _ _ hlr) nr)) ?_ ?_
    · rintro i x σ' H' hx ⟨y3, y4, y5, y6, y7, y8, y9, y10, vs, rfl, ex, hL, pL, no⟩
      obtain ⟨d, hd, px⟩ := (pr.ex e1).get hx
      obtain ⟨r, hr0, rfl⟩ := map_at hd
      have hir : i < rs.length := (List.getElem?_eq_some_iff.mp hr0).1
      obtain ⟨rok, rlen⟩ := hrs r (List.mem_of_getElem? hr0)
      refine g_tup2 (px.tx (ex.tx hlf)) fun v3 v4 p3 p4 => ?_
      have S1 := (S.ex e1).exl ex hlf nl
      refine s_forPL (zs := vs) hL (el_meth (ds := (triples ops nums r.length).map triD) (ev_var rfl) S1.ob (fl_no _ _ _ _ (by decide +kernel) (by decide +kernel) (by decide +kernel) (by decide +kernel)) (eps_cons (ep_evI (ev_lenT (ep_var rfl p3))) eps_nil) fun H2 e2 vs2 ps2 Q2 q2 => ?_)
        (fun H2 j σ' H' => ∃ y5 y6 y7 y8 y9 y10 vs, σ' = [some (.ref p), some (.ref lr), some (.ref lf), some v3, some v4, y5, y6, y7, y8, y9, y10, none, none] ∧ Exl lf H2 H' ∧ H' lf = some (.lst vs) ∧ PVs K H' vs ((longer ops nums (rs.take i) ++ ((triples ops nums r.length).take j).map fun t => r ++ [t]).map (pairD w)) ∧ ∀ r' ∈ longer ops nums (rs.take i) ++ ((triples ops nums r.length).take j).map fun t => r ++ [t], (tabW w r' == tab) = false)
        (fun H2 e2 => ⟨y5, y6, y7, y8, y9, y10, vs, rfl, Exl.refl _, e2 _ _ hL, by simpa using pL.ex e2, by simpa using no⟩) (fun H2 j σ' H' ⟨_, _, _, _, _, _, _, _, x, _⟩ => x) ?_ ?_
      · cases ps2 with
        | cons pm ps2 =>
          cases ps2
          cases pv_int pm
          rw [List.length_map]
          exact ⟨p, w, tab, ops, nums, dx, tv, ov, l, us, r.length, rfl, S1.ex e2, hol, hnl, by omega, fun q' vs' H3 a b c d => q2 q' vs' H3 a b c d⟩
      · rintro H2 j x d σ' H3 e2 hd3 pd ⟨y5, y6, y7, y8, y9, y10, vs, rfl, ex3, hL3, pL3, no3⟩
        obtain ⟨t, ht, rfl⟩ := map_at hd3
        have tok : Tri.okAt r.length t := triples_ok hops (List.mem_of_getElem? ht)
        have ex13 : Exl lf H1 H3 := (ex.trans (exl_of e2)).trans ex3
        have S3 := (S.ex e1).exl ex13 hlf nl
        have tx3 : Tx H' H3 := (tx_of e2).trans (ex3.tx (e2 _ _ hL))
        obtain ⟨R, hR⟩ := longer_split (ops := ops) (nums := nums) hr0 ht
        refine g_tup3 pd fun v5 v6 v7 p5 p6 p7 => ?_
        cases pv_str p5
        have cok : ∀ pt : Part, pt.ok r.length → pt.ok (colsOf w r).length := fun pt h => by rw [colsOf_len]; exact h
        refine q_par (d := tabD (col w t.2.1 (colsOf w r))) (e := tabD (col w t.2.2 (colsOf w r))) (eps_cons (ep_call (eps_cons (ep_ev (ev_fld (ev_var rfl) S3.ob T.cl T.nW (fl_w _ _ _ _)) (.int _)) (eps_cons (ep_var rfl p6) (eps_cons (ep_var rfl (p4.tx tx3)) eps_nil))) ⟨w, t.2.1, colsOf w r, rfl, hw, cok _ tok.2.1, rfl⟩)
          (eps_cons (ep_call (eps_cons (ep_ev (ev_fld (ev_var rfl) S3.ob T.cl T.nW (fl_w _ _ _ _)) (.int _)) (eps_cons (ep_var rfl p7) (eps_cons (ep_var rfl (p4.tx tx3)) eps_nil))) ⟨w, t.2.2, colsOf w r, rfl, hw, cok _ tok.2.2, rfl⟩) eps_nil)) fun v8 v9 H4 e4 p8 p9 => ?_
        have S4 := S3.ex e4
        rw [col_colsOf tok.2.1] at p8
        rw [col_colsOf tok.2.2] at p9
        refine q_asgP (d := tabD (tabW w (r ++ [t]))) (ep_tupleOf (ds := (tabW w (r ++ [t])).map natD) (el_lcZ (σ := [some (.ref p), some (.ref lr), some (.ref lf), some v3, some v4, some (.str t.1.s), some v6, some v7, some v8, some v9, y10, none, none]) (vs := [11, 12]) (i := 11) (j := 12) _ (eps_cons (ep_var rfl p8) (eps_cons (ep_var rfl p9) eps_nil)) (by simp) (by simp [tabW]) (by simp; have := w_pow hw; omega) (fun x y => rfl) ?_)) fun v10 H5 e5 p10 => ?_
        · intro k x y c c' d H5 e5 hc hc' hd pc pc'
          obtain ⟨m, hm, rfl⟩ := map_at hc
          obtain ⟨x0, hx0, rfl⟩ := map_at hm
          obtain ⟨m2, hm2, rfl⟩ := map_at hc'
          obtain ⟨x1, hx1, rfl⟩ := map_at hm2
          rw [hx0] at hx1
          cases hx1
          obtain ⟨m3, hm3, rfl⟩ := map_at hd
          obtain ⟨x2, hx2, rfl⟩ := map_at hm3
          rw [hx0] at hx2
          cases hx2
          have hlt : x0 < 2 ^ w := List.mem_range.mp (List.mem_of_getElem? hx0)
          cases pv_int pc
          cases pv_int pc'
          refine ep_call (eps_cons (ep_ev (ev_fld (ev_var rfl) (S4.ex e5).ob T.cl T.nW (fl_w _ _ _ _)) (.int _)) (eps_cons (ep_ev (ev_var rfl) (.str _)) (eps_cons (ep_ev (ev_var rfl) (.int _)) (eps_cons (ep_ev (ev_var rfl) (.int _)) eps_nil)))) ⟨w, t.1, _, _, rfl, hw, tok.1, pw_lt hlt (doneOf_lt hw hlt rok), pw_lt hlt (doneOf_lt hw hlt rok), ?_⟩
          rw [rowW_snoc]
        · have S5 := S4.ex e5
          have p34 : PV K H5 v3 (rowD r) := p3.tx (tx3.trans (tx_of (e4.trans e5)))
          have p44 : PV K H5 v4 (.tuple ((colsOf w r).map tabD)) := p4.tx (tx3.trans (tx_of (e4.trans e5)))
          have rl : r.length ≤ 10 := by omega
          have ex15 : Exl lf H1 H5 := ex13.trans (exl_of (e4.trans e5))
          have hrow : ∀ H6, Ex H5 H6 → EvP K (tOp (rCatA K) (tVar 3) (tTup (tCons (tTup (tCons (tVar 5) (tCons (tVar 6) (tCons (tVar 7) tNil)))) tNil))) [some (.ref p), some (.ref lr), some (.ref lf), some v3, some v4, some (.str t.1.s), some v6, some v7, some v8, some v9, some v10, none, none] H6 (rowD (r ++ [t])) := fun H6 e6 => by
            unfold rowD
            rw [List.map_append]
            exact ep_cat (ep_var rfl (p34.ex e6)) (ep_tup (eps_cons (ep_tup (eps_cons (ep_ev (ev_var rfl) (.str _)) (eps_cons (ep_var rfl ((p6.ex (e4.trans e5)).ex e6)) (eps_cons (ep_var rfl ((p7.ex (e4.trans e5)).ex e6)) eps_nil))) (by simp)) eps_nil) (by simp)) (by simp; omega)
          refine q_when (et_test (ev_is (et_eqD (ep_var rfl p10) (ep_ev (ev_fld (ev_var rfl) S5.ob T.cl T.nT (fl_table _ _ _ _)) S5.tb) (tabD_shaped _) (tabD_shaped _)) (congrArg V.bl (tab_eqv _ _)))) (fun e H6 e6 => ?_) (fun e H6 e6 => ?_)
          · have hm := of_decide_eq_true e
            have hfd : (longer ops nums rs).find? (fun r => tabW w r == tab) = some (r ++ [t]) := by
              rw [hR]
              exact find_mid no3 (by simpa using hm)
            refine s_retLP (d := rowD (r ++ [t])) rfl (hrow H6 e6) fun tt v H7 e7 pv htt => ?_
            refine q tt lf v vs H7 (Ex.exl e1 hf (ex15.trans (exl_of (e6.trans e7)))) hf htt ((e6.trans e7) _ _ ((e4.trans e5) _ _ hL3)) ?_ ?_
            · rw [hfd]
              exact pv
            · rw [hfd]
              intro h
              cases h
          · have hm := of_decide_eq_false e
            have hlen : vs.length ≤ 50000 := by
              have h1 := pL3.length
              have h2 := congrArg List.length hR
              rw [longer_len (n := n) rfl (fun r hr => (hrs r hr).2)] at h2
              rw [List.length_map] at h1
              rw [List.length_append (as := longer ops nums (rs.take i) ++ _)] at h2
              omega
            refine s_appP (d := pairD w (r ++ [t])) (xs := vs) (e6 _ _ ((e4.trans e5) _ _ hL3)) (ev_var rfl) ?_ (by omega) fun v H7 e7 pv => ?_
            · unfold pairD
              rw [colsOf_snoc, List.map_append]
              exact ep_tup (eps_cons (hrow H6 e6) (eps_cons (ep_cat (ep_var rfl (p44.ex e6)) (ep_tup (eps_cons (ep_var rfl (p10.ex e6)) eps_nil) (by simp)) (by simp [colsOf_len]; omega)) eps_nil)) (by simp)
            · have eL : H7 lf = some (.lst vs) := (e6.trans e7) _ _ ((e4.trans e5) _ _ hL3)
              have e9 : (longer ops nums (rs.take i) ++ ((triples ops nums r.length).take (j + 1)).map fun t => r ++ [t]) = (longer ops nums (rs.take i) ++ ((triples ops nums r.length).take j).map fun t => r ++ [t]) ++ [r ++ [t]] := by
                rw [List.take_add_one, ht]
                simp
              refine ⟨_, _, _, _, _, _, _, rfl, (ex3.trans (exl_of ((e4.trans e5).trans (e6.trans e7)))).trans Exl.upd, upd_same, ?_, ?_⟩
              · rw [e9, List.map_append]
                exact ((pL3.ex ((e4.trans e5).trans (e6.trans e7))).append (PVs.one pv)).tx (Tx.updL eL)
              · rw [e9]
                intro r' hr'
                rcases List.mem_append.mp hr' with h | h
                · exact no3 r' h
                · rw [List.mem_singleton.mp h]
                  simpa using hm
      · rintro H2 σ' H3 e2 ⟨y5, y6, y7, y8, y9, y10, vs, rfl, ex3, hL3, pL3, no3⟩
        rw [List.length_map, List.take_length, ← longer_take hr0] at pL3 no3
        exact ⟨_, _, _, _, _, _, _, _, _, rfl, (ex.trans (exl_of e2)).trans ex3, hL3, pL3, no3⟩
    · rintro σ' H' ⟨y3, y4, y5, y6, y7, y8, y9, y10, vs, rfl, ex, hL, pL, no⟩
      have hws : ws.length = rs.length := by rw [pr.length, List.length_map]
      rw [hws, List.take_length] at pL no
      have hfd : (longer ops nums rs).find? (fun r => tabW w r == tab) = none := List.find?_eq_none.mpr fun r hr => by rw [no r hr]; decide
      refine s_retLP (K := K) (d := .none) rfl ep_non fun tt v H7 e7 pv htt => ?_
      refine q tt lf v vs H7 (Ex.exl e1 hf (ex.trans (exl_of e7))) hf htt (e7 _ _ hL) ?_ fun _ => pL.ex e7
      · rw [hfd]
        exact pv
end
end K34

namespace K34
open PySem PySem.Spec PyProof.Rows L2 Evl Pd
theorem scLast : FnScope ["self", "rows", "row", "columns", "op", "one", "other", "first", "second", "x", "a", "b"] ["self", "rows"] (defScope sLast) := ⟨rfl, rfl, rfl, by decide +kernel, rfl, by decide +kernel, by decide +kernel⟩
def spLast (K : PySem.W.Frag) (C : Addr) : Sp := fun vs H Q _ => ∃ (p : Addr) (w : Nat) (tab : List Nat) (ops : List Op) (nums : List Nat) (dx : Addr) (tv ov : V) (l : Addr) (us : List V) (lr : Addr) (ws : List V) (rs : List Row) (n : Nat),
  vs = [.ref p, .ref lr] ∧ SearchAt K C H p w tab ops nums dx tv ov l us ∧ H lr = some (.lst ws) ∧ PVs K H ws (rs.map (pairD w)) ∧ W2 w ∧ tab.length = 2 ^ w ∧ (∀ o ∈ ops, o.ok = true) ∧ ops.length ≤ 5 ∧ nums.length ≤ 10 ∧ n ≤ 10 ∧ (∀ r ∈ rs, RowOk r ∧ r.length = n) ∧
  ∀ v H', Ex H H' → PV K H' v (optD ((longer ops nums rs).find? fun r => tabW w r == tab)) → Q v H'
theorem nat_eqv (a b : Nat) : PyData.eqv (natD a) (natD b) = decide (a = b) := eqv_dec rfl rfl ⟨fun h => natD_inj h, fun h => by rw [h]⟩
theorem natD_shaped (a : Nat) : SeqAt.shaped (natD a) = true := rfl
section
variable {K : PySem.W.Frag} {H : Hp} {σ : L2.St} {ds : List PyData} {tl te : TE} {g : TG} {tu tz : TS} {D : Ends}
theorem PVs.of_bools : ∀ {bs : List Bool} {vs : List V}, PVs K H vs (bs.map PyData.bool) → vs = bs.map V.bl
  | [], _, h => by cases h; rfl
  | n :: ns, _, h => by
    cases h with
    | cons a b =>
      cases a
      rw [PVs.of_bools b]
      rfl
theorem ev_all {bs : List Bool} (h : EvPL K te σ H (bs.map PyData.bool)) : Ev (tCB (rAll K) (tCons te tNil)) σ H (.bl (bs.all id)) := fun H1 e Q q =>
  h H1 e _ fun p vs H2 hp e2 hl ps => by
    rw [PVs.of_bools ps] at hl
    exact ⟨p, bs, rfl, SqL.of hl, q H2 e2⟩
theorem s_forPX (h : EvPL K tl σ H ds) (Pv : Hp → Nat → L2.St → Hp → Prop) (h0 : ∀ H1, Ex H H1 → Pv H1 0 σ H1) (hT : ∀ H1 i σ' H', Pv H1 i σ' H' → Ex H1 H')
    (hs : ∀ H1 i x d σ' H', Ex H H1 → ds[i]? = some d → PV K H' x d → Pv H1 i σ' H' → g x σ' H' fun σ2 H2 => tu { D with nx := Pv H1 (i + 1), ct := Pv H1 (i + 1), bk := D.nx } σ2 H2) (hd : ∀ H1 σ' H', Ex H H1 → Pv H1 ds.length σ' H' → D.nx σ' H') : tFor (iList K tl) g tu D σ H :=
  h H (Ex.refl H) _ fun p vs H1 hp e h1 ps => by
    refine ⟨p, rfl, ⟨vs, SqL.of h1⟩, for_list (Pv H1) (h0 H1 e) (fun i σ' H' _ q => SqL.of (hT H1 i σ' H' q _ _ h1)) (fun i x σ' H' hi q => ?_) (fun σ' H' q => hd H1 σ' H' e (by rw [← ps.length]; exact q))⟩
    obtain ⟨d, hd, pd⟩ := ps.get hi
    exact hs H1 i x d σ' H' e hd (pd.ex (hT H1 i σ' H' q)) q
theorem q_asgT2 {i j : Nat} {d e : PyData} (h : EvP K te σ H (.tuple [d, e])) (k : ∀ v w H1, Ex H H1 → PV K H1 v d → PV K H1 w e → tz D ((σ.set i (some v)).set j (some w)) H1) : tSeq (tAsg te (gTup K 2 (gCons (gName i) (gCons (gName j) gNil)))) tz D σ H :=
  h H (Ex.refl H) _ fun v H1 e1 p => g_tup2 p fun v1 v2 p1 p2 => k v1 v2 H1 e1 p1 p2
end
section
variable {P : Program} {w : World} {K : PySem.W.Frag} {mg : Str → Option Value} {base : Heap}
theorem ok_last {f C fT fC fO : Addr} {fd fdT fdC fdO : FuncData} (F : Fun K "last" "Search.last" sLast f fd) (T : SCl K mg C) (MT : Meth K C "triples" fT) (GT : FnOk P w K mg base CX0 1 fT fdT ["self", "many"] (spTriples K C)) (bT : Binds K fdT ["self", "many"] [])
    (GC : FnOk P w K mg base CX0 2 fC fdC ["w", "part", "columns"] (spColumn K)) (kC : PySem.W.keepIn K (.ref fC) = true) (bC : Binds K fdC ["w", "part", "columns"] []) (gC : mg "column" = some (.ref fC))
    (GO : FnOk P w K mg base CX0 3 fO fdO ["w", "op", "a", "b"] (spOperate K)) (kO : PySem.W.keepIn K (.ref fO) = true) (bO : Binds K fdO ["w", "op", "a", "b"] []) (gO : mg "operate" = some (.ref fO))
    (mn : mg "len" = none) (mt : mg "tuple" = none) (mz : mg "zip" = none) (ma : mg "all" = none) : FnOk P w K mg base CX0 4 f fd ["self", "rows"] (spLast K C) := by
  refine F.ok scLast (fun vs H Q E h => ?_) (fun cdv A outer s H vs Q E hr h => ?_)
  · obtain ⟨p, w, tab, ops, nums, dx, tv, ov, l, us, lr, ws, rs, n, rfl, _⟩ := h
    rfl
  · obtain ⟨p, w, tab, ops, nums, dx, tv, ov, l, us, lr, ws, rs, n, rfl, S, hlr, pr, hw, htl, hops, hol, hnl, hnn, hrs, q⟩ := h
    have hr1 : Room 1 _ := hr.mono (by decide)
    have hr2 : Room 2 _ := hr.mono (by decide)
    refine ⟨_, pss_cons (ps_for PassesOwn.never rfl (pi_list (pv 1)) (pg_tup rfl (pgs_cons (pg_name (i := 2) scLast.nd rfl (.inl rfl)) (pgs_cons (pg_name (i := 3) scLast.nd rfl (.inl rfl)) pgs_nil)))
        (pss_one (ps_for PassesOwn.never rfl (pi_list (pe_meth (pv 0) T.cl MT GT hr1 bT .nil pass0 (pa_cons (pe_callB call_len_seq (by rfl) mn PySem.boot_len (pa_cons (pv 2) pa_nil)) pa_nil)))
          (pg_tup rfl (pgs_cons (pg_name (i := 4) scLast.nd rfl (.inr rfl)) (pgs_cons (pg_name (i := 5) scLast.nd rfl (.inl rfl)) (pgs_cons (pg_name (i := 6) scLast.nd rfl (.inl rfl)) pgs_nil))))
          (pss_cons (ps_asg (pe_tup (pa_cons (pe_call GC hr2 (by rfl) gC kC bC .nil pass0 (pa_cons (pe_fld (pv 0) rfl) (pa_cons (pv 5) (pa_cons (pv 3) pa_nil)))) (pa_cons (pe_call GC hr2 (by rfl) gC kC bC .nil pass0 (pa_cons (pe_fld (pv 0) rfl) (pa_cons (pv 6) (pa_cons (pv 3) pa_nil)))) pa_nil))) (pg_tup rfl (pgs_cons (pg_name (i := 7) scLast.nd rfl (.inr rfl)) (pgs_cons (pg_name (i := 8) scLast.nd rfl (.inr rfl)) pgs_nil))))
          (pss_one (ps_if (pt_val (pe_callB (cr_all rfl) (by rfl) ma (by decide +kernel) (pa_cons (pe_lc (own := [("x", 9)]) (g := gName 9) (tt := tYes) (te := tOp (rEqD K) (tCall (spOperate K) [] E0 (tCons (tFld K (tVar 0) "w") (tCons (tVar 4) (tCons (tOp (rIxT K) (tVar 7) (tVar 9)) (tCons (tOp (rIxT K) (tVar 8) (tVar 9)) tNil))))) (tOp (rIxT K) (tFld K (tVar 0) "table") (tVar 9))) rfl scLast.nd (pi_tup (pe_tup (pa_cons pe_int (pa_cons pe_int (pa_cons pe_int (pa_cons pe_int pa_nil)))))) (blkOk_by (N := ["self", "rows", "row", "columns", "op", "one", "other", "first", "second", "x", "a", "b"]) (sc := defScope sLast) (by decide +kernel))
              (fun _ _ _ _ _ => pg_name (i := 9) scLast.nd rfl (Or.inl rfl)) (fun _ _ _ _ _ => pts_nil) (fun _ _ _ _ _ => pe_cmpR (op_eqD hr.units) (pe_call GO hr (by rfl) gO kO bO .nil pass0 (pa_cons (pe_fld (pv 0) rfl) (pa_cons (pv 4) (pa_cons (pe_ix ix_tup (pv 7) (pv 9) (fun _ _ => rfl)) (pa_cons (pe_ix ix_tup (pv 8) (pv 9) (fun _ _ => rfl)) pa_nil))))) (pe_ix ix_tup (pe_fld (pv 0) rfl) (pv 9) (fun _ _ => rfl)) (nomark _))) pa_nil)))
            (pss_one (ps_if (pt_cmpR (op_eqD hr.units) (pe_tupleOf (by rfl) mt (pe_lc (own := [("a", 10), ("b", 11)]) (g := gTup K 2 (gCons (gName 10) (gCons (gName 11) gNil))) (tt := tYes) (te := tCall (spOperate K) [] E0 (tCons (tFld K (tVar 0) "w") (tCons (tVar 4) (tCons (tVar 10) (tCons (tVar 11) tNil))))) rfl scLast.nd (RZ.pi_zipA (by rfl) mz (pa_cons (pv 7) (pa_cons (pv 8) pa_nil))) (blkOk_by (N := ["self", "rows", "row", "columns", "op", "one", "other", "first", "second", "x", "a", "b"]) (sc := defScope sLast) (by decide +kernel))
              (fun _ _ _ _ _ => pg_tup rfl (pgs_cons (pg_name (i := 10) scLast.nd rfl (Or.inl rfl)) (pgs_cons (pg_name (i := 11) scLast.nd rfl (Or.inl rfl)) pgs_nil))) (fun _ _ _ _ _ => pts_nil) (fun _ _ _ _ _ => pe_call GO hr (by rfl) gO kO bO .nil pass0 (pa_cons (pe_fld (pv 0) rfl) (pa_cons (pv 4) (pa_cons (pv 10) (pa_cons (pv 11) pa_nil))))))) (pe_fld (pv 0) rfl) (nomark _))
              (pss_one (ps_ret (pe_op op_catA (pv 2) (pe_tup (pa_cons (pe_tup (pa_cons (pv 4) (pa_cons (pv 5) (pa_cons (pv 6) pa_nil)))) pa_nil))))) pss_nil)) pss_nil))))))
      (pss_one (ps_ret pe_non)), ?_⟩
    refine q_forL (ev_var rfl) (SqL.of hlr) (fun i σ' H' => ∃ y2 y3 y4 y5 y6 y7 y8, σ' = [some (.ref p), some (.ref lr), y2, y3, y4, y5, y6, y7, y8, none, none, none] ∧ Ex H H' ∧ ∀ r ∈ longer ops nums (rs.take i), (tabW w r == tab) = false)
      (fun H2 e2 => ⟨none, none, none, none, none, none, none, rfl, e2, fun r hr => by cases hr⟩) (fun i σ' H' _ ⟨_, _, _, _, _, _, _, _, x, _⟩ => SqL.of (x _ _ hlr)) ?_ ?_
    · rintro i x σ' H' hx ⟨y2, y3, y4, y5, y6, y7, y8, rfl, ex, no⟩
      obtain ⟨d, hd, px⟩ := pr.get hx
      obtain ⟨r, hr0, rfl⟩ := map_at hd
      obtain ⟨rok, rlen⟩ := hrs r (List.mem_of_getElem? hr0)
      refine g_tup2 (px.ex ex) fun v2 v3 p2 p3 => ?_
      have S1 := S.ex ex
      refine s_forPX (el_meth (ds := (triples ops nums r.length).map triD) (ev_var rfl) S1.ob (fl_no _ _ _ _ (by decide +kernel) (by decide +kernel) (by decide +kernel) (by decide +kernel)) (eps_cons (ep_evI (ev_lenT (ep_var rfl p2))) eps_nil) fun H2 e2 vs2 ps2 Q2 q2 => ?_)
        (fun H2 j σ' H' => ∃ y4 y5 y6 y7 y8, σ' = [some (.ref p), some (.ref lr), some v2, some v3, y4, y5, y6, y7, y8, none, none, none] ∧ Ex H2 H' ∧ ∀ r' ∈ longer ops nums (rs.take i) ++ ((triples ops nums r.length).take j).map fun t => r ++ [t], (tabW w r' == tab) = false)
        (fun H2 e2 => ⟨y4, y5, y6, y7, y8, rfl, Ex.refl _, by simpa using no⟩) (fun H2 j σ' H' ⟨_, _, _, _, _, _, x, _⟩ => x) ?_ ?_
      · cases ps2 with
        | cons pm ps2 =>
          cases ps2
          cases pv_int pm
          rw [List.length_map]
          exact ⟨p, w, tab, ops, nums, dx, tv, ov, l, us, r.length, rfl, S1.ex e2, hol, hnl, by omega, fun q' vs' H3 a b c d => q2 q' vs' H3 a b c d⟩
      · rintro H2 j x d σ' H3 e2 hd3 pd ⟨y4, y5, y6, y7, y8, rfl, ex3, no3⟩
        obtain ⟨t, ht, rfl⟩ := map_at hd3
        have tok : Tri.okAt r.length t := triples_ok hops (List.mem_of_getElem? ht)
        have S3 := S1.ex (e2.trans ex3)
        have x3 : Ex H' H3 := e2.trans ex3
        obtain ⟨R, hR⟩ := longer_split (ops := ops) (nums := nums) hr0 ht
        refine g_tup3 pd fun v4 v5 v6 p4 p5 p6 => ?_
        cases pv_str p4
        have cok : ∀ pt : Part, pt.ok r.length → pt.ok (colsOf w r).length := fun pt h => by rw [colsOf_len]; exact h
        refine q_asgT2 (d := tabD (col w t.2.1 (colsOf w r))) (e := tabD (col w t.2.2 (colsOf w r))) (ep_tup (eps_cons (ep_call (eps_cons (ep_ev (ev_fld (ev_var rfl) S3.ob T.cl T.nW (fl_w _ _ _ _)) (.int _)) (eps_cons (ep_var rfl p5) (eps_cons (ep_var rfl (p3.ex x3)) eps_nil))) ⟨w, t.2.1, colsOf w r, rfl, hw, cok _ tok.2.1, rfl⟩)
          (eps_cons (ep_call (eps_cons (ep_ev (ev_fld (ev_var rfl) S3.ob T.cl T.nW (fl_w _ _ _ _)) (.int _)) (eps_cons (ep_var rfl p6) (eps_cons (ep_var rfl (p3.ex x3)) eps_nil))) ⟨w, t.2.2, colsOf w r, rfl, hw, cok _ tok.2.2, rfl⟩) eps_nil)) (by simp)) fun v7 v8 H4 e4 p7 p8 => ?_
        have S4 := S3.ex e4
        rw [col_colsOf tok.2.1] at p7
        rw [col_colsOf tok.2.2] at p8
        have h4 : 4 ≤ 2 ^ w := by rcases hw with rfl | rfl <;> decide
        have e9 : (longer ops nums (rs.take i) ++ ((triples ops nums r.length).take (j + 1)).map fun t => r ++ [t]) = (longer ops nums (rs.take i) ++ ((triples ops nums r.length).take j).map fun t => r ++ [t]) ++ [r ++ [t]] := by
          rw [List.take_add_one, ht]
          simp
        have next : ∀ H5, Ex H4 H5 → ¬ tabW w (r ++ [t]) = tab → ∃ y4 y5 y6 y7 y8, [some (V.ref p), some (.ref lr), some v2, some v3, some (.str t.1.s), some v5, some v6, some v7, some v8, none, none, none] = [some (.ref p), some (.ref lr), some v2, some v3, y4, y5, y6, y7, y8, none, none, none] ∧ Ex H2 H5 ∧ ∀ r' ∈ longer ops nums (rs.take i) ++ ((triples ops nums r.length).take (j + 1)).map fun t => r ++ [t], (tabW w r' == tab) = false := fun H5 e5 hne => by
          refine ⟨_, _, _, _, _, rfl, (ex3.trans e4).trans e5, ?_⟩
          rw [e9]
          intro r' hr'
          rcases List.mem_append.mp hr' with h | h
          · exact no3 r' h
          · rw [List.mem_singleton.mp h]
            simpa using hne
        refine s_when (b := ([0, 1, 2, 3].map fun k => decide ((tabW w (r ++ [t])).getD k 0 = tab.getD k 0)).all id) (et_B (ev_all (el_lcT (σ := [some (.ref p), some (.ref lr), some v2, some v3, some (.str t.1.s), some v5, some v6, some v7, some v8, none, none, none]) (tl := tTup (tCons (tC (.int 0)) (tCons (tC (.int 1)) (tCons (tC (.int 2)) (tCons (tC (.int 3)) tNil))))) (g := gName 9) (vs := [9])
          (te := tOp (rEqD K) (tCall (spOperate K) [] E0 (tCons (tFld K (tVar 0) "w") (tCons (tVar 4) (tCons (tOp (rIxT K) (tVar 7) (tVar 9)) (tCons (tOp (rIxT K) (tVar 8) (tVar 9)) tNil))))) (tOp (rIxT K) (tFld K (tVar 0) "table") (tVar 9))) (ds := [0, 1, 2, 3].map natD) _ (ep_tup (eps_cons (ep_c (.int 0)) (eps_cons (ep_c (.int 1)) (eps_cons (ep_c (.int 2)) (eps_cons (ep_c (.int 3)) eps_nil)))) (by simp)) (by simp) (by simp) ?_))) (fun e H5 e5 => ?_) (fun e H5 e5 => ?_)
        · intro k x c d H5 e5 hc pc hd Q kq
          obtain ⟨m, hm, rfl⟩ := map_at hc
          obtain ⟨bv, hb, rfl⟩ := map_at hd
          obtain ⟨m2, hm2, rfl⟩ := map_at hb
          rw [hm] at hm2
          cases hm2
          cases pv_int pc
          have hlt : m < 2 ^ w := by
            have : m ∈ [0, 1, 2, 3] := List.mem_of_getElem? hm
            simp only [List.mem_cons, List.not_mem_nil, or_false] at this
            omega
          refine kq _ H5 (Ex.refl H5) rfl ?_
          have S5 := S4.ex e5
          have eT : (tabW w (r ++ [t])).getD m 0 = opW w t.1 (pw w t.2.1 m (doneOf w m r)) (pw w t.2.2 m (doneOf w m r)) := by
            unfold tabW
            rw [List.getD_eq_getElem?_getD, List.getElem?_map, List.getElem?_range hlt]
            exact rowW_snoc w m r t
          rw [eT]
          have atI : ∀ f : Nat → Nat, ((((List.range (2 ^ w)).map f).map natD)[m]? : Option PyData) = some (natD (f m)) := fun f => by
            rw [List.getElem?_map, List.getElem?_map, List.getElem?_range hlt]
            rfl
          have hT : ((tab.map natD)[m]? : Option PyData) = some (natD (tab.getD m 0)) := by
            rw [List.getElem?_map, List.getD_eq_getElem?_getD, List.getElem?_eq_getElem (by omega)]
            rfl
          refine ep_evB (ev_is (et_eqD (d := natD (opW w t.1 (pw w t.2.1 m (doneOf w m r)) (pw w t.2.2 m (doneOf w m r)))) (e := natD (tab.getD m 0)) (ep_call (eps_cons (ep_ev (ev_fld (ev_var rfl) S5.ob T.cl T.nW (fl_w _ _ _ _)) (.int _)) (eps_cons (ep_ev (ev_var rfl) (.str _)) (eps_cons (ep_ixT (i := m) (ep_var rfl (p7.ex e5)) (ev_var rfl) (atI _)) (eps_cons (ep_ixT (i := m) (ep_var rfl (p8.ex e5)) (ev_var rfl) (atI _)) eps_nil)))) ⟨w, t.1, _, _, rfl, hw, tok.1, pw_lt hlt (doneOf_lt hw hlt rok), pw_lt hlt (doneOf_lt hw hlt rok), rfl⟩)
            (ep_ixT (i := m) (ep_ev (ev_fld (ev_var rfl) S5.ob T.cl T.nT (fl_table _ _ _ _)) S5.tb) (ev_var rfl) hT) (natD_shaped _) (natD_shaped _)) ?_)
          rw [nat_eqv]
        · refine s_when (et_test (ev_is (et_eqD (d := tabD (tabW w (r ++ [t]))) (ep_tupleOf (ds := (tabW w (r ++ [t])).map natD) (el_lcZ (σ := [some (.ref p), some (.ref lr), some v2, some v3, some (.str t.1.s), some v5, some v6, some v7, some v8, none, none, none]) (vs := [10, 11]) (i := 10) (j := 11) _ (eps_cons (ep_var rfl (p7.ex e5)) (eps_cons (ep_var rfl (p8.ex e5)) eps_nil)) (by simp) (by simp [tabW]) (by simp; have := w_pow hw; omega) (fun x y => rfl) ?_)) (ep_ev (ev_fld (ev_var rfl) (S4.ex e5).ob T.cl T.nT (fl_table _ _ _ _)) (S4.ex e5).tb) (tabD_shaped _) (tabD_shaped _)) (congrArg V.bl (tab_eqv _ _)))) (fun e H6 e6 => ?_) (fun e H6 e6 => ?_)
          · intro k x y c c' d H6 e6 hc hc' hd pc pc'
            obtain ⟨m, hm, rfl⟩ := map_at hc
            obtain ⟨x0, hx0, rfl⟩ := map_at hm
            obtain ⟨m2, hm2, rfl⟩ := map_at hc'
            obtain ⟨x1, hx1, rfl⟩ := map_at hm2
            rw [hx0] at hx1
            cases hx1
            obtain ⟨m3, hm3, rfl⟩ := map_at hd
            obtain ⟨x2, hx2, rfl⟩ := map_at hm3
            rw [hx0] at hx2
            cases hx2
            have hlt : x0 < 2 ^ w := List.mem_range.mp (List.mem_of_getElem? hx0)
            cases pv_int pc
            cases pv_int pc'
            refine ep_call (eps_cons (ep_ev (ev_fld (ev_var rfl) ((S4.ex e5).ex e6).ob T.cl T.nW (fl_w _ _ _ _)) (.int _)) (eps_cons (ep_ev (ev_var rfl) (.str _)) (eps_cons (ep_ev (ev_var rfl) (.int _)) (eps_cons (ep_ev (ev_var rfl) (.int _)) eps_nil)))) ⟨w, t.1, _, _, rfl, hw, tok.1, pw_lt hlt (doneOf_lt hw hlt rok), pw_lt hlt (doneOf_lt hw hlt rok), ?_⟩
            rw [rowW_snoc]
          · have hm := of_decide_eq_true e
            have hfd : (longer ops nums rs).find? (fun r => tabW w r == tab) = some (r ++ [t]) := by
              rw [hR]
              exact find_mid no3 (by simpa using hm)
            rw [hfd] at q
            have e46 : Ex H3 H6 := (e4.trans e5).trans e6
            refine s_retP (d := rowD (r ++ [t])) ?_ fun v H7 e7 pv => q v H7 (((ex.trans x3).trans e46).trans e7) pv
            unfold rowD
            rw [List.map_append]
            exact ep_cat (ep_var rfl (p2.ex (x3.trans e46))) (ep_tup (eps_cons (ep_tup (eps_cons (ep_ev (ev_var rfl) (.str _)) (eps_cons (ep_var rfl (p5.ex e46)) (eps_cons (ep_var rfl (p6.ex e46)) eps_nil))) (by simp)) eps_nil) (by simp)) (by simp; omega)
          · exact next H6 (e5.trans e6) (of_decide_eq_false e)
        · refine next H5 e5 fun z => ?_
          rw [z] at e
          simp at e
      · rintro H2 σ' H3 e2 ⟨y4, y5, y6, y7, y8, rfl, ex3, no3⟩
        rw [List.length_map, List.take_length, ← longer_take hr0] at no3
        exact ⟨_, _, _, _, _, _, _, rfl, (ex.trans e2).trans ex3, no3⟩
    · rintro σ' H' ⟨y2, y3, y4, y5, y6, y7, y8, rfl, ex, no⟩
      have hws : ws.length = rs.length := by rw [pr.length, List.length_map]
      rw [hws, List.take_length] at no
      have hfd : (longer ops nums rs).find? (fun r => tabW w r == tab) = none := List.find?_eq_none.mpr fun r hr => by rw [no r hr]; decide
      rw [hfd] at q
      exact s_retP (K := K) (d := .none) ep_non fun v H7 e7 pv => q v H7 (ex.trans e7) pv
end
end K34

namespace K34
open PySem PySem.Spec PyProof.Rows L2 Evl Pd
theorem scFind : FnScope ["self", "most", "rows", "many", "found"] ["self", "most"] (defScope sFind) := ⟨rfl, rfl, rfl, by decide +kernel, rfl, by decide +kernel, by decide +kernel⟩
abbrev sShortestRow : Stmt := topS 21
abbrev sTimesRow : Stmt := topS 22
theorem scShortestRow : FnScope ["w", "table", "ops", "numbers", "most"] ["w", "table", "ops", "numbers", "most"] (defScope sShortestRow) := ⟨rfl, rfl, rfl, by decide +kernel, rfl, by decide +kernel, by decide +kernel⟩
theorem scTimesRow : FnScope ["w", "n", "table", "x"] ["w", "n"] (defScope sTimesRow) := ⟨rfl, rfl, rfl, by decide +kernel, rfl, by decide +kernel, by decide +kernel⟩
def lv (ops : List Op) (nums : List Nat) : Nat → List Row
  | 0 => [[]]
  | n + 1 => longer ops nums (lv ops nums n)
theorem search_no {w : Nat} {tab : List Nat} {ops : List Op} {nums : List Nat} {k : Nat} {rows : List Row} (h : (longer ops nums rows).find? (fun r => tabW w r == tab) = none) : search w tab ops nums (k + 1) rows = search w tab ops nums k (longer ops nums rows) := by
  conv => lhs; unfold search
  rw [h]
theorem lv_ok {ops : List Op} {nums : List Nat} (ho : ∀ o ∈ ops, o.ok = true) : ∀ n, ∀ r ∈ lv ops nums n, RowOk r ∧ r.length = n
  | 0 => fun r hr => by
    rw [List.mem_singleton.mp hr]
    exact ⟨RowOk.nil, rfl⟩
  | n + 1 => longer_ok ho (lv_ok ho n)
/-- what the search may be asked -/
def Small (ops : List Op) (nums : List Nat) (most : Nat) : Prop := most ≤ 2 ∧ ops.length ≤ 5 ∧ nums.length ≤ 10 ∨ most ≤ 3 ∧ ops.length ≤ 3 ∧ nums.length ≤ 3
theorem small_len {ops : List Op} {nums : List Nat} {most i : Nat} (ho : ∀ o ∈ ops, o.ok = true) (h : Small ops nums most) (hi : i + 1 < most) : (lv ops nums i).length * (ops.length * ((1 + nums.length + i) * (1 + nums.length + i))) ≤ 50000 := by
  rcases h with ⟨h1, h2, h3⟩ | ⟨h1, h2, h3⟩
  · have : i = 0 := by omega
    subst this
    show 1 * _ ≤ _
    have a : (1 + nums.length + 0) * (1 + nums.length + 0) ≤ 11 * 11 := Nat.mul_le_mul (by omega) (by omega)
    have b := Nat.mul_le_mul h2 a
    omega
  · have c : i = 0 ∨ i = 1 := by omega
    rcases c with rfl | rfl
    · show 1 * _ ≤ _
      have a : (1 + nums.length + 0) * (1 + nums.length + 0) ≤ 4 * 4 := Nat.mul_le_mul (by omega) (by omega)
      have b := Nat.mul_le_mul h2 a
      omega
    · have e : (lv ops nums 1).length = 1 * (ops.length * ((1 + nums.length + 0) * (1 + nums.length + 0))) := longer_len (n := 0) rfl (fun r hr => (lv_ok ho 0 r hr).2)
      rw [e, Nat.one_mul]
      have a : (1 + nums.length + 0) * (1 + nums.length + 0) ≤ 4 * 4 := Nat.mul_le_mul (by omega) (by omega)
      have b := Nat.mul_le_mul h2 a
      have a2 : (1 + nums.length + 1) * (1 + nums.length + 1) ≤ 5 * 5 := Nat.mul_le_mul (by omega) (by omega)
      have b2 := Nat.mul_le_mul h2 a2
      have c2 := Nat.mul_le_mul b b2
      omega
theorem small_b {ops : List Op} {nums : List Nat} {most : Nat} (h : Small ops nums most) : most ≤ 3 ∧ ops.length ≤ 5 ∧ nums.length ≤ 10 := by
  rcases h with ⟨h1, h2, h3⟩ | ⟨h1, h2, h3⟩ <;> exact ⟨by omega, by omega, by omega⟩
def spFind (K : PySem.W.Frag) (C : Addr) : Sp := fun vs H Q _ => ∃ (p : Addr) (w : Nat) (tab : List Nat) (ops : List Op) (nums : List Nat) (dx : Addr) (tv ov : V) (l : Addr) (us : List V) (most : Nat),
  vs = [.ref p, .int (most : Int)] ∧ SearchAt K C H p w tab ops nums dx tv ov l us ∧ W2 w ∧ tab.length = 2 ^ w ∧ (∀ o ∈ ops, o.ok = true) ∧ Small ops nums most ∧
  ∀ v H', Ex H H' → PV K H' v (optD (shortest w tab ops nums most)) → Q v H'
def spShort (K : PySem.W.Frag) : Sp := spP K fun ds d => ∃ (w : Nat) (tab : List Nat) (ops : List Op) (nums : List Nat) (most : Nat), ds = [natD w, tabD tab, opsD ops, numsD nums, natD most] ∧ W2 w ∧ tab.length = 2 ^ w ∧ (∀ o ∈ ops, o.ok = true) ∧ Small ops nums most ∧ d = optD (shortest w tab ops nums most)
def spTimes (K : PySem.W.Frag) : Sp := spP K fun ds d => ∃ (w n : Nat), ds = [natD w, natD n] ∧ W2 w ∧ n < 2 ^ w ∧ d = optD (times w n)
section
variable {P : Program} {w : World} {K : PySem.W.Frag} {mg : Str → Option Value} {base : Heap}
theorem ok_find {f C fG fL : Addr} {fd fdG fdL : FuncData} (F : Fun K "find" "Search.find" sFind f fd) (T : SCl K mg C) (MG : Meth K C "grown" fG) (GG : FnOk P w K mg base CX0 4 fG fdG ["self", "rows"] (spGrown K C)) (bG : Binds K fdG ["self", "rows"] [])
    (ML : Meth K C "last" fL) (GL : FnOk P w K mg base CX0 4 fL fdL ["self", "rows"] (spLast K C)) (bL : Binds K fdL ["self", "rows"] [])
    (mt : mg "tuple" = none) (mr : mg "range" = none) : FnOk P w K mg base CX0 5 f fd ["self", "most"] (spFind K C) := by
  refine F.ok scFind (fun vs H Q E h => ?_) (fun cdv A outer s H vs Q E hr h => ?_)
  · obtain ⟨p, w, tab, ops, nums, dx, tv, ov, l, us, most, rfl, _⟩ := h
    rfl
  · obtain ⟨p, w, tab, ops, nums, dx, tv, ov, l, us, most, rfl, S, hw, htl, hops, hsm, q⟩ := h
    obtain ⟨hm3, ho5, hn10⟩ := small_b hsm
    refine ⟨_, pss_cons (ps_if (pt_cmpR (op_eqD hr.units) (pe_fld (pv 0) rfl) (pe_tupRg rfl (by rfl) mt (prg_1 (by rfl) mr (pe_op op_shl pe_int (pe_fld (pv 0) rfl)))) (nomark _)) (pss_one (ps_ret (pe_tup pa_nil))) pss_nil)
      (pss_cons (ps_set (i := 2) scFind.nd rfl (.inl rfl) (pe_lst (pa_cons (pe_tup (pa_cons (pe_tup pa_nil) (pa_cons (pe_tup pa_nil) pa_nil))) pa_nil)))
      (pss_cons (ps_for PassesOwn.never rfl (pi_range1 rfl mr (pa_cons (pv 1) pa_nil)) (pg_name (i := 3) scFind.nd rfl (.inl rfl))
        (pss_cons (ps_if (pt_cmpR op_eq (pv 3) (pe_op op_sub (pv 1) pe_int) (nomark _)) (pss_one (ps_ret (pe_meth (pv 0) T.cl ML GL hr bL .nil pass0 (pa_cons (pv 2) pa_nil)))) pss_nil)
        (pss_cons (ps_asg (pe_meth (pv 0) T.cl MG GG hr bG .nil pass0 (pa_cons (pv 2) pa_nil)) (pg_tup rfl (pgs_cons (pg_name (i := 2) scFind.nd rfl (.inl rfl)) (pgs_cons (pg_name (i := 4) scFind.nd rfl (.inl rfl)) pgs_nil))))
        (pss_one (ps_if (pt_cmpR op_notN (pv 4) pe_non (nomark _)) (pss_one (ps_ret (pv 4))) pss_nil)))))
      (pss_one (ps_ret pe_non)))), ?_⟩
    have htup : ∀ H1, Ex H H1 → EvP K (tTupRg (tRg1 (tOp (rI CPow fun i j => .int (i * 2 ^ j.toNat)) (tC (.int 1)) (tFld K (tVar 0) "w")))) (L2.start ["self", "most", "rows", "many", "found"] [.ref p, .int (most : Int)]) H1 (tabD (List.range (2 ^ w))) := fun H1 e1 => by
      have := ep_tupRg (K := K) (n := 2 ^ w) (H := H1) (σ := L2.start ["self", "most", "rows", "many", "found"] [.ref p, .int (most : Int)]) (shl1N (te := tFld K (tVar 0) "w") (ev_fld (ev_var rfl) (S.ex e1).ob T.cl T.nW (fl_w _ _ _ _)) (w_le hw)) (by have := w_pow hw; omega)
      unfold Pd.upTo at this
      rw [List.map_map] at this
      exact this
    refine q_when (et_test (ev_is (et_eqD (ep_ev (ev_fld (ev_var rfl) S.ob T.cl T.nT (fl_table _ _ _ _)) S.tb) (htup H (Ex.refl H)) (tabD_shaped _) (tabD_shaped _)) (congrArg V.bl (tab_eqv _ _)))) (fun e H1 e1 => ?_) (fun e H1 e1 => ?_)
    · have e' := of_decide_eq_true e
      have hs : shortest w tab ops nums most = some [] := by
        unfold shortest
        rw [if_pos e']
      rw [hs] at q
      exact s_retP (K := K) (d := rowD []) (ep_tup eps_nil (by simp)) fun v H2 e2 pv => q v H2 (e1.trans e2) pv
    · have e' := of_decide_eq_false e
      have hs : shortest w tab ops nums most = search w tab ops nums most [[]] := by
        unfold shortest
        rw [if_neg e']
      rw [hs] at q
      refine q_asgPL (K := K) (ds := (lv ops nums 0).map (pairD w)) (el_tup (eps_cons (ep_tup (eps_cons (ep_tup eps_nil (by simp)) (eps_cons (ep_tup eps_nil (by simp [colsOf])) eps_nil)) (by simp)) eps_nil) (by simp [lv])) fun l0 ws0 H2 hl0 e2 hl2 pl2 => ?_
      refine q_forR1 (n := (most : Int)) (ea_cons (ev_var rfl) ea_nil) (by omega) (fun i σ' H' => ∃ lr y3 y4 ws, σ' = [some (.ref p), some (.int (most : Int)), some (.ref lr), y3, y4] ∧ Ex H H' ∧ H' lr = some (.lst ws) ∧ PVs K H' ws ((lv ops nums i).map (pairD w)) ∧ search w tab ops nums most [[]] = search w tab ops nums (most - i) (lv ops nums i) ∧ (i = 0 ∨ i < most))
        (fun H3 e3 => ⟨l0, none, none, ws0, rfl, (e1.trans e2).trans e3, e3 _ _ hl2, pl2.ex e3, rfl, .inl rfl⟩) ?_ ?_
      · rintro i σ' H' hi ⟨lr, y3, y4, ws, rfl, ex, hl, pl, hse, _⟩
        have hi' : i < most := by omega
        have S1 := S.ex ex
        refine q_when (et_test (b := decide (i + 1 = most)) (ev_is (ev_op (ev_var rfl) (ev_op (ev_var rfl) ev_c rv_I0) (rv_eq rfl)) (congrArg V.bl (decide_eq_decide.mpr ⟨fun z => ?_, fun z => ?_⟩)))) (fun e H3 e3 => ?_) (fun e H3 e3 => ?_)
        · have := V.int.inj z
          omega
        · exact congrArg V.int (by omega)
        · have e4 := of_decide_eq_true e
          have hk : most - i = 1 := by omega
          rw [hse, hk] at q
          have S3 := S1.ex e3
          refine ⟨_, rfl, p, dx, _, rfl, S3.ob, fl_no _ _ _ _ (by decide +kernel) (by decide +kernel) (by decide +kernel) (by decide +kernel), _, rfl, p, w, tab, ops, nums, dx, tv, ov, l, us, lr, ws, lv ops nums i, i, rfl, S3, e3 _ _ hl, pl.ex e3, hw, htl, hops, ho5, hn10, by omega, lv_ok hops i, fun v H4 e4 pv => q v H4 ((ex.trans e3).trans e4) ?_⟩
          have : search w tab ops nums 1 (lv ops nums i) = (longer ops nums (lv ops nums i)).find? fun r => tabW w r == tab := by
            unfold search
            split
            · rename_i h
              exact h.symm
            · rename_i h
              rw [h]
              rfl
          rw [this]
          exact pv
        · have e4 : i + 1 < most := by have := of_decide_eq_false e; omega
          have hk : most - i = (most - (i + 1)) + 1 := by omega
          rw [hk] at hse
          have S3 := S1.ex e3
          refine ⟨_, rfl, p, dx, _, rfl, S3.ob, fl_no _ _ _ _ (by decide +kernel) (by decide +kernel) (by decide +kernel) (by decide +kernel), _, rfl, p, w, tab, ops, nums, dx, tv, ov, l, us, lr, ws, lv ops nums i, i, rfl, S3, e3 _ _ hl, pl.ex e3, hw, hops, ho5, hn10, by omega, lv_ok hops i, small_len hops hsm e4, fun t q' fv vs' H4 e5 hq' ht hv' pfv pvs => ?_⟩
          refine ⟨t, _, rfl, SqT.of ht, rfl, _, _, rfl, _, _, rfl, rfl, ?_⟩
          have tl : Ex H' H4 := e3.trans e5
          refine s_when (et_test (et_notN (ep_var rfl pfv))) (fun e H5 e6 => ?_) (fun e H5 e6 => ?_)
          · cases hf : (longer ops nums (lv ops nums i)).find? (fun r => tabW w r == tab) with
            | none =>
              rw [hf] at e
              cases e
            | some r =>
              rw [search_one hf] at hse
              rw [hse] at q
              rw [hf] at pfv
              exact s_retP (ep_var rfl (pfv.ex e6)) fun v H6 e7 pv => q v H6 (((ex.trans tl).trans e6).trans e7) pv
          · cases hf : (longer ops nums (lv ops nums i)).find? (fun r => tabW w r == tab) with
            | some r =>
              rw [hf] at e
              cases e
            | none =>
              refine ⟨q', _, _, vs', rfl, (ex.trans tl).trans e6, e6 _ _ hv', (pvs hf).ex e6, ?_, .inr e4⟩
              rw [hse]
              exact search_no hf
      · rintro σ' H' ⟨lr, y3, y4, ws, rfl, ex, hl, pl, hse, hi⟩
        rw [Int.toNat_natCast] at hse hi
        have h0 : most = 0 := by omega
        subst h0
        exact s_retP (K := K) (d := .none) ep_non fun v H6 e7 pv => q v H6 (ex.trans e7) pv
/-- Search(..) -/
theorem mk_search {σ : L2.St} {H : Hp} {E : XK} {C : Addr} {t : TA} {w : Nat} {tab : List Nat} {ops : List Op} {nums : List Nat} (h : EvPs K t σ H [natD w, tabD tab, opsD ops, numsD nums]) (hn : nums.length ≤ 100) :
    ∀ H1, Ex H H1 → ∀ Q : VK, (∀ x dx tv ov l us H2, Ex H1 H2 → SearchAt K C H2 x w tab ops nums dx tv ov l us → Q (.ref x) H2) → tMake C (spSInit K C) [] E t σ H1 Q := fun H1 e1 Q q =>
  h H1 e1 _ fun vs H2 e2 ps x dx hx hdx hne => by
    obtain ⟨v1, v2, v3, v4, rfl, p1, p2, p3, p4⟩ := pvs4 ps
    cases pv_int p1
    have en : Ex H2 (upd (upd H2 dx (.own x)) x (.ins C dx [])) := (Ex.new hdx).trans (Ex.new (by rw [upd_ne (Ne.symm hne)]; exact hx))
    refine ⟨x, dx, w, tab, ops, nums, v2, v3, v4, rfl, upd_same, p2.ex en, p3.ex en, p4.ex en, hn, fun l us H3 S k => ⟨rfl, q x dx v2 v3 l us H3 (e2.trans fun a o ha => ?_) S⟩⟩
    have hax : a ≠ x := fun z => by
      subst z
      rw [hx] at ha
      cases ha
    exact k a o (en a o ha) hax
theorem ok_shortest_row {f C fI fF : Addr} {fd fdI fdF : FuncData} (F : Fun K "shortest_row" "shortest_row" sShortestRow f fd) (T : SCl K mg C) (M : Mk K C fI) (GI : FnOk P w K mg base CX0 1 fI fdI ["self", "w", "table", "ops", "numbers"] (spSInit K C)) (bI : Binds K fdI ["self", "w", "table", "ops", "numbers"] [])
    (MF : Meth K C "find" fF) (GF : FnOk P w K mg base CX0 5 fF fdF ["self", "most"] (spFind K C)) (bF : Binds K fdF ["self", "most"] []) : FnOk P w K mg base CX0 6 f fd ["w", "table", "ops", "numbers", "most"] (spShort K) := by
  refine F.ok scShortestRow (fun vs H Q E h => ?_) (fun cdv A outer s H vs Q E hr h => ?_)
  · obtain ⟨ds, d, ps, ⟨w, tab, ops, nums, most, rfl, _⟩, _⟩ := h
    exact ps.length
  · obtain ⟨ds, d, ps, ⟨w, tab, ops, nums, most, rfl, hw, htl, hops, hsm, rfl⟩, q⟩ := h
    obtain ⟨hm3, ho5, hn10⟩ := small_b hsm
    have hr2 : Room (1 + 1) _ := hr.mono (by decide)
    cases ps with
    | cons p1 ps =>
      obtain ⟨v2, v3, v4, v5, rfl, p2, p3, p4, p5⟩ := pvs4 ps
      cases pv_int p1
      cases pv_int p5
      refine ⟨_, pss_one (ps_ret (pe_meth (pe_make M GI hr2 (by rfl) T.mgC bI .nil pass0 (pa_cons (pv 0) (pa_cons (pv 1) (pa_cons (pv 2) (pa_cons (pv 3) pa_nil))))) T.cl MF GF hr bF .nil pass0 (pa_cons (pv 4) pa_nil))), ?_⟩
      unfold tRet tMeth
      refine mk_search (w := w) (tab := tab) (ops := ops) (nums := nums) ?_ (by omega) H (Ex.refl H) _ fun x dx tv ov l us H2 e2 S => ?_
      · exact eps_cons (ep_ev (ev_var rfl) (.int _)) (eps_cons (ep_var rfl p2) (eps_cons (ep_var rfl p3) (eps_cons (ep_var rfl p4) eps_nil)))
      refine ⟨x, dx, _, rfl, S.ob, fl_no _ _ _ _ (by decide +kernel) (by decide +kernel) (by decide +kernel) (by decide +kernel), _, rfl, x, w, tab, ops, nums, dx, tv, ov, l, us, most, rfl, S, hw, htl, hops, hsm, fun v H3 e3 pv => q v H3 (e2.trans e3) pv⟩
end
end K34

namespace K34
open PySem PySem.Spec PyProof.Rows L2 Evl Pd
abbrev sBegin : Stmt := topS 24
abbrev sTake : Stmt := topS 25
abbrev sPick : Stmt := topS 26
abbrev sLonger : Stmt := topS 32
theorem scBegin : FnScope ["script", "seed", "cell"] ["script"] (defScope sBegin) := ⟨rfl, rfl, rfl, by decide +kernel, rfl, by decide +kernel, by decide +kernel⟩
theorem scTake : FnScope ["d", "many", "small", "digit"] ["d", "many"] (defScope sTake) := ⟨rfl, rfl, rfl, by decide +kernel, rfl, by decide +kernel, by decide +kernel⟩
theorem scPick : FnScope ["d", "menu"] ["d", "menu"] (defScope sPick) := ⟨rfl, rfl, rfl, by decide +kernel, rfl, by decide +kernel, by decide +kernel⟩
theorem scLonger : FnScope ["rows", "ops", "numbers", "found", "row", "number", "parts", "op", "one", "other"] ["rows", "ops", "numbers"] (defScope sLonger) := ⟨rfl, rfl, rfl, by decide +kernel, rfl, by decide +kernel, by decide +kernel⟩
/-- the deck of a law: the script, a place, what is left of a number, a seed -/
theorem SqL_ex {K : PySem.W.Frag} {H H' : Hp} {a : Addr} {xs : List V} (e : Ex H H') (h : SqL K H a xs) : SqL K H' a xs := ex_l e h
theorem list_of {K : PySem.W.Frag} {σ : L2.St} {H : Hp} {te : TE} {a : Addr} {xs : List V} {r : List V → Hp → VK → Prop} (hr : r = fun xs H Q => ∃ p ys, xs = [.ref p] ∧ (SqL K H p ys ∨ SqT K H p ys) ∧ ∀ l, H l = none → Q (.ref l) (upd H l (.lst ys))) (h : Ev te σ H (.ref a)) (hs : SqL K H a xs) : EvL (tCB r (tCons te tNil)) σ H xs := by
  subst hr
  exact el_cb (ea_cons h ea_nil) fun H1 e1 Q q => ⟨a, xs, rfl, .inl (SqL_ex e1 hs), fun l hl => q l _ hl (Ex.new hl) upd_same⟩
theorem s_retDeck {σ : L2.St} {H : Hp} {D : Ends} {te : TE} {xs : List V} {s : Int} (h : EvL te σ H xs) (hv : σ[1]? = some (some (.int s))) (k : ∀ d ls H1, H d = none → H ls = none → Ex H H1 → H1 ls = some (.lst xs) → H1 d = some (.lst [.ref ls, .int ((0 : Nat) : Int), .int 0, .int s]) → ls ≠ d → D.rt (.ref d) H1) :
    tRet (tLst (tCons te (tCons (tC (.int 0)) (tCons (tC (.int 0)) (tCons (tVar 1) tNil))))) D σ H :=
  h H (Ex.refl H) _ fun ls H1 hls e1 hl1 => ⟨_, hv, sz_of (by simp), fun d hd => by
    have hne : ls ≠ d := fun z => by
      subst z
      rw [hd] at hl1
      cases hl1
    exact k d ls _ (fresh_back e1 hd) hls (e1.trans (Ex.new hd)) ((Ex.new hd) _ _ hl1) upd_same hne⟩
theorem int_i {σ : L2.St} {H : Hp} {te : TE} {i : Int} {r : List V → Hp → VK → Prop} (hr : r = fun xs H Q => (∃ i, xs = [.int i] ∧ Q (.int i) H) ∨ ∃ k, xs = [.bl k] ∧ Q (.int (if k then 1 else 0)) H) (h : Ev te σ H (.int i)) : Ev (tCB r (tCons te tNil)) σ H (.int i) := by
  subst hr
  exact ev_cb (ea_cons h ea_nil) fun H1 e Q q => .inl ⟨i, rfl, q H1 (Ex.refl H1)⟩
theorem abs_i {σ : L2.St} {H : Hp} {te : TE} {i : Int} {r : List V → Hp → VK → Prop} (hr : r = fun xs H Q => ∃ i, xs = [.int i] ∧ Q (.int (if i < 0 then -i else i)) H) (h : Ev te σ H (.int i)) : Ev (tCB r (tCons te tNil)) σ H (.int (if i < 0 then -i else i)) := by
  subst hr
  exact ev_cb (ea_cons h ea_nil) fun H1 e Q q => ⟨i, rfl, q H1 (Ex.refl H1)⟩
theorem dk_at {K : PySem.W.Frag} {σ : L2.St} {H : Hp} {d : Addr} {xs : List V} {j : Int} {v : V} (h : σ[0]? = some (some (.ref d))) (hD : H d = some (.lst xs)) (hj : atI xs j = some v) : Ev (tOp (rIxL K) (tVar 0) (tC (.int j))) σ H v :=
  ev_op (ev_var h) ev_c (rv_ixL (SqL.of hD) hj)
structure Deck (H : Hp) (d ls : Addr) (ns : List Int) : Prop where
  ne : ls ≠ d
  li : H ls = some (.lst (ns.map V.int))
  dk : ∃ i : Nat, ∃ b s : Int, H d = some (.lst [.ref ls, .int (i : Int), .int b, .int s]) ∧ 0 ≤ b ∧ 0 ≤ s ∧ s < 2147483647
theorem Deck.ex {H H' : Hp} {d ls : Addr} {ns : List Int} (D : Deck H d ls ns) (e : Ex H H') : Deck H' d ls ns :=
  ⟨D.ne, e _ _ D.li, let ⟨i, b, s, h, r⟩ := D.dk; ⟨i, b, s, e _ _ h, r⟩⟩
def spBegin (K : PySem.W.Frag) : Sp := fun vs H Q _ => ∃ (a : Addr) (ns : List Int), vs = [.ref a] ∧ SqL K H a (ns.map V.int) ∧ ns.length ≤ 63 ∧ ∀ d ls H', H d = none → H ls = none → Ex H H' → Deck H' d ls ns → Q (.ref d) H'
def spTake : Sp := fun vs H Q _ => ∃ (d ls : Addr) (ns : List Int) (m : Nat), vs = [.ref d, .int (m : Int)] ∧ Deck H d ls ns ∧ 0 < m ∧ m ≤ 1000000 ∧ ns.length ≤ 63 ∧ ∀ (r : Nat) H', r < m → Exl d H H' → Deck H' d ls ns → Q (.int (r : Int)) H'
section
variable {P : Program} {w : World} {K : PySem.W.Frag} {mg : Str → Option Value} {base : Heap}
theorem ok_times {f fW fS tO : Addr} {fd fdW fdS : FuncData} {t3 : Tok} (F : Fun K "times_row" "times_row" sTimesRow f fd) (GW : FnOk P w K mg base CX0 1 fW fdW ["w", "number"] (spWordOf K)) (kW : PySem.W.keepIn K (.ref fW) = true) (bW : Binds K fdW ["w", "number"] []) (gW : mg "word_of" = some (.ref fW))
    (GS : FnOk P w K mg base CX0 6 fS fdS ["w", "table", "ops", "numbers", "most"] (spShort K)) (kS : PySem.W.keepIn K (.ref fS) = true) (bS : Binds K fdS ["w", "table", "ops", "numbers", "most"] []) (gS : mg "shortest_row" = some (.ref fS))
    (gO : mg "TIMES_OPS" = some (.ref tO)) (TO : ∀ H : Hp, PV K H (.ref tO) (opsD [.add, .sub, .shl])) (gM : mg "MOST_TIMES" = some (.int 3 t3)) (mt : mg "tuple" = none) (mr : mg "range" = none) : FnOk P w K mg base CX0 7 f fd ["w", "n"] (spTimes K) := by
  refine F.ok scTimesRow (fun vs H Q E h => ?_) (fun cdv A outer s H vs Q E hr h => ?_)
  · obtain ⟨ds, d, ps, ⟨w, n, rfl, _⟩, _⟩ := h
    exact ps.length
  · obtain ⟨ds, d, ps, ⟨w, n, rfl, hw, hn, rfl⟩, q⟩ := h
    obtain ⟨_, _, rfl, a1, a2⟩ := pvs2 ps
    cases pv_int a1
    cases pv_int a2
    have hr1 : Room 1 _ := hr.mono (by decide)
    have hw8 := w_pow hw
    refine ⟨_, pss_cons (ps_set (i := 2) scTimesRow.nd rfl (.inl rfl) (pe_tupleOf (by rfl) mt (pe_lc (own := [("x", 3)]) (g := gName 3) (tt := tYes) (te := tCall (spWordOf K) [] E0 (tCons (tVar 0) (tCons (tOp (rI CMul fun i j => .int (i * j)) (tVar 1) (tVar 3)) tNil))) rfl scTimesRow.nd (pi_range1 rfl mr (pa_cons (pe_op op_shl pe_int (pv 0)) pa_nil)) (blkOk_by (N := ["w", "n", "table", "x"]) (sc := defScope sTimesRow) (by decide +kernel))
        (fun _ _ _ _ _ => pg_name (i := 3) scTimesRow.nd rfl (Or.inl rfl)) (fun _ _ _ _ _ => pts_nil) (fun _ _ _ _ _ => pe_call GW hr1 (by rfl) gW kW bW .nil pass0 (pa_cons (pv 0) (pa_cons (pe_op op_mul (pv 1) (pv 3)) pa_nil))))))
      (pss_one (ps_ret (pe_call GS hr (by rfl) gS kS bS .nil pass0 (pa_cons (pv 0) (pa_cons (pv 2) (pa_cons (pe_glob (v := .ref tO) (by rfl) gO (by rfl)) (pa_cons (pe_tupRg rfl (by rfl) mt (prg_1 (by rfl) mr (pv 0))) (pa_cons (pe_glob (v := .int 3) (by rfl) gM ⟨_, rfl⟩) pa_nil)))))))), ?_⟩
    refine q_asgP (K := K) (d := tabD (timesTab w n)) (ep_tupleOf (ds := (timesTab w n).map natD) ?_) fun tv H1 e1 pt => ?_
    · have := el_lcR (K := K) (σ := [some (.int (w : Int)), some (.int (n : Int)), none, none]) (H := H) (te := tCall (spWordOf K) [] E0 (tCons (tVar 0) (tCons (tOp (rI CMul fun i j => .int (i * j)) (tVar 1) (tVar 3)) tNil))) (ta := tCons (tOp (rI CPow fun i j => .int (i * 2 ^ j.toNat)) (tC (.int 1)) (tVar 0)) tNil) (j := 3) (vs := [3]) (n := 2 ^ w)
        (fun i => natD (n * i % 2 ^ w)) (eps_cons (ep_evI (shl1N (ev_var rfl) (w_le hw))) eps_nil) (by omega) (fun x => rfl)
        (fun i H1 e hi => ep_evI (ev_is (spWordOf_call (ev_var rfl) (ev_op (ev_var rfl) (ev_var rfl) (rv_I (C := CMul) (g := fun i j => .int (i * j)) (.inl ⟨by omega, by omega⟩))) (w_le hw)) (by simp)))
      unfold timesTab
      rw [List.map_map]
      exact this
    · refine s_retP (d := optD (times w n)) (ep_call (eps_cons (ep_ev (ev_var rfl) (.int _)) (eps_cons (ep_var rfl pt) (eps_cons (ep_c (TO _)) (eps_cons (d := numsD (List.range w)) ?_ (eps_cons (ep_c (.int _)) eps_nil)))))
        ⟨w, timesTab w n, [.add, .sub, .shl], List.range w, 3, rfl, hw, by simp [timesTab], by decide, .inr ⟨by decide, by decide, by rw [List.length_range]; rcases hw with rfl | rfl <;> decide⟩, rfl⟩) fun v H2 e2 p => q v H2 (e1.trans e2) p
      have := ep_tupRg (K := K) (n := w) (H := H1) (σ := [some (.int (w : Int)), some (.int (n : Int)), some tv, none]) (te := tVar 0) (ev_var rfl) (by have := w_le hw; omega)
      unfold Pd.upTo at this
      rw [List.map_map] at this
      exact this
theorem ok_begin {f : Addr} {fd : FuncData} (F : Fun K "_law_begin" "_law_begin" sBegin f fd) (mi : mg "int" = none) (ml : mg "list" = none) : FnOk P w K mg base CX0 1 f fd ["script"] (spBegin K) := by
  refine F.ok scBegin (fun vs H Q E h => ?_) (fun cdv A outer s H vs Q E hr h => ?_)
  · obtain ⟨a, ns, rfl, _⟩ := h
    rfl
  · obtain ⟨a, ns, rfl, hs, hl, q⟩ := h
    refine ⟨_, pss_cons (ps_set (i := 1) scBegin.nd rfl (.inl rfl) pe_int)
      (pss_cons (ps_for PassesOwn.never rfl (pi_list (pv 0)) (pg_name (i := 2) scBegin.nd rfl (.inl rfl))
        (pss_one (ps_set (i := 1) scBegin.nd rfl (.inl rfl) (pe_op op_mod (pe_op op_add (pe_op op_add (pe_op op_mul (pv 1) pe_int) (pe_op op_mod (pe_callTy call_int1 (by rfl) mi (by decide +kernel) (pa_cons (pv 2) pa_nil)) pe_int)) pe_int) pe_int))))
      (pss_one (ps_ret (pe_lst (pa_cons (pe_callTy call_list_of (by rfl) ml (by decide +kernel) (pa_cons (pv 0) pa_nil)) (pa_cons pe_int (pa_cons pe_int (pa_cons (pv 1) pa_nil)))))))), ?_⟩
    refine q_asg ev_c fun H1 e1 => ?_
    refine q_forLn (ev_var rfl) (SqL_ex e1 hs) (fun i σ' H' => ∃ (s : Int) (y2 : Option V), σ' = [some (.ref a), some (.int s), y2] ∧ Ex H H' ∧ 0 ≤ s ∧ s < 2147483647) (fun H2 e2 => ⟨1, none, rfl, e1.trans e2, by decide, by decide⟩) (fun i σ' H' _ ⟨_, _, _, x, _⟩ => SqL_ex x hs) ?_ ?_
    · rintro i x σ' H' hx ⟨s, y2, rfl, ex, h0, h1⟩
      obtain ⟨n, hn, rfl⟩ := map_at hx
      refine s_asg (ev_op (ev_op (ev_op (ev_op (ev_var rfl) ev_c (rv_I (C := CMul) (g := fun i j => .int (i * j)) (.inr ⟨by decide, by decide⟩))) (ev_op (int_i rfl (ev_var rfl)) ev_c (rv_I (C := fun _ j => 0 < j) (g := fun i j => .int (i % j)) (by decide))) rv_I0) ev_c rv_I0) ev_c (rv_I (C := fun _ j => 0 < j) (g := fun i j => .int (i % j)) (by decide))) fun H2 e2 => ⟨_, _, rfl, ex.trans e2, Int.emod_nonneg _ (by decide), Int.emod_lt_of_pos _ (by decide)⟩
    · rintro σ' H' ⟨s, y2, rfl, ex, h0, h1⟩
      refine s_retDeck (list_of rfl (ev_var rfl) (SqL_ex ex hs)) rfl fun d ls H2 hd hls e2 hl2 hdk hne => ?_
      exact q d ls _ (fresh_back ex hd) (fresh_back ex hls) (ex.trans e2) ⟨hne, hl2, 0, 0, s, hdk, by decide, h0, h1⟩
theorem ok_take {f : Addr} {fd : FuncData} (F : Fun K "_law_take" "_law_take" sTake f fd) (mi : mg "int" = none) (ml : mg "len" = none) (ma : mg "abs" = none) : FnOk P w K mg base CX0 1 f fd ["d", "many"] spTake := by
  refine F.ok scTake (fun vs H Q E h => ?_) (fun cdv A outer s H vs Q E hr h => ?_)
  · obtain ⟨d, ls, ns, m, rfl, _⟩ := h
    rfl
  · obtain ⟨d, ls, ns, m, rfl, D, hm0, hm1, hl, q⟩ := h
    refine ⟨_, pss_cut (ps_if (PW.pt (pw_and (pt_cmpR op_eq (pe_ix ix_list (pv 0) pe_int (fun _ _ => rfl)) pe_int (nomark _)) (pw_and1 (pt_cmpR op_lt (pe_ix ix_list (pv 0) pe_int (fun _ _ => rfl)) (pe_callB call_len_seq (by rfl) ml PySem.boot_len (pa_cons (pe_ix ix_list (pv 0) pe_int (fun _ _ => rfl)) pa_nil)) (nomark _)))))
        (pss_cons (ps_asg (pe_callB call_abs (by rfl) ma (by decide +kernel) (pa_cons (pe_callTy call_int1 (by rfl) mi (by decide +kernel) (pa_cons (pe_ix ix_list (pe_ix ix_list (pv 0) pe_int (fun _ _ => rfl)) (pe_ix ix_list (pv 0) pe_int (fun _ _ => rfl)) (fun _ _ => rfl)) pa_nil)) pa_nil)) (pg_sub (pv 0) pe_int set_list))
        (pss_cons (ps_asg (pe_op op_add (pe_ix ix_list (pv 0) pe_int (fun _ _ => rfl)) pe_int) (pg_sub (pv 0) pe_int set_list))
        (pss_one (ps_if (pt_cmpR op_lt (pe_ix ix_list (pv 0) pe_int (fun _ _ => rfl)) (pe_op op_pow pe_int pe_int) (nomark _))
          (pss_cons (ps_set (i := 2) scTake.nd rfl (.inl rfl) (pe_callTy call_int1 (by rfl) mi (by decide +kernel) (pa_cons (pe_ix ix_list (pv 0) pe_int (fun _ _ => rfl)) pa_nil)))
          (pss_cons (ps_asg pe_int (pg_sub (pv 0) pe_int set_list))
          (pss_one (ps_ret (pe_op op_mod (pv 2) (pv 1)))))) pss_nil)))) pss_nil)
      (pss_cons (ps_if (pt_cmpR op_gt (pe_ix ix_list (pv 0) pe_int (fun _ _ => rfl)) pe_int (nomark _))
        (pss_cons (ps_set (i := 3) scTake.nd rfl (.inl rfl) (pe_op op_mod (pe_callTy call_int1 (by rfl) mi (by decide +kernel) (pa_cons (pe_ix ix_list (pv 0) pe_int (fun _ _ => rfl)) pa_nil)) (pv 1)))
        (pss_cons (ps_asg (pe_op op_fdiv (pe_callTy call_int1 (by rfl) mi (by decide +kernel) (pa_cons (pe_ix ix_list (pv 0) pe_int (fun _ _ => rfl)) pa_nil)) (pv 1)) (pg_sub (pv 0) pe_int set_list))
        (pss_one (ps_ret (pv 3))))) pss_nil)
      (pss_cons (ps_asg (pe_op op_mod (pe_callTy call_int1 (by rfl) mi (by decide +kernel) (pa_cons (pe_op op_add (pe_op op_mul (pe_ix ix_list (pv 0) pe_int (fun _ _ => rfl)) pe_int) pe_int) pa_nil)) pe_int) (pg_sub (pv 0) pe_int set_list))
      (pss_one (ps_ret (pe_op op_mod (pe_callTy call_int1 (by rfl) mi (by decide +kernel) (pa_cons (pe_op op_fdiv (pe_ix ix_list (pv 0) pe_int (fun _ _ => rfl)) pe_int) pa_nil)) (pv 1)))))), ?_⟩
    obtain ⟨i, b, s, hD, hb, hs0, hs1⟩ := id D.dk
    have hmp : (0 : Int) < (m : Int) := by omega
    have fin : ∀ (x : Int) (H' : Hp), Exl d H H' → Deck H' d ls ns → Q (.int (x % (m : Int))) H' := fun x H' e D' => by
      have h1 := Int.emod_nonneg x (b := (m : Int)) (by omega)
      have h2 := Int.emod_lt_of_pos x hmp
      have h3 : x % (m : Int) = (((x % (m : Int)).toNat : Nat) : Int) := by omega
      rw [h3]
      exact q _ H' (by omega) e D'
    refine q_cut (M := fun σ' H' => ∃ y2, σ' = [some (.ref d), some (.int (m : Int)), y2, none] ∧ Exl d H H' ∧ Deck H' d ls ns) ?_ ?_
    · refine s_when (b := decide (b = 0) && decide ((i : Int) < (ns.length : Int))) (et_and (et_test (ev_is (ev_op (dk_at rfl hD rfl) ev_c (rv_eq rfl)) (congrArg V.bl (decide_eq_decide.mpr ⟨fun h => V.int.inj h, fun h => by rw [h]⟩)))) fun _ => et_test (ev_is (ev_op (dk_at rfl hD rfl) (ev_len (dk_at rfl hD rfl) (SqL.of D.li)) rv_I0) (by rw [List.length_map]))) (fun e H1 e1 => ?_) (fun e H1 e1 => ⟨_, rfl, exl_of e1, D.ex e1⟩)
      rw [Bool.and_eq_true] at e
      have hi : i < ns.length := by have := of_decide_eq_true e.2; omega
      have D1 := D.ex e1
      have hD1 := e1 _ _ hD
      refine q_setL (j := 2) hD1 (abs_i rfl (int_i (i := ns[i]) rfl (ev_op (dk_at rfl hD1 rfl) (dk_at rfl hD1 rfl) (rv_ixL (SqL.of D1.li) (atI_nat (by rw [List.getElem?_map, List.getElem?_eq_getElem hi]; rfl)))))) (ev_var rfl) ev_c (by simp) fun H2 e2 => ?_
      have x2 : Exl d H1 (upd H2 d (.lst [.ref ls, .int (i : Int), .int (if ns[i] < 0 then -ns[i] else ns[i]), .int s])) := (exl_of e2).trans Exl.upd
      refine q_setL (j := 1) upd_same (ev_op (dk_at rfl upd_same rfl) ev_c rv_I0) (ev_var rfl) ev_c (by simp) fun H3 e3 => ?_
      have x3 := (x2.trans (exl_of e3)).trans (Exl.upd (o := .lst [.ref ls, .int ((i : Int) + 1), .int (if ns[i] < 0 then -ns[i] else ns[i]), .int s]))
      have habs : 0 ≤ (if ns[i] < 0 then -ns[i] else ns[i]) := by split <;> omega
      refine s_when (et_test (ev_op (dk_at rfl upd_same rfl) (ev_op ev_c ev_c (rv_I (C := CPow) (g := fun i j => .int (i ^ j.toNat)) ⟨by decide, by decide, by decide⟩)) rv_I0)) (fun e H4 e4 => ?_) (fun e H4 e4 => ?_)
      · refine q_asg (int_i rfl (dk_at rfl (e4 _ _ upd_same) rfl)) fun H5 e5 => ?_
        refine q_setL (j := 2) (e5 _ _ (e4 _ _ upd_same)) ev_c (ev_var rfl) ev_c (by simp) fun H6 e6 => ?_
        have x6 := (x3.trans (exl_of ((e4.trans e5).trans e6))).trans (Exl.upd (o := .lst [.ref ls, .int ((i : Int) + 1), .int 0, .int s]))
        refine s_ret (ev_op (ev_var rfl) (ev_var rfl) (rv_I (C := fun _ j => 0 < j) (g := fun i j => .int (i % j)) hmp)) fun H7 e7 => fin _ H7 ((exl_of e1).trans (x6.trans (exl_of e7))) (Deck.ex ⟨D.ne, x6 _ _ D1.li D.ne, i + 1, 0, s, upd_same, by omega, hs0, hs1⟩ e7)
      · exact ⟨_, rfl, (exl_of e1).trans (x3.trans (exl_of e4)), Deck.ex ⟨D.ne, x3 _ _ D1.li D.ne, i + 1, _, s, upd_same, habs, hs0, hs1⟩ e4⟩
    · rintro σ' H' ⟨y2, rfl, ex, D'⟩
      obtain ⟨i, b, s, hD, hb, hs0, hs1⟩ := id D'.dk
      refine q_when (et_test (ev_op (dk_at rfl hD rfl) ev_c rv_I0)) (fun e H1 e1 => ?_) (fun e H1 e1 => ?_)
      · have hD1 := e1 _ _ hD
        refine q_asg (ev_op (int_i rfl (dk_at rfl hD1 rfl)) (ev_var rfl) (rv_I (C := fun _ j => 0 < j) (g := fun i j => .int (i % j)) hmp)) fun H2 e2 => ?_
        refine q_setL (j := 2) (e2 _ _ hD1) (ev_op (int_i rfl (dk_at rfl (e2 _ _ hD1) rfl)) (ev_var rfl) (rv_I (C := CDiv) (g := fun i j => .int (i / j)) ⟨hmp, by omega⟩)) (ev_var rfl) ev_c (by simp) fun H3 e3 => ?_
        have x3 := (exl_of (l := d) ((e1.trans e2).trans e3)).trans (Exl.upd (o := .lst [.ref ls, .int (i : Int), .int (b / (m : Int)), .int s]))
        refine s_ret (ev_var rfl) fun H4 e4 => fin _ H4 (ex.trans (x3.trans (exl_of e4))) (Deck.ex ⟨D.ne, x3 _ _ D'.li D.ne, i, _, s, upd_same, Int.ediv_nonneg hb (by omega), hs0, hs1⟩ e4)
      · have hD1 := e1 _ _ hD
        refine q_setL (j := 3) hD1 (ev_op (int_i rfl (ev_op (ev_op (dk_at rfl hD1 rfl) ev_c (rv_I (C := CMul) (g := fun i j => .int (i * j)) (.inr ⟨by decide, by decide⟩))) ev_c rv_I0)) ev_c (rv_I (C := fun _ j => 0 < j) (g := fun i j => .int (i % j)) (by decide))) (ev_var rfl) ev_c (by simp) fun H3 e3 => ?_
        have x3 := (exl_of (l := d) (e1.trans e3)).trans (Exl.upd (o := .lst [.ref ls, .int (i : Int), .int b, .int ((s * 48271 + 11) % 2147483647)]))
        refine s_ret (ev_op (int_i rfl (ev_op (dk_at rfl upd_same rfl) ev_c (rv_I (C := CDiv) (g := fun i j => .int (i / j)) ⟨by decide, by decide⟩))) (ev_var rfl) (rv_I (C := fun _ j => 0 < j) (g := fun i j => .int (i % j)) hmp)) fun H4 e4 => fin _ H4 (ex.trans (x3.trans (exl_of e4))) (Deck.ex ⟨D.ne, x3 _ _ D'.li D.ne, i, b, _, upd_same, hb, Int.emod_nonneg _ (by decide), Int.emod_lt_of_pos _ (by decide)⟩ e4)
end
end K34

namespace K34
open PySem PySem.Spec PyProof.Rows L2 Evl Pd
def MenuAt (K : PySem.W.Frag) (H : Hp) (d m : Addr) (ds : List PyData) : Prop := (∃ xs, H m = some (.lst xs) ∧ m ≠ d ∧ PVs K H xs ds) ∨ PV K H (.ref m) (.tuple ds)
def spPick (K : PySem.W.Frag) : Sp := fun vs H Q _ => ∃ (d ls m : Addr) (ns : List Int) (ds : List PyData), vs = [.ref d, .ref m] ∧ Deck H d ls ns ∧ ns.length ≤ 63 ∧ MenuAt K H d m ds ∧ ds ≠ [] ∧ ds.length ≤ 1000000 ∧
  ∀ (i : Nat) (dd : PyData) (v : V) (H' : Hp), ds[i]? = some dd → Exl d H H' → Deck H' d ls ns → PV K H' v dd → Q v H'
def spLonger (K : PySem.W.Frag) : Sp := fun vs H Q _ => ∃ (lr : Addr) (ov nv : V) (ops : List Op) (nums : List Nat) (ws : List V) (rs : List Row) (n : Nat), vs = [.ref lr, ov, nv] ∧ H lr = some (.lst ws) ∧ PVs K H ws (rs.map rowD) ∧ PV K H ov (opsD ops) ∧ PV K H nv (numsD nums) ∧
  ops.length ≤ 5 ∧ nums.length ≤ 10 ∧ n ≤ 10 ∧ (∀ r ∈ rs, r.length = n) ∧ rs.length ≤ 40 ∧ ∀ q vs' H', H q = none → Ex H H' → H' q = some (.lst vs') → PVs K H' vs' ((longer ops nums rs).map rowD) → Q (.ref q) H'
theorem Deck.tx {H : Hp} {d ls : Addr} {ns : List Int} (D : Deck H d ls ns) {H' : Hp} (e : Exl d H H') : Tx H H' := let ⟨_, _, _, h, _⟩ := D.dk; e.tx h
section
variable {P : Program} {w : World} {K : PySem.W.Frag} {mg : Str → Option Value} {base : Heap}
theorem ok_pick {f fT : Addr} {fd fdT : FuncData} (F : Fun K "_law_pick" "_law_pick" sPick f fd) (FT : Fun K "_law_take" "_law_take" sTake fT fdT) (bT : Binds K fdT ["d", "many"] []) (gT : mg "_law_take" = some (.ref fT)) (mi : mg "int" = none) (ml : mg "len" = none) (ma : mg "abs" = none) : FnOk P w K mg base CX0 2 f fd ["d", "menu"] (spPick K) := by
  have GT : FnOk P w K mg base CX0 1 fT fdT ["d", "many"] spTake := ok_take FT mi ml ma
  refine F.ok scPick (fun vs H Q E h => ?_) (fun cdv A outer s H vs Q E hr h => ?_)
  · obtain ⟨d, ls, m, ns, ds, rfl, _⟩ := h
    rfl
  · obtain ⟨d, ls, m, ns, ds, rfl, D, hl, hm, hne, hlen, q⟩ := h
    have hr1 : Room 1 _ := hr.mono (by decide)
    refine ⟨_, pss_one (ps_ret (pe_ix ix_seq (pv 1) (pe_call GT hr1 (by rfl) gT FT.kp bT .nil pass0 (pa_cons (pv 0) (pa_cons (pe_callB call_len_seq (by rfl) ml PySem.boot_len (pa_cons (pv 1) pa_nil)) pa_nil))) (fun _ _ => rfl))), ?_⟩
    have h0 : 0 < ds.length := by
      cases ds with
      | nil => exact absurd rfl hne
      | cons a b => simp
    rcases hm with ⟨xs, hx, hmd, px⟩ | pm
    · refine ⟨.ref m, rfl, .ref d, rfl, .ref m, rfl, m, xs, rfl, .inl (SqL.of hx), ?_⟩
      have hlx := px.length
      refine ⟨d, ls, ns, ds.length, by rw [hlx]; rfl, D, h0, hlen, hl, fun r H' hrl ex D' => ?_⟩
      obtain ⟨dd, hdd⟩ : ∃ dd, ds[r]? = some dd := ⟨_, List.getElem?_eq_getElem hrl⟩
      obtain ⟨v, hv, pv⟩ := px.at hdd
      exact .inl ⟨m, xs, (r : Int), v, rfl, rfl, SqL.of (ex _ _ hx hmd), atI_nat hv, q r dd v H' hdd ex D' (pv.tx (D.tx ex))⟩
    · obtain ⟨a, xs, e, hx, px⟩ := pv_tup pm
      cases e
      refine ⟨.ref m, rfl, .ref d, rfl, .ref m, rfl, m, xs, rfl, .inr hx.sq, ?_⟩
      have hlx := px.length
      refine ⟨d, ls, ns, ds.length, by rw [hlx]; rfl, D, h0, hlen, hl, fun r H' hrl ex D' => ?_⟩
      obtain ⟨dd, hdd⟩ : ∃ dd, ds[r]? = some dd := ⟨_, List.getElem?_eq_getElem hrl⟩
      obtain ⟨v, hv, pv⟩ := px.at hdd
      exact .inr (.inl ⟨m, xs, (r : Int), v, rfl, rfl, (hx.tx (D.tx ex)).sq, atI_nat hv, q r dd v H' hdd ex D' (pv.tx (D.tx ex))⟩)
theorem ok_longer {f : Addr} {fd : FuncData} (F : Fun K "_law_longer" "_law_longer" sLonger f fd) (ml : mg "list" = none) (mr : mg "range" = none) (mn : mg "len" = none) : FnOk P w K mg base CX0 1 f fd ["rows", "ops", "numbers"] (spLonger K) := by
  refine F.ok scLonger (fun vs H Q E h => ?_) (fun cdv A outer s H vs Q E hr h => ?_)
  · obtain ⟨lr, ov, nv, ops, nums, ws, rs, n, rfl, _⟩ := h
    rfl
  · obtain ⟨lr, ov, nv, ops, nums, ws, rs, n, rfl, hlr, pr, po, pn, ho5, hn10, hnn, hrs, hr40, q⟩ := h
    refine ⟨_, pss_cons (ps_set (i := 3) scLonger.nd rfl (.inl rfl) (pe_lst pa_nil))
      (pss_cons (ps_for PassesOwn.never rfl (pi_list (pv 0)) (pg_name (i := 4) scLonger.nd rfl (.inr rfl))
        (pss_cons (ps_set (i := 6) scLonger.nd rfl (.inl rfl) (pe_op op_cat (pe_op op_cat (pe_lst (pa_cons pe_str pa_nil)) (pe_lc (own := [("number", 5)]) (g := gName 5) (tt := tYes) (te := tTup (tCons (tC (.str "n")) (tCons (tVar 5) tNil))) rfl scLonger.nd (pi_tup (pv 2)) (blkOk_by (N := ["rows", "ops", "numbers", "found", "row", "number", "parts", "op", "one", "other"]) (sc := defScope sLonger) (by decide +kernel))
            (fun _ _ _ _ _ => pg_name (i := 5) scLonger.nd rfl (Or.inl rfl)) (fun _ _ _ _ _ => pts_nil) (fun _ _ _ _ _ => pe_tup (pa_cons pe_str (pa_cons (pv 5) pa_nil))))) (pe_listRg rfl (by rfl) ml (prg_1 (by rfl) mr (pe_callB call_len_seq (by rfl) mn PySem.boot_len (pa_cons (pv 4) pa_nil))))))
        (pss_one (ps_for PassesOwn.never rfl (pi_tup (pv 1)) (pg_name (i := 7) scLonger.nd rfl (.inr rfl))
          (pss_one (ps_for PassesOwn.never rfl (pi_list (pv 6)) (pg_name (i := 8) scLonger.nd rfl (.inr rfl))
            (pss_one (ps_expr (pe_bm PySem.F.plainAttrs_list PySem.F.slot_list_extend PySem.F.type_list_extend mt_extend (pv 3)
              (pa_cons (pe_lc (own := [("other", 9)]) (g := gName 9) (tt := tYes) (te := tOp (rCatA K) (tVar 4) (tTup (tCons (tTup (tCons (tVar 7) (tCons (tVar 8) (tCons (tVar 9) tNil)))) tNil))) rfl scLonger.nd (pi_list (pv 6)) (blkOk_by (N := ["rows", "ops", "numbers", "found", "row", "number", "parts", "op", "one", "other"]) (sc := defScope sLonger) (by decide +kernel))
                (fun _ _ _ _ _ => pg_name (i := 9) scLonger.nd rfl (Or.inl rfl)) (fun _ _ _ _ _ => pts_nil) (fun _ _ _ _ _ => pe_op op_catA (pv 4) (pe_tup (pa_cons (pe_tup (pa_cons (pv 7) (pa_cons (pv 8) (pa_cons (pv 9) pa_nil)))) pa_nil)))) pa_nil))))))))))
      (pss_one (ps_ret (pv 3)))), ?_⟩
    refine q_asgPL (K := K) (ds := []) (el_tup eps_nil (by simp)) fun lf fvs H1 hf e1 hlf pfl => ?_
    cases pfl
    have nr : lr ≠ lf := fun z => by
      rw [z, hf] at hlr
      cases hlr
    refine q_forLn (ev_var rfl) (SqL.of (e1 _ _ hlr)) (fun i σ' H' => ∃ y4 y6 y7 y8 vs, σ' = [some (.ref lr), some ov, some nv, some (.ref lf), y4, none, y6, y7, y8, none] ∧ Exl lf H1 H' ∧ H' lf = some (.lst vs) ∧ PVs K H' vs ((longer ops nums (rs.take i)).map rowD))
      (fun H2 e2 => ⟨none, none, none, none, [], rfl, exl_of e2, e2 _ _ hlf, .nil⟩) (fun i σ' H' _ ⟨_, _, _, _, _, _, x, _⟩ => SqL.of (x _ _ (e1 _ _ hlr) nr)) ?_ ?_
    · rintro i x σ' H2 hx ⟨y4, y6, y7, y8, vs, rfl, ex, hL, pL⟩
      obtain ⟨d, hd, px⟩ := (pr.ex e1).get hx
      obtain ⟨r, hr0, rfl⟩ := map_at hd
      have hir : i < rs.length := (List.getElem?_eq_some_iff.mp hr0).1
      have rlen := hrs r (List.mem_of_getElem? hr0)
      have px2 := px.tx (ex.tx hlf)
      have po2 := (po.ex e1).tx (ex.tx hlf)
      have pn2 := (pn.ex e1).tx (ex.tx hlf)
      have hpd : (parts nums r.length).map Part.d = [PyData.str "x"] ++ (nums.map fun i => (Part.n i).d) ++ (Pd.upTo r.length).map PyData.int := by
        unfold parts Pd.upTo
        simp [Function.comp_def, Part.d]
      have hpl := parts_len nums r.length
      refine q_asgPL (K := K) (ds := (parts nums r.length).map Part.d) ?_ fun lp pvs H3 hp3 e3 hlp ppl => ?_
      · rw [hpd]
        refine el_catN (el_catN (el_tup (eps_cons ep_str eps_nil) (by simp)) (el_lcT (σ := [some (.ref lr), some ov, some nv, some (.ref lf), some x, none, y6, y7, y8, none]) (tl := tVar 2) (g := gName 5) (te := tTup (tCons (tC (.str "n")) (tCons (tVar 5) tNil))) (vs := [5]) (ds := nums.map natD) (nums.map fun i => (Part.n i).d) (ep_var rfl pn2) (by simp) (by rw [List.length_map]; omega) ?_) (by simp; omega)) (el_lstRg (ev_is (ev_lenT (ep_var rfl px2)) (by rw [List.length_map])) (by omega)) (by simp [Pd.upTo]; omega)
        intro i x c d H1 e hc pc hd Q k
        obtain ⟨m, hm, rfl⟩ := map_at hc
        obtain ⟨m2, hm2, rfl⟩ := map_at hd
        rw [hm] at hm2
        cases hm2
        cases pv_int pc
        exact k _ H1 (Ex.refl H1) rfl (ep_tup (eps_cons ep_str (eps_cons (ep_ev (ev_var rfl) (.int _)) eps_nil)) (by simp))
      have hpvl : pvs.length = (parts nums r.length).length := by rw [ppl.length, List.length_map]
      have nlp : lp ≠ lf := fun z => by
        rw [z] at hp3
        rw [hp3] at hL
        cases hL
      let blk : Op → List Tri := fun o => (parts nums r.length).flatMap fun p => (parts nums r.length).map fun q => (o, p, q)
      have hblk : ∀ o, (blk o).length = (1 + nums.length + r.length) * (1 + nums.length + r.length) := fun o => by
        show ((parts nums r.length).flatMap _).length = _
        rw [flatMap_len (n := 1 + nums.length + r.length) (fun p => by rw [List.length_map, parts_len]), parts_len]
      have sq : (1 + nums.length + r.length) * (1 + nums.length + r.length) ≤ 21 * 21 := Nat.mul_le_mul (by omega) (by omega)
      have hA : (longer ops nums (rs.take i)).length ≤ 40 * (5 * (21 * 21)) := by
        rw [longer_len (n := n) rfl (fun r hr => hrs r (List.mem_of_mem_take hr))]
        refine Nat.mul_le_mul (by rw [List.length_take]; omega) (Nat.mul_le_mul ho5 (Nat.mul_le_mul (by omega) (by omega)))
      refine s_forTP (ds := ops.map fun (o : Op) => PyData.str o.s) (ep_var rfl (po2.ex e3))
        (fun H4 j σ' H' => ∃ y7 y8 vs, σ' = [some (.ref lr), some ov, some nv, some (.ref lf), some x, none, some (.ref lp), y7, y8, none] ∧ Exl lf H3 H' ∧ Tx H4 H' ∧ H' lf = some (.lst vs) ∧ PVs K H' vs ((longer ops nums (rs.take i) ++ ((ops.take j).flatMap blk).map fun t => r ++ [t]).map rowD))
        (fun H4 e4 => ⟨y7, y8, vs, rfl, exl_of e4, Tx.refl _, e4 _ _ (e3 _ _ hL), by simpa using (pL.ex e3).ex e4⟩) (fun H4 j σ' H' ⟨_, _, _, _, _, t, _⟩ => t) ?_ ?_
      · rintro H4 j xo d σ' H5 e4 hd pd ⟨y7, y8, vs, rfl, ex5, tx5, hL5, pL5⟩
        obtain ⟨o, ho2, rfl⟩ := map_at hd
        cases pv_str pd
        have hjo : j < ops.length := (List.getElem?_eq_some_iff.mp ho2).1
        let part : Nat → List Row := fun k => longer ops nums (rs.take i) ++ ((ops.take j).flatMap blk ++ ((parts nums r.length).take k).flatMap fun p => (parts nums r.length).map fun q => (o, p, q)).map fun t => r ++ [t]
        have bound : ∀ k (ws : List V) (G : Hp), PVs K G ws ((part k).map rowD) → ws.length ≤ 95000 := fun k ws G h => by
          have h1 := h.length
          show ws.length ≤ _
          rw [List.length_map, List.length_append, List.length_map, List.length_append, flatMap_len hblk, flatMap_len (n := 1 + nums.length + r.length) (fun p => by rw [List.length_map, parts_len]), List.length_take, List.length_take] at h1
          have a1 : min j ops.length * ((1 + nums.length + r.length) * (1 + nums.length + r.length)) ≤ 5 * (21 * 21) := Nat.mul_le_mul (by omega) sq
          have a2 : min k (parts nums r.length).length * (1 + nums.length + r.length) ≤ 21 * 21 := Nat.mul_le_mul (by omega) (by omega)
          omega
        have hlp5 := ex5 _ _ hlp nlp
        refine s_forLn (ev_var rfl) (SqL.of hlp5) (fun k σ' H' => ∃ y8 vs, σ' = [some (.ref lr), some ov, some nv, some (.ref lf), some x, none, some (.ref lp), some (.str o.s), y8, none] ∧ Exl lf H5 H' ∧ H' lf = some (.lst vs) ∧ PVs K H' vs ((part k).map rowD))
          (fun H6 e6 => ⟨y8, vs, rfl, exl_of e6, e6 _ _ hL5, by show PVs K H6 vs ((longer ops nums (rs.take i) ++ ((ops.take j).flatMap blk ++ []).map fun t => r ++ [t]).map rowD); rw [List.append_nil]; exact pL5.ex e6⟩) (fun k σ' H' _ ⟨_, _, _, x, _⟩ => SqL.of (x _ _ hlp5 nlp)) ?_ ?_
        · rintro k u σ' H6 hk ⟨y8, vs, rfl, ex6, hL6, pL6⟩
          have t36 : Tx H3 H6 := (ex5.trans ex6).tx (e3 _ _ hL)
          obtain ⟨d, hd', pu⟩ := (ppl.tx t36).get hk
          obtain ⟨pt, hpt, rfl⟩ := map_at hd'
          have hb := bound k vs H6 pL6
          have px6 : PV K H6 x (rowD r) := px2.tx ((tx_of e3).trans t36)
          refine s_ext (ds := ((parts nums r.length).map fun q => r ++ [(o, pt, q)]).map rowD) hL6 (ev_var rfl) ?_ (by simp; omega) fun ws H7 e7 pw => ?_
          · refine el_lcL (σ := [some (.ref lr), some ov, some nv, some (.ref lf), some x, none, some (.ref lp), some (.str o.s), some u, none]) (vs := [9]) (fun _ => []) _ (ev_var rfl) (SqL.of (ex6 _ _ hlp5 nlp)) (by simp [hpvl]) (by omega) ?_
            intro k v d H7 e7 hv hd7 Q kq
            obtain ⟨d6, hd6, pv6⟩ := ((ppl.tx t36).ex e7).get hv
            obtain ⟨pq, hpq, rfl⟩ := map_at hd6
            obtain ⟨t, ht, rfl⟩ := map_at hd7
            obtain ⟨pq2, hpq2, rfl⟩ := map_at ht
            rw [hpq] at hpq2
            cases hpq2
            refine kq _ H7 (Ex.refl H7) rfl ?_
            unfold rowD
            rw [List.map_append]
            exact ep_cat (ep_var rfl (px6.ex e7)) (ep_tup (eps_cons (ep_tup (eps_cons (ep_ev (ev_var rfl) (.str _)) (eps_cons (ep_var rfl (pu.ex e7)) (eps_cons (ep_var rfl pv6) eps_nil))) (by simp)) eps_nil) (by simp)) (by simp; omega)
          · refine ⟨_, _, rfl, (ex6.trans (exl_of e7)).trans Exl.upd, upd_same, ?_⟩
            have e9 : (part (k + 1)).map rowD = (part k).map rowD ++ (((parts nums r.length).map fun q => r ++ [(o, pt, q)]).map rowD) := by
              show (longer ops nums (rs.take i) ++ _).map rowD = (longer ops nums (rs.take i) ++ _).map rowD ++ _
              rw [take_flat _ _ _ _ hpt]
              simp
            rw [e9]
            exact ((pL6.ex e7).append pw).tx (Tx.updL (e7 _ _ hL6))
        · rintro σ' H6 ⟨y8, vs, rfl, ex6, hL6, pL6⟩
          refine ⟨_, _, _, rfl, ex5.trans ex6, tx5.trans (ex6.tx hL5), hL6, ?_⟩
          rw [hpvl] at pL6
          have e9 : part (parts nums r.length).length = longer ops nums (rs.take i) ++ ((ops.take (j + 1)).flatMap blk).map fun t => r ++ [t] := by
            show longer ops nums (rs.take i) ++ _ = _
            rw [List.take_length, take_flat _ _ _ _ ho2]
          rw [← e9]
          exact pL6
      · rintro H4 σ' H5 e4 ⟨y7, y8, vs, rfl, ex5, tx5, hL5, pL5⟩
        rw [List.length_map, List.take_length] at pL5
        refine ⟨_, _, _, _, _, rfl, (ex.trans (exl_of e3)).trans ex5, hL5, ?_⟩
        rw [longer_take hr0]
        exact pL5
    · rintro σ' H' ⟨y4, y6, y7, y8, vs, rfl, ex, hL, pL⟩
      have hws : ws.length = rs.length := by rw [pr.length, List.length_map]
      rw [hws, List.take_length] at pL
      exact s_ret (ev_var rfl) fun H2 e2 => q lf vs H2 hf (Ex.exl e1 hf (ex.trans (exl_of e2))) (e2 _ _ hL) (pL.ex e2)
end
end K34

namespace K34
open PySem PySem.Spec PyProof.Rows L2 Evl Pd
theorem MenuAt.exl {K : PySem.W.Frag} {H H' : Hp} {d m : Addr} {ds : List PyData} (h : MenuAt K H d m ds) (e : Exl d H H') (t : Tx H H') : MenuAt K H' d m ds := by
  rcases h with ⟨xs, h1, h2, h3⟩ | h
  · exact .inl ⟨xs, e _ _ h1 h2, h2, h3.tx t⟩
  · exact .inr (h.tx t)
section
variable {K : PySem.W.Frag} {H : Hp} {σ : L2.St} {D' : Ends} {tm te : TE} {tu tz : TS} {d ls : Addr} {ns : List Int} {E : XK}
theorem take_run {m : Nat} (hσ : σ[1]? = some (some (.ref d))) (h : ∀ H1, Ev tm σ H1 (.int (m : Int))) (D : Deck H d ls ns) (h0 : 0 < m) (h1 : m ≤ 1000000) (hl : ns.length ≤ 63) (Q : VK) (k : ∀ (r : Nat) H1, r < m → Exl d H H1 → Deck H1 d ls ns → Q (.int (r : Int)) H1) :
    tCall spTake [] E (tCons (tVar 1) (tCons tm tNil)) σ H Q :=
  ⟨.ref d, hσ, h H H (Ex.refl H) _ fun H1 e1 => ⟨d, ls, ns, m, rfl, D.ex e1, h0, h1, hl, fun r H' hr ex D' => k r H' hr ((exl_of e1).trans ex) D'⟩⟩
theorem q_take {i m : Nat} (hσ : σ[1]? = some (some (.ref d))) (h : ∀ H1, Ev tm σ H1 (.int (m : Int))) (D : Deck H d ls ns) (h0 : 0 < m) (h1 : m ≤ 1000000) (hl : ns.length ≤ 63) (k : ∀ (r : Nat) H1, r < m → Exl d H H1 → Deck H1 d ls ns → tz D' (σ.set i (some (.int (r : Int)))) H1) :
    tSeq (tAsg (tCall spTake [] E (tCons (tVar 1) (tCons tm tNil))) (gName i)) tz D' σ H := take_run hσ h D h0 h1 hl _ k
theorem pick_run {m : Addr} {j : Nat} {ds : List PyData} (hσ : σ[1]? = some (some (.ref d))) (hj : σ[j]? = some (some (.ref m))) (hM : MenuAt K H d m ds) (D : Deck H d ls ns) (hl : ns.length ≤ 63) (h0 : ds ≠ []) (h1 : ds.length ≤ 1000000) (Q : VK)
    (k : ∀ (i : Nat) (dd : PyData) (v : V) (H1 : Hp), ds[i]? = some dd → Exl d H H1 → Deck H1 d ls ns → PV K H1 v dd → Q v H1) : tCall (spPick K) [] E (tCons (tVar 1) (tCons (tVar j) tNil)) σ H Q :=
  ⟨.ref d, hσ, .ref m, hj, d, ls, m, ns, ds, rfl, D, hl, hM, h0, h1, k⟩
theorem q_pickL {i : Nat} {ds : List PyData} (hσ : σ[1]? = some (some (.ref d))) (h : EvPL K tm σ H ds) (D : Deck H d ls ns) (hl : ns.length ≤ 63) (h0 : ds ≠ []) (h1 : ds.length ≤ 1000000)
    (k : ∀ (j : Nat) (dd : PyData) (v : V) (H1 : Hp), ds[j]? = some dd → Exl d H H1 → Deck H1 d ls ns → PV K H1 v dd → tz D' (σ.set i (some v)) H1) : tSeq (tAsg (tCall (spPick K) [] E (tCons (tVar 1) (tCons tm tNil))) (gName i)) tz D' σ H :=
  ⟨.ref d, hσ, h H (Ex.refl H) _ fun p vs H1 hp e1 hl1 ps => by
    have hne : p ≠ d := fun z => by
      obtain ⟨_, _, _, hd, _⟩ := D.dk
      rw [z, hd] at hp
      cases hp
    exact ⟨d, ls, p, ns, ds, rfl, D.ex e1, hl, .inl ⟨vs, hl1, hne, ps⟩, h0, h1, fun j dd v H2 hj ex D2 pv => k j dd v H2 hj ((exl_of e1).trans ex) D2 pv⟩⟩
/-- for j in range(_law_take(d, m)) -/
theorem s_forTake {j m : Nat} (hσ : σ[1]? = some (some (.ref d))) (h : ∀ H1, Ev tm σ H1 (.int (m : Int))) (D : Deck H d ls ns) (h0 : 0 < m) (h1 : m ≤ 100000) (hl : ns.length ≤ 63)
    (k : ∀ (r : Nat) H1, r < m → Exl d H H1 → Deck H1 d ls ns → ∃ Pv : Nat → L2.St → Hp → Prop, Pv 0 σ H1 ∧ (∀ i σ' H', i < r → Pv i σ' H' → tu { D' with nx := Pv (i + 1), ct := Pv (i + 1), bk := D'.nx } (σ'.set j (some (.int (i : Int)))) H') ∧ (∀ σ' H', Pv r σ' H' → D'.nx σ' H')) :
    tFor (iRng1 (tCons (tCall spTake [] E (tCons (tVar 1) (tCons tm tNil))) tNil)) (gName j) tu D' σ H :=
  take_run hσ h D h0 (by omega) hl _ fun r H1 hr e1 D1 => by
    obtain ⟨Pv, p0, ps, pd⟩ := k r H1 hr e1 D1
    refine ⟨(r : Int), rfl, by omega, by omega, for_range (lo := 0) (n := r) Pv p0 (fun i σ' H' hi p => ?_) pd⟩
    have e0 : (0 : Int) + (i : Int) = (i : Int) := Int.zero_add _
    show tu { D' with nx := Pv (i + 1), ct := Pv (i + 1), bk := D'.nx } (σ'.set j (some (.int ((0 : Int) + (i : Int))))) H'
    rw [e0]
    exact ps i σ' H' hi p
/-- a standing list + a new one -/
theorem el_catS {ta tb : TE} {ds es : List PyData} {b : Addr} {ys : List V} (h2 : Ev ta σ H (.ref b)) (hb : H b = some (.lst ys)) (pb : PVs K H ys es) (h : EvPL K tb σ H ds) (hl : es.length + ds.length ≤ 100000) : EvPL K (tOp rCat ta tb) σ H (es ++ ds) := fun H1 e Q q =>
  h2 H1 e _ fun H2 e2 => h H2 (e.trans e2) _ fun p vs H3 hp e3 h3' ps => by
    have e13 := (e.trans e2).trans e3
    have pb' := pb.ex e13
    refine ⟨b, p, ys, vs, rfl, rfl, e13 _ _ hb, h3', by rw [pb.length, ps.length]; exact sz_of hl, fun c hc => ?_⟩
    exact q c _ _ (fresh_back (e2.trans e3) hc) ((e2.trans e3).trans (Ex.new hc)) upd_same ((pb'.append ps).ex (Ex.new hc))
/-- tuple([_law_take(d, m) for k in range(n)]) -/
theorem s_takes {i j m n : Nat} {ta : TA} {vs : List Nat} (hσ : ∀ x : V, ((wipe σ vs).set j (some x))[1]? = some (some (.ref d))) (h : ∀ (x : V) (H1 : Hp), Ev tm ((wipe σ vs).set j (some x)) H1 (.int (m : Int))) (D : Deck H d ls ns) (h0 : 0 < m) (h1 : m ≤ 1000000) (hl : ns.length ≤ 63) (hn : n ≤ 40000)
    (ha : ∀ H1, EvA ta σ H1 [.int (n : Int)]) (hw : ∀ x, wipe ((wipe σ vs).set j (some x)) vs = wipe σ vs) (k : ∀ (tab : List Nat) (v : V) (H1 : Hp), tab.length = n → Exl d H H1 → Deck H1 d ls ns → PV K H1 v (tabD tab) → D'.nx (σ.set i (some v)) H1) :
    tAsg (tThen (tLc (iRng1 ta) (gName j) tYes (tCall spTake [] E (tCons (tVar 1) (tCons tm tNil))) vs) (kTup K)) (gName i) D' σ H := ha H H (Ex.refl H) _ fun H1 e1 => by
  refine ⟨(n : Int), rfl, by omega, by omega, fun Dl hD => ?_⟩
  have D1 := D.ex e1
  have hne : Dl ≠ d := fun z => by
    obtain ⟨_, _, _, hd, _⟩ := D1.dk
    rw [z, hd] at hD
    cases hD
  refine lc_range (lo := 0) (n := n) (fun i H' => ∃ tab : List Nat, tab.length = i ∧ H' Dl = some (.lst (tab.map fun (k : Nat) => V.int (k : Int))) ∧ Exl d H1 H' ∧ Deck H' d ls ns) ?_ (fun i H' hi p => ?_) (fun H' p => ?_)
  · exact ⟨[], rfl, upd_same, exl_of (Ex.new hD), D1.ex (Ex.new hD)⟩
  · obtain ⟨tab, p1, p2, p3, p4⟩ := p
    refine ⟨hw _, ?_⟩
    show tCall spTake [] E (tCons (tVar 1) (tCons tm tNil)) _ H' _
    refine take_run (hσ _) (h _) p4 h0 h1 hl _ fun r H2 hr e2 D2 => ⟨_, e2 _ _ p2 hne, ?_, tab ++ [r], by simp [p1], ?_, ?_, ?_⟩
    · rw [List.length_map, p1]
      exact sz_lt (by omega)
    · rw [upd_same]
      simp
    · exact fun a o ha hnd => by
        rw [upd_ne (fun z => by subst z; rw [hD] at ha; cases ha)]
        exact (p3.trans e2) _ _ ha hnd
    · obtain ⟨i', b, s, q1, q2⟩ := D2.dk
      refine ⟨D2.ne, ?_, i', b, s, by rw [upd_ne (Ne.symm hne)]; exact q1, q2⟩
      rw [upd_ne]
      · exact D2.li
      · intro z
        have := D1.li
        rw [z, hD] at this
        cases this
  · obtain ⟨tab, p1, p2, p3, p4⟩ := p
    refine .inl ⟨Dl, _, rfl, SqL.of p2, fun c hc => k tab _ _ p1 (((exl_of e1).trans p3).trans (exl_of (Ex.new hc))) (p4.ex (Ex.new hc)) (.tup (.inl upd_same) ?_)⟩
    have : ∀ (l : List Nat) (G : Hp), PVs K G (l.map fun (k : Nat) => V.int (k : Int)) (l.map natD) := fun l G => by
      induction l with
      | nil => exact .nil
      | cons a l ih => exact .cons (.int _) ih
    exact this tab _
theorem el_longer {ta tb tc : TE} {lr : Addr} {ws : List V} {rs : List Row} {ops : List Op} {nums : List Nat} {n : Nat} (ha : Ev ta σ H (.ref lr)) (hlr : H lr = some (.lst ws)) (pr : PVs K H ws (rs.map rowD)) (hb : EvP K tb σ H (opsD ops)) (hc : EvP K tc σ H (numsD nums))
    (ho : ops.length ≤ 5) (hn : nums.length ≤ 10) (hnn : n ≤ 10) (hrs : ∀ r ∈ rs, r.length = n) (h40 : rs.length ≤ 40) : EvPL K (tCall (spLonger K) [] E (tCons ta (tCons tb (tCons tc tNil)))) σ H ((longer ops nums rs).map rowD) := fun H1 e1 Q q =>
  ha H1 e1 _ fun H2 e2 => hb H2 (e1.trans e2) _ fun v H3 e3 p3 => hc H3 ((e1.trans e2).trans e3) _ fun u H4 e4 p4 => by
    have e14 := (e2.trans e3).trans e4
    exact ⟨lr, v, u, ops, nums, ws, rs, n, rfl, (e1.trans e14) _ _ hlr, pr.ex (e1.trans e14), p3.ex e4, p4, ho, hn, hnn, hrs, h40, fun q' vs' H5 h5 e5 l5 p5 => q q' vs' H5 (fresh_back e14 h5) (e14.trans e5) l5 p5⟩
/-! ### the law's own search -/
def due0 (w : Nat) (tab : List Nat) : Option Row := if tab = List.range (2 ^ w) then some [] else none
def pickR (w : Nat) (tab : List Nat) (o : Option Row) (rs : List Row) : Option Row := match o with
  | some r => some r
  | none => rs.find? fun r => tabW w r == tab
def dueAt (w : Nat) (tab : List Nat) (ops : List Op) (nums : List Nat) : Nat → Option Row
  | 0 => due0 w tab
  | n + 1 => pickR w tab (dueAt w tab ops nums n) (lv ops nums (n + 1))
theorem pickR_take {w : Nat} {tab : List Nat} {o : Option Row} {rs : List Row} {i : Nat} {r : Row} (h : rs[i]? = some r) : pickR w tab o (rs.take (i + 1)) = pickR w tab (pickR w tab o (rs.take i)) [r] := by
  cases o with
  | some r0 => rfl
  | none =>
    show (rs.take (i + 1)).find? _ = _
    rw [List.take_add_one, h, List.find?_append]
    show _ = pickR w tab ((rs.take i).find? _) [r]
    cases (rs.take i).find? fun r => tabW w r == tab <;> rfl
theorem due_search (w : Nat) (tab : List Nat) (ops : List Op) (nums : List Nat) : ∀ k n, (match dueAt w tab ops nums n with
    | some r => some r
    | none => search w tab ops nums k (lv ops nums n)) = dueAt w tab ops nums (n + k)
  | 0, n => by
    show _ = dueAt w tab ops nums n
    cases dueAt w tab ops nums n <;> rfl
  | k + 1, n => by
    have ih := due_search w tab ops nums k (n + 1)
    rw [show n + (k + 1) = n + 1 + k by omega, ← ih]
    cases e : dueAt w tab ops nums n with
    | some r =>
      have : dueAt w tab ops nums (n + 1) = some r := by
        show pickR w tab (dueAt w tab ops nums n) _ = _
        rw [e]
        rfl
      rw [this]
    | none =>
      have : dueAt w tab ops nums (n + 1) = (longer ops nums (lv ops nums n)).find? fun r => tabW w r == tab := by
        show pickR w tab (dueAt w tab ops nums n) _ = _
        rw [e]
        rfl
      rw [this]
      cases hf : (longer ops nums (lv ops nums n)).find? fun r => tabW w r == tab with
      | some r => exact search_one hf
      | none => exact search_no hf
theorem due_shortest (w : Nat) (tab : List Nat) (ops : List Op) (nums : List Nat) (k : Nat) : dueAt w tab ops nums k = shortest w tab ops nums k := by
  have h := due_search w tab ops nums k 0
  rw [Nat.zero_add] at h
  rw [← h]
  show (match due0 w tab with
    | some r => some r
    | none => search w tab ops nums k [[]]) = _
  unfold due0 shortest
  by_cases hx : tab = List.range (2 ^ w)
  · rw [if_pos hx, if_pos hx]
  · rw [if_neg hx, if_neg hx]
theorem pickR_one (w : Nat) (tab : List Nat) (r : Row) : pickR w tab none [r] = if tabW w r = tab then some r else none := by
  unfold pickR
  by_cases h : tabW w r = tab
  · rw [if_pos h, List.find?_cons, show (tabW w r == tab) = true by simpa using h]
  · rw [if_neg h, List.find?_cons, show (tabW w r == tab) = false by simpa using h]
    rfl
/-- for own in rows: if due is None and table(own) == tab: due = own -/
theorem own_loop {S : Option V → V → L2.St} {jd jt : Nat} {lr : Addr} {ws : List V} {rs : List Row} {w : Nat} {tab : List Nat} {tv dv0 : V} {o : Option Row} {y : Option V} (h9 : ∀ y dv x, (S y dv).set 9 (some x) = S (some x) dv) (hd : ∀ y dv x, (S y dv).set jd (some x) = S y x)
    (r2 : ∀ y dv, (S y dv)[2]? = some (some (.int (w : Int)))) (r9 : ∀ x dv, (S (some x) dv)[9]? = some (some x)) (rd : ∀ y dv, (S y dv)[jd]? = some (some dv)) (rt : ∀ y dv, (S y dv)[jt]? = some (some tv)) (rr : ∀ y dv, (S y dv)[16]? = some (some (.ref lr)))
    (hlr : H lr = some (.lst ws)) (pr : PVs K H ws (rs.map rowD)) (pt : PV K H tv (tabD tab)) (pd : PV K H dv0 (optD o)) (hw : W2 w) (hrs : ∀ r ∈ rs, RowOk r ∧ r.length ≤ 100)
    (k : ∀ y dv H1, Ex H H1 → PV K H1 dv (optD (pickR w tab o rs)) → D'.nx (S y dv) H1) :
    tFor (iList K (tVar 16)) (gName 9) (tIfS (tAnd (tTest (tOp (fun x y H Q => y = .non ∧ Q (.bl (decide (x = .non))) H) (tVar jd) (tC .non))) (tTest (tOp (rEqD K) (tCall (spTable K) [] E (tCons (tVar 2) (tCons (tVar 9) tNil))) (tVar jt)))) (tAsg (tVar 9) (gName jd)) tNext) D' (S y dv0) H := by
  refine s_forLn (ev_var (rr _ _)) (SqL.of hlr) (fun i σ' H' => ∃ y dv, σ' = S y dv ∧ Ex H H' ∧ PV K H' dv (optD (pickR w tab o (rs.take i)))) (fun H1 e1 => ⟨y, dv0, rfl, e1, ?_⟩) (fun i σ' H' _ ⟨_, _, _, x, _⟩ => SqL.of (x _ _ hlr)) ?_ ?_
  · have : pickR w tab o (rs.take 0) = o := by cases o <;> rfl
    rw [this]
    exact pd.ex e1
  · rintro i x σ' H' hx ⟨y, dv, rfl, ex, pdv⟩
    obtain ⟨d, hd', px⟩ := pr.get hx
    obtain ⟨r, hr0, rfl⟩ := map_at hd'
    obtain ⟨rok, rlen⟩ := hrs r (List.mem_of_getElem? hr0)
    rw [h9]
    refine s_when (et_and (et_test (et_isN (ep_var (rd _ _) pdv))) fun _ => et_test (ev_is (et_eqD (ep_call (eps_cons (ep_ev (ev_var (r2 _ _)) (.int _)) (eps_cons (ep_var (r9 _ _) (px.ex ex)) eps_nil)) ⟨w, r, rfl, hw, rok, rlen, rfl⟩) (ep_var (rt _ _) (pt.ex ex)) (tabD_shaped _) (tabD_shaped _)) (congrArg V.bl (tab_eqv _ _)))) (fun e H1 e1 => ?_) (fun e H1 e1 => ?_)
    · rw [Bool.and_eq_true] at e
      refine s_asg (ev_var (r9 _ _)) fun H2 e2 => ?_
      rw [hd]
      refine ⟨_, _, rfl, (ex.trans e1).trans e2, ?_⟩
      rw [pickR_take hr0]
      have hn : pickR w tab o (rs.take i) = none := by
        cases h : pickR w tab o (rs.take i) with
        | none => rfl
        | some r0 =>
          rw [h] at e
          exact absurd e.1 (by intro z; cases z)
      rw [hn]
      rw [pickR_one, if_pos (of_decide_eq_true e.2)]
      exact px.ex ((ex.trans e1).trans e2)
    · refine ⟨_, _, rfl, ex.trans e1, ?_⟩
      rw [pickR_take hr0]
      have : pickR w tab (pickR w tab o (rs.take i)) [r] = pickR w tab o (rs.take i) := by
        cases h : pickR w tab o (rs.take i) with
        | some r0 => rfl
        | none =>
          rw [h] at e
          have e2 : ¬ tabW w r = tab := by simpa [optD, isNone] using e
          rw [pickR_one, if_neg e2]
      rw [this]
      exact pdv.ex e1
  · rintro σ' H' ⟨y, dv, rfl, ex, pdv⟩
    have hws : ws.length = rs.length := by rw [pr.length, List.length_map]
    rw [hws, List.take_length] at pdv
    exact k y dv H' ex pdv
end
end K34

namespace K34
open PySem PySem.Spec PyProof.Rows L2 Evl Pd
abbrev sLaw : Stmt := topS 33
abbrev lawN : List Str := ["script", "d", "w", "ops", "numbers", "number", "parts", "row", "k", "own", "x", "table", "op", "one", "other", "due", "rows", "many", "n", "told", "y", "right", "best"]
theorem scLaw : FnScope lawN ["script"] (defScope sLaw) := ⟨rfl, rfl, rfl, by decide +kernel, rfl, by decide +kernel, by decide +kernel⟩
def spLaw (K : PySem.W.Frag) : Sp := fun vs H Q _ => ∃ (a : Addr) (ns : List Int), vs = [.ref a] ∧ SqL K H a (ns.map V.int) ∧ ns.length ≤ 63 ∧ ∀ H', Q (.bl true) H'
theorem catA_run {K : PySem.W.Frag} {H : Hp} {rv y : V} {ds es : List PyData} {Q : VK} (h1 : PV K H rv (.tuple ds)) (h2 : PV K H y (.tuple es)) (hl : ds.length + es.length ≤ 100000) (q : ∀ v H1, Ex H H1 → PV K H1 v (.tuple (ds ++ es)) → Q v H1) : rCatA K rv y H Q :=
  ep_cat (σ := []) (ep_ev (ev_c (v := rv)) h1) (ep_ev (ev_c (v := y)) h2) hl H (Ex.refl H) Q q
theorem ep_rangeT {K : PySem.W.Frag} {H : Hp} {σ : L2.St} {te : TE} {n : Nat} (h : Ev te σ H (.int (n : Int))) (hn : n ≤ 100000) : EvP K (tTupRg (tRg1 te)) σ H (tabD (List.range n)) := by
  have := ep_tupRg (K := K) (n := n) (H := H) (σ := σ) (te := te) h hn
  unfold Pd.upTo at this
  rw [List.map_map] at this
  exact this
theorem short0 (w : Nat) (tab : List Nat) (ops : List Op) (nums : List Nat) : shortest w tab ops nums 0 = due0 w tab := (due_shortest w tab ops nums 0).symm
theorem short_nil {w : Nat} {tab : List Nat} {ops : List Op} {nums : List Nat} {k : Nat} (ho : ∀ o ∈ ops, o.ok = true) : shortest w tab ops nums k = some [] ↔ due0 w tab = some [] := by
  unfold due0
  constructor
  · intro h
    obtain ⟨_, h2, _⟩ := shortest_ok ho h
    rw [tabW_nil] at h2
    rw [if_pos h2.symm]
  · intro h
    by_cases hx : tab = List.range (2 ^ w)
    · unfold shortest
      rw [if_pos hx]
    · rw [if_neg hx] at h
      cases h
theorem due0_cases (w : Nat) (tab : List Nat) : due0 w tab = some [] ∨ due0 w tab = none := by
  unfold due0
  split
  · exact .inl rfl
  · exact .inr rfl
theorem lv_len40 {ops : List Op} {nums : List Nat} (h1 : ops.length ≤ 3) (h2 : nums.length ≤ 2) {i : Nat} (hi : i < 2) : (lv ops nums i).length ≤ 40 := by
  have c : i = 0 ∨ i = 1 := by omega
  rcases c with rfl | rfl
  · show 1 ≤ 40
    decide
  · have e : (lv ops nums 1).length = 1 * (ops.length * ((1 + nums.length + 0) * (1 + nums.length + 0))) := longer_len (n := 0) rfl (fun r hr => by rw [List.mem_singleton.mp hr]; rfl)
    rw [e, Nat.one_mul]
    have a : (1 + nums.length + 0) * (1 + nums.length + 0) ≤ 3 * 3 := Nat.mul_le_mul (by omega) (by omega)
    have b := Nat.mul_le_mul h1 a
    omega
theorem disp_get {op : Op} : (valV (mergeK [] [(Sum.inr ("mul" : Str), V.int 3), (Sum.inr ("div" : Str), V.int 6)]) (Sum.inr op.s : Key)).getD (V.int 1) = V.int (costOp op : Int) := by
  cases op <;> decide +kernel
def opsMenu : List (List Op) := [[.add, .sub, .shl], [.and, .or, .xor], [.sub, .lt, .eq], [.mul, .shr, .xor]]
def numsMenu : List (List Nat) := [[0, 1], [1, 3], [2], []]
theorem opsMenu_ok : ∀ ops ∈ opsMenu, ops.length = 3 ∧ ∀ o ∈ ops, o.ok = true := by decide
theorem numsMenu_ok : ∀ nums ∈ numsMenu, nums.length ≤ 2 := by decide
/-- what stands while the law runs: the deck, the width, the operators, the numbers, the row -/
structure Stands (K : PySem.W.Frag) (H : Hp) (d ls : Addr) (ns : List Int) (ov nv rv : V) (ops : List Op) (nums : List Nat) (row : Row) : Prop where
  dk : Deck H d ls ns
  po : PV K H ov (opsD ops)
  pn : PV K H nv (numsD nums)
  pr : PV K H rv (rowD row)
theorem Stands.exl {K : PySem.W.Frag} {H H' : Hp} {d ls : Addr} {ns : List Int} {ov nv rv : V} {ops : List Op} {nums : List Nat} {row : Row} (S : Stands K H d ls ns ov nv rv ops nums row) (e : Exl d H H') (D : Deck H' d ls ns) : Stands K H' d ls ns ov nv rv ops nums row :=
  ⟨D, S.po.tx (S.dk.tx e), S.pn.tx (S.dk.tx e), S.pr.tx (S.dk.tx e)⟩
theorem Stands.ex {K : PySem.W.Frag} {H H' : Hp} {d ls : Addr} {ns : List Int} {ov nv rv : V} {ops : List Op} {nums : List Nat} {row : Row} (S : Stands K H d ls ns ov nv rv ops nums row) (e : Ex H H') : Stands K H' d ls ns ov nv rv ops nums row :=
  S.exl (exl_of e) (S.dk.ex e)
/-- what the law calls -/
structure Calls (P : Program) (w : World) (K : PySem.W.Frag) (mg : Str → Option Value) (base : Heap) where
  fB : Addr
  fdB : FuncData
  GB : FnOk P w K mg base CX0 1 fB fdB ["script"] (spBegin K)
  kB : PySem.W.keepIn K (.ref fB) = true
  bB : Binds K fdB ["script"] []
  gB : mg "_law_begin" = some (.ref fB)
  fT : Addr
  fdT : FuncData
  GT : FnOk P w K mg base CX0 1 fT fdT ["d", "many"] spTake
  kT : PySem.W.keepIn K (.ref fT) = true
  bT : Binds K fdT ["d", "many"] []
  gT : mg "_law_take" = some (.ref fT)
  fP : Addr
  fdP : FuncData
  GP : FnOk P w K mg base CX0 2 fP fdP ["d", "menu"] (spPick K)
  kP : PySem.W.keepIn K (.ref fP) = true
  bP : Binds K fdP ["d", "menu"] []
  gP : mg "_law_pick" = some (.ref fP)
  fLT : Addr
  fdLT : FuncData
  GLT : FnOk P w K mg base CX0 4 fLT fdLT ["w", "row"] (spTable K)
  kLT : PySem.W.keepIn K (.ref fLT) = true
  bLT : Binds K fdLT ["w", "row"] []
  gLT : mg "_law_table" = some (.ref fLT)
  fRW : Addr
  fdRW : FuncData
  GRW : FnOk P w K mg base CX0 4 fRW fdRW ["w", "row", "x"] (spRow K)
  kRW : PySem.W.keepIn K (.ref fRW) = true
  bRW : Binds K fdRW ["w", "row", "x"] []
  gRW : mg "row_word" = some (.ref fRW)
  fLR : Addr
  fdLR : FuncData
  GLR : FnOk P w K mg base CX0 3 fLR fdLR ["w", "row", "x"] (spRow K)
  kLR : PySem.W.keepIn K (.ref fLR) = true
  bLR : Binds K fdLR ["w", "row", "x"] []
  gLR : mg "_law_row_word" = some (.ref fLR)
  fRT : Addr
  fdRT : FuncData
  GRT : FnOk P w K mg base CX0 5 fRT fdRT ["w", "row"] (spTable K)
  kRT : PySem.W.keepIn K (.ref fRT) = true
  bRT : Binds K fdRT ["w", "row"] []
  gRT : mg "row_table" = some (.ref fRT)
  fRC : Addr
  fdRC : FuncData
  GRC : FnOk P w K mg base CX0 1 fRC fdRC ["row"] (spCost K)
  kRC : PySem.W.keepIn K (.ref fRC) = true
  bRC : Binds K fdRC ["row"] []
  gRC : mg "row_cost" = some (.ref fRC)
  fL : Addr
  fdL : FuncData
  GL : FnOk P w K mg base CX0 1 fL fdL ["rows", "ops", "numbers"] (spLonger K)
  kL : PySem.W.keepIn K (.ref fL) = true
  bL : Binds K fdL ["rows", "ops", "numbers"] []
  gL : mg "_law_longer" = some (.ref fL)
  fS : Addr
  fdS : FuncData
  GS : FnOk P w K mg base CX0 6 fS fdS ["w", "table", "ops", "numbers", "most"] (spShort K)
  kS : PySem.W.keepIn K (.ref fS) = true
  bS : Binds K fdS ["w", "table", "ops", "numbers", "most"] []
  gS : mg "shortest_row" = some (.ref fS)
  fI : Addr
  fdI : FuncData
  GI : FnOk P w K mg base CX0 6 fI fdI ["w", "one", "other"] (spIsRule K)
  kI : PySem.W.keepIn K (.ref fI) = true
  bI : Binds K fdI ["w", "one", "other"] []
  gI : mg "is_rule" = some (.ref fI)
  fM : Addr
  fdM : FuncData
  GM : FnOk P w K mg base CX0 7 fM fdM ["w", "n"] (spTimes K)
  kM : PySem.W.keepIn K (.ref fM) = true
  bM : Binds K fdM ["w", "n"] []
  gM : mg "times_row" = some (.ref fM)
  nLen : mg "len" = none
  nRange : mg "range" = none
  nList : mg "list" = none
  nTuple : mg "tuple" = none
  nSum : mg "sum" = none
section
variable {P : Program} {w : World} {K : PySem.W.Frag} {mg : Str → Option Value} {base : Heap}
theorem ok_law {f : Addr} {fd : FuncData} (F : Fun K "law" "law" sLaw f fd) (B : Calls P w K mg base) : FnOk P w K mg base CX0 8 f fd ["script"] (spLaw K) := by
  refine F.ok scLaw (fun vs H Q E h => ?_) (fun cdv A outer s H vs Q E hr h => ?_)
  · obtain ⟨a, ns, rfl, _⟩ := h
    rfl
  · obtain ⟨a, ns, rfl, hs, hl, q⟩ := h
    have hu := hu_of hr
    have hr1 : Room 1 _ := hr.mono (by decide)
    have hr2 : Room 2 _ := hr.mono (by decide)
    have hr3 : Room 3 _ := hr.mono (by decide)
    have hr4 : Room 4 _ := hr.mono (by decide)
    have hr5 : Room 5 _ := hr.mono (by decide)
    have hr6 : Room 6 _ := hr.mono (by decide)
    refine ⟨_, pss_cons (ps_set (i := 1) scLaw.nd rfl (.inr rfl) (pe_call B.GB hr1 (by rfl) B.gB B.kB B.bB .nil pass0 (pa_cons (pv 0) pa_nil)))
      (pss_cons (ps_set (i := 2) scLaw.nd rfl (.inr rfl) (pe_op op_add pe_int (pe_call B.GT hr1 (by rfl) B.gT B.kT B.bT .nil pass0 (pa_cons (pv 1) (pa_cons pe_int pa_nil)))))
      (pss_cons (ps_set (i := 3) scLaw.nd rfl (.inl rfl) (pe_call B.GP hr2 (by rfl) B.gP B.kP B.bP .nil pass0 (pa_cons (pv 1) (pa_cons (pe_lst
        (pa_cons (pe_tup (pa_cons pe_str (pa_cons pe_str (pa_cons pe_str pa_nil)))) (pa_cons (pe_tup (pa_cons pe_str (pa_cons pe_str (pa_cons pe_str pa_nil)))) (pa_cons (pe_tup (pa_cons pe_str (pa_cons pe_str (pa_cons pe_str pa_nil)))) (pa_cons (pe_tup (pa_cons pe_str (pa_cons pe_str (pa_cons pe_str pa_nil)))) pa_nil))))) pa_nil))))
      (pss_cons (ps_set (i := 4) scLaw.nd rfl (.inl rfl) (pe_call B.GP hr2 (by rfl) B.gP B.kP B.bP .nil pass0 (pa_cons (pv 1) (pa_cons (pe_lst
        (pa_cons (pe_tup (pa_cons pe_int (pa_cons pe_int pa_nil))) (pa_cons (pe_tup (pa_cons pe_int (pa_cons pe_int pa_nil))) (pa_cons (pe_tup (pa_cons pe_int pa_nil)) (pa_cons (pe_tup pa_nil) pa_nil))))) pa_nil))))
      (pss_cons (ps_set (i := 6) scLaw.nd rfl (.inl rfl) (pe_op op_cat (pe_lst (pa_cons pe_str pa_nil)) (pe_lc (own := [("number", 5)]) (g := gName 5) (tt := tYes) (te := tTup (tCons (tC (.str "n")) (tCons (tVar 5) tNil))) rfl scLaw.nd (pi_tup (pv 4)) (blkOk_by (N := lawN) (sc := defScope sLaw) (by decide +kernel))
            (fun _ _ _ _ _ => pg_name (i := 5) scLaw.nd rfl (Or.inl rfl)) (fun _ _ _ _ _ => pts_nil) (fun _ _ _ _ _ => pe_tup (pa_cons pe_str (pa_cons (pv 5) pa_nil))))))
      (pss_cons (ps_set (i := 7) scLaw.nd rfl (.inl rfl) (pe_tup pa_nil))
      (pss_cut (ps_for PassesOwn.never rfl (pi_range1 rfl B.nRange (pa_cons (pe_call B.GT hr1 (by rfl) B.gT B.kT B.bT .nil pass0 (pa_cons (pv 1) (pa_cons pe_int pa_nil))) pa_nil)) (pg_name (i := 8) scLaw.nd rfl (.inl rfl))
        (pss_cons (ps_set (i := 9) scLaw.nd rfl (.inl rfl) (pe_op op_cat (pv 6) (pe_listRg rfl (by rfl) B.nList (prg_1 (by rfl) B.nRange (pv 8)))))
        (pss_one (ps_set (i := 7) scLaw.nd rfl (.inl rfl) (pe_op op_catA (pv 7) (pe_tup (pa_cons (pe_tup (pa_cons (pe_call B.GP hr2 (by rfl) B.gP B.kP B.bP .nil pass0 (pa_cons (pv 1) (pa_cons (pv 3) pa_nil))) (pa_cons (pe_call B.GP hr2 (by rfl) B.gP B.kP B.bP .nil pass0 (pa_cons (pv 1) (pa_cons (pv 9) pa_nil))) (pa_cons (pe_call B.GP hr2 (by rfl) B.gP B.kP B.bP .nil pass0 (pa_cons (pv 1) (pa_cons (pv 9) pa_nil))) pa_nil)))) pa_nil)))))))
      (pss_cons (ps_set (i := 10) scLaw.nd rfl (.inl rfl) (pe_call B.GT hr1 (by rfl) B.gT B.kT B.bT .nil pass0 (pa_cons (pv 1) (pa_cons (pe_op op_shl pe_int (pv 2)) pa_nil))))
      (pss_cons (ps_set (i := 11) scLaw.nd rfl (.inl rfl) (pe_call B.GLT hr4 (by rfl) B.gLT B.kLT B.bLT .nil pass0 (pa_cons (pv 2) (pa_cons (pv 7) pa_nil))))
      (pss_cons (ps_if (PW.pt (pw_or (pt_cmpR op_ne (pe_call B.GRW hr4 (by rfl) B.gRW B.kRW B.bRW .nil pass0 (pa_cons (pv 2) (pa_cons (pv 7) (pa_cons (pv 10) pa_nil)))) (pe_call B.GLR hr3 (by rfl) B.gLR B.kLR B.bLR .nil pass0 (pa_cons (pv 2) (pa_cons (pv 7) (pa_cons (pv 10) pa_nil)))) (nomark _))
          (pw_or1 (pt_cmpR (op_neD hr.units) (pe_call B.GRT hr5 (by rfl) B.gRT B.kRT B.bRT .nil pass0 (pa_cons (pv 2) (pa_cons (pv 7) pa_nil))) (pv 11) (nomark _))))) (pss_one (ps_ret pe_bl)) pss_nil)
      (pss_cons (ps_if (pt_cmpR op_ne (pe_call B.GRC hr1 (by rfl) B.gRC B.kRC B.bRC .nil pass0 (pa_cons (pv 7) pa_nil)) (pe_callB (cr_sum rfl) (by rfl) B.nSum (by decide +kernel) (pa_cons (pe_lc (own := [("op", 12), ("one", 13), ("other", 14)]) (g := gTup K 3 (gCons (gName 12) (gCons (gName 13) (gCons (gName 14) gNil)))) (tt := tYes)
          (te := tDGet2 (tDisp [(tC (.str "mul"), tC (.int 3)), (tC (.str "div"), tC (.int 6))]) (tVar 12) (tC (.int 1))) rfl scLaw.nd (pi_tup (pv 7)) (blkOk_by (N := lawN) (sc := defScope sLaw) (by decide +kernel))
            (fun _ _ _ _ _ => pg_tup rfl (pgs_cons (pg_name (i := 12) scLaw.nd rfl (Or.inl rfl)) (pgs_cons (pg_name (i := 13) scLaw.nd rfl (Or.inl rfl)) (pgs_cons (pg_name (i := 14) scLaw.nd rfl (Or.inl rfl)) pgs_nil)))) (fun _ _ _ _ _ => pts_nil)
            (fun _ _ _ _ _ => pe_dget2 hu (pe_disp (pps_cons pe_str pe_int (pps_cons pe_str pe_int pps_nil)) (by rfl) (by rfl) (by decide) (by decide)) (pv 12) pe_int ⟨by rfl, by rfl, by rfl, by rfl⟩)) pa_nil)) (nomark _)) (pss_one (ps_ret pe_bl)) pss_nil)
      (pss_cut (ps_if (pt_cmpR op_eq (pe_call B.GT hr1 (by rfl) B.gT B.kT B.bT .nil pass0 (pa_cons (pv 1) (pa_cons pe_int pa_nil))) pe_int (nomark _))
        (pss_one (ps_set (i := 11) scLaw.nd rfl (.inl rfl) (pe_tupleOf (by rfl) B.nTuple (pe_lc (own := [("k", 8)]) (g := gName 8) (tt := tYes) (te := tCall spTake [] E0 (tCons (tVar 1) (tCons (tOp (rI CPow fun i j => .int (i * 2 ^ j.toNat)) (tC (.int 1)) (tVar 2)) tNil))) rfl scLaw.nd (pi_range1 rfl B.nRange (pa_cons (pe_op op_shl pe_int (pv 2)) pa_nil)) (blkOk_by (N := lawN) (sc := defScope sLaw) (by decide +kernel))
            (fun _ _ _ _ _ => pg_name (i := 8) scLaw.nd rfl (Or.inl rfl)) (fun _ _ _ _ _ => pts_nil) (fun _ _ _ _ _ => pe_call B.GT hr1 (by rfl) B.gT B.kT B.bT .nil pass0 (pa_cons (pv 1) (pa_cons (pe_op op_shl pe_int (pv 2)) pa_nil))))))) pss_nil)
      (pss_cons (ps_set (i := 15) scLaw.nd rfl (.inl rfl) (pe_ifExp (pt_cmpR (op_eqD hr.units) (pv 11) (pe_tupRg rfl (by rfl) B.nTuple (prg_1 (by rfl) B.nRange (pe_op op_shl pe_int (pv 2)))) (nomark _)) (pe_tup pa_nil) pe_non))
      (pss_cons (ps_set (i := 16) scLaw.nd rfl (.inl rfl) (pe_lst (pa_cons (pe_tup pa_nil) pa_nil)))
      (pss_cut (ps_for PassesOwn.never rfl (pi_range1 rfl B.nRange (pa_cons pe_int pa_nil)) (pg_name (i := 17) scLaw.nd rfl (.inl rfl))
        (pss_cons (ps_set (i := 16) scLaw.nd rfl (.inl rfl) (pe_call B.GL hr1 (by rfl) B.gL B.kL B.bL .nil pass0 (pa_cons (pv 16) (pa_cons (pv 3) (pa_cons (pv 4) pa_nil)))))
        (pss_one (ps_for PassesOwn.never rfl (pi_list (pv 16)) (pg_name (i := 9) scLaw.nd rfl (.inl rfl))
          (pss_one (ps_if (PW.pt (pw_and (pt_cmpR op_isN (pv 15) pe_non (nomark _)) (pw_and1 (pt_cmpR (op_eqD hr.units) (pe_call B.GLT hr4 (by rfl) B.gLT B.kLT B.bLT .nil pass0 (pa_cons (pv 2) (pa_cons (pv 9) pa_nil))) (pv 11) (nomark _))))) (pss_one (ps_set (i := 15) scLaw.nd rfl (.inl rfl) (pv 9))) pss_nil))))))
      (pss_cons (ps_if (PW.pt (pw_or (pt_cmpR (op_neD hr.units) (pe_call B.GS hr6 (by rfl) B.gS B.kS B.bS .nil pass0 (pa_cons (pv 2) (pa_cons (pv 11) (pa_cons (pv 3) (pa_cons (pv 4) (pa_cons pe_int pa_nil)))))) (pv 15) (nomark _))
          (pw_or1 (pt_cmpR (op_neD hr.units) (pe_call B.GS hr6 (by rfl) B.gS B.kS B.bS .nil pass0 (pa_cons (pv 2) (pa_cons (pv 11) (pa_cons (pv 3) (pa_cons (pv 4) (pa_cons pe_int pa_nil)))))) (pe_ifExp (pt_cmpR (op_eqD hr.units) (pv 15) (pe_tup pa_nil) (nomark _)) (pv 15) pe_non) (nomark _))))) (pss_one (ps_ret pe_bl)) pss_nil)
      (pss_cons (ps_if (PW.pt (pw_and (pt_cmpR op_notN (pv 15) pe_non (nomark _)) (pw_and1 (pt_cmpR op_ne (pe_call B.GI hr6 (by rfl) B.gI B.kI B.bI .nil pass0 (pa_cons (pv 2) (pa_cons (pv 15) (pa_cons (pv 7) pa_nil)))) (pe_cmpR (op_eqD hr.units) (pv 11) (pe_call B.GLT hr4 (by rfl) B.gLT B.kLT B.bLT .nil pass0 (pa_cons (pv 2) (pa_cons (pv 7) pa_nil))) (nomark _)) (nomark _))))) (pss_one (ps_ret pe_bl)) pss_nil)
      (pss_cons (ps_set (i := 18) scLaw.nd rfl (.inr rfl) (pe_call B.GT hr1 (by rfl) B.gT B.kT B.bT .nil pass0 (pa_cons (pv 1) (pa_cons (pe_op op_shl pe_int (pv 2)) pa_nil))))
      (pss_cons (ps_set (i := 19) scLaw.nd rfl (.inl rfl) (pe_call B.GM hr (by rfl) B.gM B.kM B.bM .nil pass0 (pa_cons (pv 2) (pa_cons (pv 18) pa_nil))))
      (pss_cons (ps_set (i := 21) scLaw.nd rfl (.inl rfl) (pe_tupleOf (by rfl) B.nTuple (pe_lc (own := [("y", 20)]) (g := gName 20) (tt := tYes) (te := tOp (rI0 fun i j => .int (i - j)) (tOp (rI CMul fun i j => .int (i * j)) (tVar 18) (tVar 20)) (tOp (rI CMul fun i j => .int (i * j)) (tOp (rI CPow fun i j => .int (i * 2 ^ j.toNat)) (tC (.int 1)) (tVar 2)) (tOp (rI CDivN fun i j => .int (i.fdiv j)) (tOp (rI CMul fun i j => .int (i * j)) (tVar 18) (tVar 20)) (tOp (rI CPow fun i j => .int (i * 2 ^ j.toNat)) (tC (.int 1)) (tVar 2))))) rfl scLaw.nd (pi_range1 rfl B.nRange (pa_cons (pe_op op_shl pe_int (pv 2)) pa_nil)) (blkOk_by (N := lawN) (sc := defScope sLaw) (by decide +kernel))
            (fun _ _ _ _ _ => pg_name (i := 20) scLaw.nd rfl (Or.inl rfl)) (fun _ _ _ _ _ => pts_nil) (fun _ _ _ _ _ => pe_op op_sub (pe_op op_mul (pv 18) (pv 20)) (pe_op op_mul (pe_op op_shl pe_int (pv 2)) (pe_op op_fdivN (pe_op op_mul (pv 18) (pv 20)) (pe_op op_shl pe_int (pv 2))))))))
      (pss_cons (ps_if (PW.pt (pw_and (pt_cmpR op_notN (pv 19) pe_non (nomark _)) (pw_and1 (PW.pt (pw_or (pt_cmpR (op_neD hr.units) (pe_call B.GLT hr4 (by rfl) B.gLT B.kLT B.bLT .nil pass0 (pa_cons (pv 2) (pa_cons (pv 19) pa_nil))) (pv 21) (nomark _)) (pw_or1 (pt_cmpR op_gt (pe_callB call_len_seq (by rfl) B.nLen PySem.boot_len (pa_cons (pv 19) pa_nil)) pe_int (nomark _)))))))) (pss_one (ps_ret pe_bl)) pss_nil)
      (pss_cons (ps_set (i := 22) scLaw.nd rfl (.inl rfl) (pe_ifExp (pt_cmpR (op_eqD hr.units) (pv 21) (pe_tupRg rfl (by rfl) B.nTuple (prg_1 (by rfl) B.nRange (pe_op op_shl pe_int (pv 2)))) (nomark _)) (pe_tup pa_nil) pe_non))
      (pss_cons (ps_set (i := 16) scLaw.nd rfl (.inl rfl) (pe_lst (pa_cons (pe_tup pa_nil) pa_nil)))
      (pss_cut (ps_for PassesOwn.never rfl (pi_range1 rfl B.nRange (pa_cons pe_int pa_nil)) (pg_name (i := 17) scLaw.nd rfl (.inl rfl))
        (pss_cons (ps_set (i := 16) scLaw.nd rfl (.inl rfl) (pe_call B.GL hr1 (by rfl) B.gL B.kL B.bL .nil pass0 (pa_cons (pv 16) (pa_cons (pe_tup (pa_cons pe_str (pa_cons pe_str (pa_cons pe_str pa_nil)))) (pa_cons (pe_tupRg rfl (by rfl) B.nTuple (prg_1 (by rfl) B.nRange (pv 2))) pa_nil)))))
        (pss_one (ps_for PassesOwn.never rfl (pi_list (pv 16)) (pg_name (i := 9) scLaw.nd rfl (.inl rfl))
          (pss_one (ps_if (PW.pt (pw_and (pt_cmpR op_isN (pv 22) pe_non (nomark _)) (pw_and1 (pt_cmpR (op_eqD hr.units) (pe_call B.GLT hr4 (by rfl) B.gLT B.kLT B.bLT .nil pass0 (pa_cons (pv 2) (pa_cons (pv 9) pa_nil))) (pv 21) (nomark _))))) (pss_one (ps_set (i := 22) scLaw.nd rfl (.inl rfl) (pv 9))) pss_nil))))))
      (pss_one (ps_ret (pe_or (pe_cmpR op_isN (pv 22) pe_non (nomark _)) (pe_one (pe_cmpR (op_eqD hr.units) (pv 19) (pv 22) (nomark _))))))))))))))))))))))))))))), ?_⟩
    refine ⟨.ref a, rfl, a, ns, rfl, hs, hl, fun d ls H1 _ _ e1 D1 => ?_⟩
    refine ⟨.ref d, rfl, d, ls, ns, 2, rfl, D1, by decide, by decide, hl, fun r H2 hr2' e2 D2 => ⟨2, (r : Int), rfl, rfl, ?_⟩⟩
    obtain ⟨w, hw, hwe⟩ : ∃ w : Nat, W2 w ∧ (2 : Int) + (r : Int) = (w : Int) := ⟨2 + r, by omega, by omega⟩
    have hwe2 : (fun i j => V.int (i + j)) (2 : Int) (r : Int) = V.int (w : Int) := congrArg V.int hwe
    rw [hwe2]
    have hw8 := w_pow hw
    have hw0 := pow_pos2 w
    refine q_pickL (K := K) (ds := opsMenu.map opsD) rfl (el_tup (eps_cons (ep_tup (eps_cons ep_str (eps_cons ep_str (eps_cons ep_str eps_nil))) (by simp)) (eps_cons (ep_tup (eps_cons ep_str (eps_cons ep_str (eps_cons ep_str eps_nil))) (by simp)) (eps_cons (ep_tup (eps_cons ep_str (eps_cons ep_str (eps_cons ep_str eps_nil))) (by simp)) (eps_cons (ep_tup (eps_cons ep_str (eps_cons ep_str (eps_cons ep_str eps_nil))) (by simp)) eps_nil)))) (by decide)) D2 hl (by simp [opsMenu]) (by decide) fun j dd ov H3 hj e3 D3 po => ?_
    obtain ⟨ops, hops0, rfl⟩ := map_at hj
    obtain ⟨ol3, hops⟩ := opsMenu_ok ops (List.mem_of_getElem? hops0)
    refine q_pickL (K := K) (ds := numsMenu.map numsD) rfl (el_tup (eps_cons (ep_tup (eps_cons ep_int (eps_cons ep_int eps_nil)) (by simp)) (eps_cons (ep_tup (eps_cons ep_int (eps_cons ep_int eps_nil)) (by simp)) (eps_cons (ep_tup (eps_cons ep_int eps_nil) (by simp)) (eps_cons (ep_tup eps_nil (by simp)) eps_nil)))) (by decide)) D3 hl (by simp [numsMenu]) (by decide) fun j2 dd2 nv H4 hj2 e4 D4 pn => ?_
    obtain ⟨nums, hnums0, rfl⟩ := map_at hj2
    have nl2 := numsMenu_ok nums (List.mem_of_getElem? hnums0)
    refine q_asgPL (K := K) (ds := (parts nums 0).map Part.d) ?_ fun lp pvs H5 hp5 e5 hlp ppl => ?_
    · have hpd : (parts nums 0).map Part.d = [PyData.str "x"] ++ (nums.map fun i => (Part.n i).d) := by
        unfold parts
        simp [Function.comp_def, Part.d]
      rw [hpd]
      refine el_catN (el_tup (eps_cons ep_str eps_nil) (by simp)) (el_lcT (σ := [some (.ref a), some (.ref d), some (.int (w : Int)), some ov, some nv, none, none, none, none, none, none, none, none, none, none, none, none, none, none, none, none, none, none]) (tl := tVar 4) (g := gName 5) (te := tTup (tCons (tC (.str "n")) (tCons (tVar 5) tNil))) (vs := [5]) (ds := nums.map natD) (nums.map fun i => (Part.n i).d) (ep_var rfl pn) (by simp) (by rw [List.length_map]; omega) ?_) (by simp; omega)
      intro i x c d H1 e hc pc hd Q k
      obtain ⟨m, hm, rfl⟩ := map_at hc
      obtain ⟨m2, hm2, rfl⟩ := map_at hd
      rw [hm] at hm2
      cases hm2
      cases pv_int pc
      exact k _ H1 (Ex.refl H1) rfl (ep_tup (eps_cons ep_str (eps_cons (ep_ev (ev_var rfl) (.int _)) eps_nil)) (by simp))
    have nlp : lp ≠ d := fun z => by
      obtain ⟨_, _, _, hd, _⟩ := D4.dk
      rw [z, hd] at hp5
      cases hp5
    refine q_asgP (K := K) (d := rowD []) (ep_tup eps_nil (by simp)) fun rv0 H6 e6 prv0 => ?_
    have S6 : Stands K H6 d ls ns ov nv rv0 ops nums [] := ⟨(D4.ex e5).ex e6, (po.tx ((D3.tx e4).trans ((tx_of e5).trans (tx_of e6)))), pn.tx ((tx_of e5).trans (tx_of e6)), prv0⟩
    refine q_cut (M := fun σ' H' => ∃ y8 y9 rv row, σ' = [some (.ref a), some (.ref d), some (.int (w : Int)), some ov, some nv, none, some (.ref lp), some rv, y8, y9, none, none, none, none, none, none, none, none, none, none, none, none, none] ∧ Stands K H' d ls ns ov nv rv ops nums row ∧ RowOk row ∧ row.length ≤ 3) ?_ ?_
    · refine s_forTake (m := 3) rfl (fun H1 => ev_c) S6.dk (by decide) (by decide) hl fun r H7 hr3 e7 D7 => ?_
      refine ⟨fun i σ' H' => ∃ y8 y9 rv row, σ' = [some (.ref a), some (.ref d), some (.int (w : Int)), some ov, some nv, none, some (.ref lp), some rv, y8, y9, none, none, none, none, none, none, none, none, none, none, none, none, none] ∧ Stands K H' d ls ns ov nv rv ops nums row ∧ RowOk row ∧ row.length = i ∧ H' lp = some (.lst pvs) ∧ PVs K H' pvs ((parts nums 0).map Part.d),
        ⟨none, none, rv0, [], rfl, S6.exl e7 D7, RowOk.nil, rfl, e7 _ _ (e6 _ _ hlp) nlp, (ppl.ex e6).tx (S6.dk.tx e7)⟩, ?_, ?_⟩
      · rintro i σ' H' hi ⟨y8, y9, rv, row, rfl, S, rok, rlen, hlp', ppl'⟩
        refine q_asgPL (K := K) (ds := (parts nums i).map Part.d) ?_ fun lo ovs H8 hp8 e8 hlo pol => ?_
        · have hpd : (parts nums i).map Part.d = (parts nums 0).map Part.d ++ (Pd.upTo i).map PyData.int := by
            unfold parts Pd.upTo
            simp [Function.comp_def, Part.d]
          rw [hpd]
          exact el_catS (ev_var rfl) hlp' ppl' (el_lstRg (ev_var rfl) (by omega)) (by simp [parts_len, Pd.upTo]; omega)
        have nlo : lo ≠ d := fun z => by
          obtain ⟨_, _, _, hd, _⟩ := S.dk.dk
          rw [z, hd] at hp8
          cases hp8
        have S8 := S.ex e8
        obtain ⟨aO, xsO, hovr, hxO, pxO⟩ := pv_tup S8.po
        have hopne : (ops.map fun (o : Op) => PyData.str o.s) ≠ [] := fun z => by
          have := congrArg List.length z
          rw [List.length_map, ol3] at this
          cases this
        have hmO : MenuAt K H8 d aO (ops.map fun (o : Op) => PyData.str o.s) := .inr (by rw [← hovr]; exact S8.po)
        have hmP : MenuAt K H8 d lo ((parts nums i).map Part.d) := .inl ⟨ovs, hlo, nlo, pol⟩
        have hpne : (parts nums i).map Part.d ≠ [] := fun z => by
          have := congrArg List.length z
          rw [List.length_map, parts_len] at this
          simp at this
        have hplen : ((parts nums i).map Part.d).length ≤ 1000000 := by rw [List.length_map, parts_len]; omega
        refine ⟨rv, rfl, ?_⟩
        refine pick_run (K := K) (m := aO) (j := 3) rfl (by rw [← hovr]; rfl) hmO S8.dk hl hopne (by rw [List.length_map, ol3]; decide) _ fun i1 d1 v1 H9 h1 e9 D9 p1 => ?_
        obtain ⟨o, ho, rfl⟩ := map_at h1
        refine pick_run (K := K) (m := lo) (j := 9) rfl rfl (hmP.exl e9 (S8.dk.tx e9)) D9 hl hpne hplen _ fun i2 d2 v2 H10 h2 e10 D10 p2 => ?_
        obtain ⟨pa, hpa, rfl⟩ := map_at h2
        refine pick_run (K := K) (m := lo) (j := 9) rfl rfl ((hmP.exl e9 (S8.dk.tx e9)).exl e10 (D9.tx e10)) D10 hl hpne hplen _ fun i3 d3 v3 H11 h3 e11 D11 p3 => ?_
        obtain ⟨pb, hpb, rfl⟩ := map_at h3
        have t9 : Tx H8 H9 := S8.dk.tx e9
        have t10 : Tx H9 H10 := D9.tx e10
        have t11 : Tx H10 H11 := D10.tx e11
        have ex8 : Exl d H8 H11 := (e9.trans e10).trans e11
        refine ⟨sz_of (by simp), fun q1 hq1 => ⟨sz_of (by simp), fun q2 hq2 => ?_⟩⟩
        have eN : Ex H11 (upd (upd H11 q1 (.tup [v1, v2, v3])) q2 (.tup [.ref q1])) := (Ex.new hq1).trans (Ex.new hq2)
        have eq2 := Ex.new (o := .tup [.ref q1]) hq2
        have pT : PV K (upd (upd H11 q1 (.tup [v1, v2, v3])) q2 (.tup [.ref q1])) (.ref q2) (rowD [(o, pa, pb)]) := .tup (.inl upd_same) (PVs.one (.tup (.inl (eq2 _ _ upd_same)) (.cons ((p1.tx (t10.trans t11)).ex eN) (.cons ((p2.tx t11).ex eN) (.cons (p3.ex eN) .nil)))))
        refine catA_run ((S8.pr.tx ((t9.trans t10).trans t11)).ex eN) pT (by simp; omega) fun v12 H12 e12 pv12 => ?_
        have xall : Exl d H' H12 := ((exl_of e8).trans ex8).trans (exl_of (eN.trans e12))
        have Dl : Deck H12 d ls ns := (D11.ex eN).ex e12
        refine ⟨_, _, _, row ++ [(o, pa, pb)], rfl, ⟨Dl, S.po.tx (S.dk.tx xall), S.pn.tx (S.dk.tx xall), ?_⟩, rok.snoc ⟨hops o (List.mem_of_getElem? ho), ?_, ?_⟩, by simp [rlen], xall _ _ hlp' nlp, ppl'.tx (S.dk.tx xall)⟩
        · unfold rowD
          rw [List.map_append]
          exact pv12
        · rw [rlen]
          exact parts_ok (List.mem_of_getElem? hpa)
        · rw [rlen]
          exact parts_ok (List.mem_of_getElem? hpb)
      · rintro σ' H' ⟨y8, y9, rv, row, rfl, S, rok, rlen, _⟩
        exact ⟨_, _, _, row, rfl, S, rok, by omega⟩
    rintro σ' H7 ⟨y8, y9, rv, row, rfl, S7, rok, rlen⟩
    refine q_take (m := 2 ^ w) rfl (fun H1 => shl1N (ev_var rfl) (w_le hw)) S7.dk hw0 (by omega) hl fun x H8 hx e8 D8 => ?_
    have S8 := S7.exl e8 D8
    have rl : row.length ≤ 100 := by omega
    refine q_asgP (K := K) (d := tabD (tabW w row)) (ep_call (eps_cons (ep_ev (ev_var rfl) (.int _)) (eps_cons (ep_var rfl S8.pr) eps_nil)) ⟨w, row, rfl, hw, rok, rl, rfl⟩) fun tv0 H9 e9 pt0 => ?_
    have S9 := S8.ex e9
    refine q_when (b := false) (et_is (et_or (et_test (ev_op (ev_epI (K := K) (i := ((rowW w row x : Nat) : Int)) (ep_call (eps_cons (ep_ev (ev_var rfl) (.int _)) (eps_cons (ep_var rfl S9.pr) (eps_cons (ep_ev (ev_var rfl) (.int _)) eps_nil))) ⟨w, x, row, rfl, hw, rok, rl, hx, rfl⟩)) (ev_epI (K := K) (i := ((rowW w row x : Nat) : Int)) (ep_call (eps_cons (ep_ev (ev_var rfl) (.int _)) (eps_cons (ep_var rfl S9.pr) (eps_cons (ep_ev (ev_var rfl) (.int _)) eps_nil))) ⟨w, x, row, rfl, hw, rok, rl, hx, rfl⟩)) (rv_ne rfl)))
      fun _ => et_test (et_neD (ep_call (eps_cons (ep_ev (ev_var rfl) (.int _)) (eps_cons (ep_var rfl S9.pr) eps_nil)) ⟨w, row, rfl, hw, rok, rl, rfl⟩) (ep_var rfl pt0) (tabD_shaped _) (tabD_shaped _))) ?_) (fun e => by cases e) (fun _ H10 e10 => ?_)
    · rw [tab_eqv]
      simp
    have S10 := S9.ex e10
    refine q_when (b := false) (et_is (et_test (ev_op (ev_epI (K := K) (i := ((cost row : Nat) : Int)) (ep_call (eps_cons (ep_var rfl S10.pr) eps_nil) ⟨row, rfl, rok.ops, rl, rfl⟩)) (ev_sum (ns := row.map fun t => (costOp t.1 : Int)) ?hsum) (rv_ne rfl))) ?hfin) (fun e => by cases e) (fun _ H11 e11 => ?hrest)
    case hsum =>
      refine el_lcT (σ := [some (.ref a), some (.ref d), some (.int (w : Int)), some ov, some nv, none, some (.ref lp), some rv, y8, y9, some (.int (x : Int)), some tv0, none, none, none, none, none, none, none, none, none, none, none]) (tl := tVar 7) (g := gTup K 3 (gCons (gName 12) (gCons (gName 13) (gCons (gName 14) gNil)))) (te := tDGet2 (tDisp [(tC (.str "mul"), tC (.int 3)), (tC (.str "div"), tC (.int 6))]) (tVar 12) (tC (.int 1))) (vs := [12, 13, 14]) (ds := row.map triD) ((row.map fun t => (costOp t.1 : Int)).map PyData.int) (ep_var rfl S10.pr) (by simp) (by rw [List.length_map]; omega) ?_
      intro i x c dd H1 e hc pc hd Q k
      obtain ⟨t, ht, rfl⟩ := map_at hc
      obtain ⟨m, hm, rfl⟩ := map_at hd
      obtain ⟨t2, ht2, rfl⟩ := map_at hm
      rw [ht] at ht2
      cases ht2
      refine g_tup3 pc fun v1 v2 v3 p1 p2 p3 => k _ H1 (Ex.refl H1) rfl ?_
      cases pv_str p1
      intro H2 x2 Q2 q2 p hp
      refine ⟨upd_same, [(Sum.inr ("mul" : Str), V.int 3), (Sum.inr ("div" : Str), V.int 6)], rfl, by decide, p, rfl, .inl ⟨_, .inl upd_same⟩, .str t.1.s, rfl, _, DGet.k (k := Sum.inr t.1.s) upd_same, ?_⟩
      rw [disp_get]
      exact q2 _ _ ((Ex.new hp).mut hp) (.int _)
    case hfin =>
      rw [cost_sum]
      simp
    case hrest =>
    have S11 := S10.ex e11
    refine q_cut (M := fun σ' H' => ∃ y8 tv tab, σ' = [some (.ref a), some (.ref d), some (.int (w : Int)), some ov, some nv, none, some (.ref lp), some rv, y8, y9, some (.int (x : Int)), some tv, none, none, none, none, none, none, none, none, none, none, none] ∧ Stands K H' d ls ns ov nv rv ops nums row ∧ tab.length = 2 ^ w ∧ PV K H' tv (tabD tab)) ?_ ?_
    · refine take_run (m := 3) rfl (fun H1 => ev_c) S11.dk (by decide) (by decide) hl _ fun r H12 hr3 e12 D12 => ⟨rfl, _, rfl, ite2 (fun _ => ?_) (fun _ => ?_)⟩
      · exact s_takes (m := 2 ^ w) (n := 2 ^ w) (fun x => rfl) (fun x H1 => shl1N (ev_var rfl) (w_le hw)) D12 hw0 (by omega) hl (by omega) (fun H1 => ea_cons (shl1N (ev_var rfl) (w_le hw)) ea_nil) (fun x => rfl) fun tab v H13 hlen e13 D13 pv => ⟨_, v, tab, rfl, S11.exl (e12.trans e13) D13, hlen, pv⟩
      · exact ⟨_, tv0, tabW w row, rfl, S11.exl e12 D12, by simp [tabW], (pt0.ex (e10.trans e11)).tx (S11.dk.tx e12)⟩
    rintro σ' H12 ⟨y8, tv, tab, rfl, S12, htl, pt⟩
    refine q_asgP (K := K) (d := optD (due0 w tab)) (ep_if (et_test (ev_is (et_eqD (ep_var rfl pt) (ep_rangeT (n := 2 ^ w) (shl1N (ev_var rfl) (w_le hw)) (by omega)) (tabD_shaped _) (tabD_shaped _)) (congrArg V.bl (tab_eqv _ _)))) (fun e => ?_) (fun e => ?_)) fun dv0 H13 e13 pd0 => ?_
    · unfold due0
      rw [if_pos (of_decide_eq_true e)]
      exact ep_tup eps_nil (by simp)
    · unfold due0
      rw [if_neg (of_decide_eq_false e)]
      exact ep_non
    refine q_asgPL (K := K) (ds := (lv ops nums 0).map rowD) (el_tup (eps_cons (ep_tup eps_nil (by simp)) eps_nil) (by simp [lv])) fun lr0 ws0 H14 _ e14 hlr0 pr0 => ?_
    have S14 := (S12.ex e13).ex e14
    have pt14 := (pt.ex e13).ex e14
    refine q_cut (M := fun σ' H' => ∃ y9 y16 y17 dv, σ' = [some (.ref a), some (.ref d), some (.int (w : Int)), some ov, some nv, none, some (.ref lp), some rv, y8, y9, some (.int (x : Int)), some tv, none, none, none, some dv, y16, y17, none, none, none, none, none] ∧ Ex H14 H' ∧ PV K H' dv (optD (shortest w tab ops nums 2))) ?_ ?_
    · refine s_forR1 (n := 2) (ea_cons ev_c ea_nil) (by decide) (fun i σ' H' => ∃ y9 y17 lr ws dv, σ' = [some (.ref a), some (.ref d), some (.int (w : Int)), some ov, some nv, none, some (.ref lp), some rv, y8, y9, some (.int (x : Int)), some tv, none, none, none, some dv, some (.ref lr), y17, none, none, none, none, none] ∧ Ex H14 H' ∧ H' lr = some (.lst ws) ∧ PVs K H' ws ((lv ops nums i).map rowD) ∧ PV K H' dv (optD (dueAt w tab ops nums i)))
        (fun H15 e15 => ⟨_, _, lr0, ws0, dv0, rfl, e15, e15 _ _ hlr0, pr0.ex e15, (pd0.ex e14).ex e15⟩) ?_ ?_
      · rintro i σ' H15 hi ⟨y9, y17, lr, ws, dv, rfl, ex, hlr, pr, pd⟩
        have hi2 : i < 2 := by omega
        refine q_asgPL (K := K) (ds := (longer ops nums (lv ops nums i)).map rowD) (el_longer (n := i) (ev_var rfl) hlr pr (ep_var rfl (S14.po.ex ex)) (ep_var rfl (S14.pn.ex ex)) (by omega) (by omega) (by omega) (fun r hr => (lv_ok hops i r hr).2) (lv_len40 (by omega) nl2 hi2)) fun lr' ws' H16 _ e16 hlr' pr' => ?_
        exact own_loop (S := fun y dv => [some (.ref a), some (.ref d), some (.int (w : Int)), some ov, some nv, none, some (.ref lp), some rv, y8, y, some (.int (x : Int)), some tv, none, none, none, some dv, some (.ref lr'), some (.int (i : Int)), none, none, none, none, none]) (jd := 15) (jt := 11) (fun _ _ _ => rfl) (fun _ _ _ => rfl) (fun _ _ => rfl) (fun _ _ => rfl) (fun _ _ => rfl) (fun _ _ => rfl) (fun _ _ => rfl) hlr' pr' ((pt14.ex ex).ex e16) (pd.ex e16) hw (fun r hr => ⟨(lv_ok hops (i + 1) r hr).1, by have := (lv_ok hops (i + 1) r hr).2; omega⟩)
          fun y dv' H17 e17 pd' => ⟨y, _, lr', ws', dv', rfl, (ex.trans e16).trans e17, e17 _ _ hlr', pr'.ex e17, pd'⟩
      · rintro σ' H15 ⟨y9, y17, lr, ws, dv, rfl, ex, hlr, pr, pd⟩
        refine ⟨_, _, _, dv, rfl, ex, ?_⟩
        rw [← due_shortest]
        exact pd
    rintro σ' H15 ⟨y9, y16, y17, dv, rfl, e15, pd⟩
    have S15 := S14.ex e15
    have pt15 := pt14.ex e15
    have small : ∀ k, k ≤ 2 → Small ops nums k := fun k hk => .inl ⟨hk, by omega, by omega⟩
    refine q_when (b := false) (et_is (et_or (et_test (et_neD (ep_call (eps_cons (ep_ev (ev_var rfl) (.int _)) (eps_cons (ep_var rfl pt15) (eps_cons (ep_var rfl S15.po) (eps_cons (ep_var rfl S15.pn) (eps_cons (ep_c (.int _)) eps_nil))))) ⟨w, tab, ops, nums, 2, rfl, hw, htl, hops, small 2 (by decide), rfl⟩) (ep_var rfl pd) (optD_shaped _) (optD_shaped _)))
      fun _ => et_test (et_neD (d := optD (shortest w tab ops nums 0)) (e := optD (due0 w tab)) (ep_call (eps_cons (ep_ev (ev_var rfl) (.int _)) (eps_cons (ep_var rfl pt15) (eps_cons (ep_var rfl S15.po) (eps_cons (ep_var rfl S15.pn) (eps_cons (ep_c (.int _)) eps_nil))))) ⟨w, tab, ops, nums, 0, rfl, hw, htl, hops, small 0 (by decide), rfl⟩) (ep_if (et_test (ev_is (et_eqD (ep_var rfl pd) (ep_tup (ds := []) eps_nil (by simp)) (optD_shaped _) (optD_shaped (some []))) (congrArg V.bl (opt_eqv _ (some []))))) (fun e => ?_) (fun e => ?_)) (optD_shaped _) (optD_shaped _))) ?_) (fun e => by cases e) (fun _ H16 e16 => ?_)
    · have h1 := of_decide_eq_true e
      rw [(short_nil hops).mp h1, ← h1]
      exact ep_var rfl pd
    · have h1 := of_decide_eq_false e
      rcases due0_cases w tab with h2 | h2
      · exact absurd ((short_nil hops).mpr h2) h1
      · rw [h2]
        exact ep_non
    · rw [opt_eqv, opt_eqv, short0]
      simp
    have S16 := S15.ex e16
    have pt16 := pt15.ex e16
    have pd16 := pd.ex e16
    refine q_when (b := false) ?_ (fun e => by cases e) (fun _ H17 e17 => ?_)
    · cases hdue : shortest w tab ops nums 2 with
      | none =>
        rw [hdue] at pd16
        exact et_is (et_and (b := false) (et_test (et_notN (ep_var rfl pd16))) fun e => by cases e) rfl
      | some r =>
        rw [hdue] at pd16
        obtain ⟨k1, k2, k3⟩ := shortest_ok hops hdue
        refine et_is (et_and (et_test (et_notN (ep_var rfl pd16))) fun e => et_test (ev_op (ev_epB (K := K) (b := decide (tabW w r = tabW w row)) (ep_call (eps_cons (ep_ev (ev_var rfl) (.int _)) (eps_cons (ep_var rfl pd16) (eps_cons (ep_var rfl S16.pr) eps_nil))) ⟨w, r, row, rfl, hw, k1, by omega, rok, rl, rfl⟩)) (ev_is (et_eqD (ep_var rfl pt16) (ep_call (eps_cons (ep_ev (ev_var rfl) (.int _)) (eps_cons (ep_var rfl S16.pr) eps_nil)) ⟨w, row, rfl, hw, rok, rl, rfl⟩) (tabD_shaped _) (tabD_shaped _)) (congrArg V.bl (tab_eqv _ _))) (rv_ne rfl))) ?_
        rw [k2]
        simp
    have S17 := S16.ex e17
    refine q_take (m := 2 ^ w) rfl (fun H1 => shl1N (ev_var rfl) (w_le hw)) S17.dk hw0 (by omega) hl fun n H18 hn e18 D18 => ?_
    have S18 := S17.exl e18 D18
    refine q_asgP (K := K) (d := optD (times w n)) (ep_call (eps_cons (ep_ev (ev_var rfl) (.int _)) (eps_cons (ep_ev (ev_var rfl) (.int _)) eps_nil)) ⟨w, n, rfl, hw, hn, rfl⟩) fun ov2 H19 e19 ptold => ?_
    have S19 := S18.ex e19
    refine q_asgP (K := K) (d := tabD (timesTab w n)) (ep_tupleOf (ds := (timesTab w n).map natD) ?htimes) fun rg H20 e20 prg => ?hrest2
    case htimes =>
      unfold timesTab
      rw [List.map_map]
      refine el_lcR (σ := [some (.ref a), some (.ref d), some (.int (w : Int)), some ov, some nv, none, some (.ref lp), some rv, y8, y9, some (.int (x : Int)), some tv, none, none, none, some dv, y16, y17, some (.int (n : Int)), some ov2, none, none, none]) (j := 20) (vs := [20]) (n := 2 ^ w) (fun i => natD (n * i % 2 ^ w)) (eps_cons (ep_evI (shl1N (ev_var rfl) (w_le hw))) eps_nil) (by omega) (fun x => rfl) (fun i H1 e hi => ?_)
      refine ep_evI (ev_is (ev_op (ev_op (ev_var rfl) (ev_var rfl) (rv_I (C := CMul) (g := fun i j => .int (i * j)) (.inl ⟨by omega, by omega⟩))) (ev_op (shl1N (ev_var rfl) (w_le hw)) (ev_op (ev_op (ev_var rfl) (ev_var rfl) (rv_I (C := CMul) (g := fun i j => .int (i * j)) (.inl ⟨by omega, by omega⟩))) (shl1N (ev_var rfl) (w_le hw)) (rv_I (C := CDivN) (g := fun i j => .int (i.fdiv j)) ⟨by omega, by omega⟩)) (rv_I (C := CMul) (g := fun i j => .int (i * j)) (.inl ⟨by omega, by omega⟩))) rv_I0) ?_)
      refine congrArg V.int ?_
      rw [Int.fdiv_eq_ediv_of_nonneg _ (by omega), ← Int.emod_def]
      simp
    case hrest2 =>
    have S20 := S19.ex e20
    have ptold20 := ptold.ex e20
    have tlen : (timesTab w n).length = 2 ^ w := by simp [timesTab]
    have hops3 : ∀ o ∈ ([.add, .sub, .shl] : List Op), o.ok = true := by decide
    refine q_when (b := false) ?_ (fun e => by cases e) (fun _ H21 e21 => ?_)
    · cases htold : times w n with
      | none =>
        rw [htold] at ptold20
        exact et_is (et_and (b := false) (et_test (et_notN (ep_var rfl ptold20))) fun e => by cases e) rfl
      | some r =>
        rw [htold] at ptold20
        obtain ⟨k1, k2, k3⟩ := shortest_ok hops3 htold
        refine et_is (et_and (et_test (et_notN (ep_var rfl ptold20))) fun e => et_or (et_test (et_neD (ep_call (eps_cons (ep_ev (ev_var rfl) (.int _)) (eps_cons (ep_var rfl ptold20) eps_nil)) ⟨w, r, rfl, hw, k1, by omega, rfl⟩) (ep_var rfl prg) (tabD_shaped _) (tabD_shaped _))) fun _ => et_test (ev_op (ev_lenT (ds := r.map triD) (ep_var rfl ptold20)) ev_c rv_I0)) ?_
        rw [k2, tab_eqv, List.length_map]
        have : ¬ (3 : Int) < (r.length : Int) := by omega
        simp [this]
        try omega
    have prg21 := prg.ex e21
    refine q_asgP (K := K) (d := optD (due0 w (timesTab w n))) (ep_if (et_test (ev_is (et_eqD (ep_var rfl prg21) (ep_rangeT (n := 2 ^ w) (shl1N (ev_var rfl) (w_le hw)) (by omega)) (tabD_shaped _) (tabD_shaped _)) (congrArg V.bl (tab_eqv _ _)))) (fun e => ?_) (fun e => ?_)) fun bv0 H22 e22 pb0 => ?_
    · unfold due0
      rw [if_pos (of_decide_eq_true e)]
      exact ep_tup eps_nil (by simp)
    · unfold due0
      rw [if_neg (of_decide_eq_false e)]
      exact ep_non
    refine q_asgPL (K := K) (ds := (lv [.add, .sub, .shl] (List.range w) 0).map rowD) (el_tup (eps_cons (ep_tup eps_nil (by simp)) eps_nil) (by simp [lv])) fun lr0' ws0' H23 _ e23 hlr0' pr0' => ?_
    have prg23 := (prg21.ex e22).ex e23
    have ptold23 := ((ptold20.ex e21).ex e22).ex e23
    have hwl : (List.range w).length ≤ 3 := by rw [List.length_range]; rcases hw with rfl | rfl <;> decide
    refine q_cut (M := fun σ' H' => ∃ y9 y16 y17 bv, σ' = [some (.ref a), some (.ref d), some (.int (w : Int)), some ov, some nv, none, some (.ref lp), some rv, y8, y9, some (.int (x : Int)), some tv, none, none, none, some dv, y16, y17, some (.int (n : Int)), some ov2, none, some rg, some bv] ∧ Ex H23 H' ∧ PV K H' bv (optD (shortest w (timesTab w n) [.add, .sub, .shl] (List.range w) 1))) ?_ ?_
    · refine s_forR1 (n := 1) (ea_cons ev_c ea_nil) (by decide) (fun i σ' H' => ∃ y9 y17 lr ws bv, σ' = [some (.ref a), some (.ref d), some (.int (w : Int)), some ov, some nv, none, some (.ref lp), some rv, y8, y9, some (.int (x : Int)), some tv, none, none, none, some dv, some (.ref lr), y17, some (.int (n : Int)), some ov2, none, some rg, some bv] ∧ Ex H23 H' ∧ H' lr = some (.lst ws) ∧ PVs K H' ws ((lv [.add, .sub, .shl] (List.range w) i).map rowD) ∧ PV K H' bv (optD (dueAt w (timesTab w n) [.add, .sub, .shl] (List.range w) i)))
        (fun H24 e24 => ⟨_, _, lr0', ws0', bv0, rfl, e24, e24 _ _ hlr0', pr0'.ex e24, (pb0.ex e23).ex e24⟩) ?_ ?_
      · rintro i σ' H24 hi ⟨y9, y17, lr, ws, bv, rfl, ex, hlr, pr, pb⟩
        have hi0 : i = 0 := by omega
        subst hi0
        refine q_asgPL (K := K) (ds := (longer [.add, .sub, .shl] (List.range w) (lv [.add, .sub, .shl] (List.range w) 0)).map rowD) (el_longer (n := 0) (ev_var rfl) hlr pr (ep_tup (ds := [.str "add", .str "sub", .str "shl"]) (eps_cons ep_str (eps_cons ep_str (eps_cons ep_str eps_nil))) (by simp)) (ep_rangeT (n := w) (ev_var rfl) (by have := w_le hw; omega)) (by decide) (by omega) (by decide) (fun r hr => (lv_ok hops3 0 r hr).2) (by simp [lv])) fun lr' ws' H25 _ e25 hlr' pr' => ?_
        exact own_loop (S := fun y bv => [some (.ref a), some (.ref d), some (.int (w : Int)), some ov, some nv, none, some (.ref lp), some rv, y8, y, some (.int (x : Int)), some tv, none, none, none, some dv, some (.ref lr'), some (.int ((0 : Nat) : Int)), some (.int (n : Int)), some ov2, none, some rg, some bv]) (jd := 22) (jt := 21) (fun _ _ _ => rfl) (fun _ _ _ => rfl) (fun _ _ => rfl) (fun _ _ => rfl) (fun _ _ => rfl) (fun _ _ => rfl) (fun _ _ => rfl) hlr' pr' ((prg23.ex ex).ex e25) (pb.ex e25) hw (fun r hr => ⟨(lv_ok hops3 1 r hr).1, by have := (lv_ok hops3 1 r hr).2; omega⟩)
          fun y bv' H26 e26 pb' => ⟨y, _, lr', ws', bv', rfl, (ex.trans e25).trans e26, e26 _ _ hlr', pr'.ex e26, pb'⟩
      · rintro σ' H24 ⟨y9, y17, lr, ws, bv, rfl, ex, hlr, pr, pb⟩
        refine ⟨_, _, _, bv, rfl, ex, ?_⟩
        rw [← due_shortest]
        exact pb
    rintro σ' H24 ⟨y9, y16, y17, bv, rfl, e24, pb⟩
    refine s_ret (ev_is (ev_orV (et_isN (ep_var rfl pb)) fun e => et_eqD (ep_var rfl (ptold23.ex e24)) (ep_var rfl pb) (optD_shaped _) (optD_shaped _)) (congrArg V.bl (?_ : _ = true))) fun H25 e25 => q H25
    rw [opt_eqv]
    cases hb : shortest w (timesTab w n) [.add, .sub, .shl] (List.range w) 1 with
    | none => rfl
    | some r =>
      rw [times_best hb]
      simp
end
end K34

namespace K34
open PySem PySem.Spec PyProof.Rows L2 Evl Pd
theorem all_mk {l : PySem.W.OpenLaw} {w : World} {K : PySem.W.Frag} {h : Heap} {mg : Str → Option Value} {fa C dC tO : Addr} {fW fM fC fJ fO fP fR fT fK fI fL fS fX flb flt flp fli flo fla flr fle fll flaw fmi fmt fmg fmf fml : Addr} (X : K.In h) (G : h.Ns mainGlobals mg) (hfa : mg "law" = some (.ref fa))
    {odW anW odM anM odC anC odJ anJ odO anO odP anP odR anR odT anT odK anK odI anI odL anL odS anS odX anX odlb anlb odlt anlt odlp anlp odli anli odlo anlo odla anla odlr anlr odle anle odll anll odlaw anlaw odmi anmi odmt anmt odmg anmg odmf anmf odml anml : Option Addr} {slW slM slC slJ slO slP slR slT slK slI slL slS slX sllb sllt sllp slli sllo slla sllr slle slll sllaw slmi slmt slmg slmf slml : Array (Option Value)} {ocW kVW dcW pmW cdW ctW ocM kVM dcM pmM cdM ctM ocC kVC dcC pmC cdC ctC ocJ kVJ dcJ pmJ cdJ ctJ ocO kVO dcO pmO cdO ctO ocP kVP dcP pmP cdP ctP ocR kVR dcR pmR cdR ctR ocT kVT dcT pmT cdT ctT ocK kVK dcK pmK cdK ctK ocI kVI dcI pmI cdI ctI ocL kVL dcL pmL cdL ctL ocS kVS dcS pmS cdS ctS ocX kVX dcX pmX cdX ctX oclb kVlb dclb pmlb cdlb ctlb oclt kVlt dclt pmlt cdlt ctlt oclp kVlp dclp pmlp cdlp ctlp ocli kVli dcli pmli cdli ctli oclo kVlo dclo pmlo cdlo ctlo ocla kVla dcla pmla cdla ctla oclr kVlr dclr pmlr cdlr ctlr ocle kVle dcle pmle cdle ctle ocll kVll dcll pmll cdll ctll oclaw kVlaw dclaw pmlaw cdlaw ctlaw ocmi kVmi dcmi pmmi cdmi ctmi ocmt kVmt dcmt pmmt cdmt ctmt ocmg kVmg dcmg pmmg cdmg ctmg ocmf kVmf dcmf pmmf cdmf ctmf ocml kVml dcml pmml cdml ctml : Value}
    {esC : Array DictEntry} {nC nTO : Nat} {tmul t1 t2 t3 tM : Tok} {otTO : Option Addr} {slTO : Array (Option Value)}
    (aW : PySem.W.nsIn K mainGlobals "word_of" = some (some (.ref fW)))
    (lW : K.lookup fW = some ⟨ocW, odW, .func (PySem.W.fnOf "word_of" "word_of" (defArgs sWordOf) (defBody sWordOf) (defScope sWordOf) .none kVW dcW pmW anW cdW ctW), slW⟩)
    (cW : PySem.W.codeIn K cdW "word_of" = true)
    (kW : PySem.W.keepIn K (.ref fW) = true)
    (aM : PySem.W.nsIn K mainGlobals "moved" = some (some (.ref fM)))
    (lM : K.lookup fM = some ⟨ocM, odM, .func (PySem.W.fnOf "moved" "moved" (defArgs sMoved) (defBody sMoved) (defScope sMoved) .none kVM dcM pmM anM cdM ctM), slM⟩)
    (cM : PySem.W.codeIn K cdM "moved" = true)
    (kM : PySem.W.keepIn K (.ref fM) = true)
    (aC : PySem.W.nsIn K mainGlobals "compared" = some (some (.ref fC)))
    (lC : K.lookup fC = some ⟨ocC, odC, .func (PySem.W.fnOf "compared" "compared" (defArgs sCompared) (defBody sCompared) (defScope sCompared) .none kVC dcC pmC anC cdC ctC), slC⟩)
    (cC : PySem.W.codeIn K cdC "compared" = true)
    (kC : PySem.W.keepIn K (.ref fC) = true)
    (aJ : PySem.W.nsIn K mainGlobals "joined_bits" = some (some (.ref fJ)))
    (lJ : K.lookup fJ = some ⟨ocJ, odJ, .func (PySem.W.fnOf "joined_bits" "joined_bits" (defArgs sJoined) (defBody sJoined) (defScope sJoined) .none kVJ dcJ pmJ anJ cdJ ctJ), slJ⟩)
    (cJ : PySem.W.codeIn K cdJ "joined_bits" = true)
    (kJ : PySem.W.keepIn K (.ref fJ) = true)
    (aO : PySem.W.nsIn K mainGlobals "operate" = some (some (.ref fO)))
    (lO : K.lookup fO = some ⟨ocO, odO, .func (PySem.W.fnOf "operate" "operate" (defArgs sOperate) (defBody sOperate) (defScope sOperate) .none kVO dcO pmO anO cdO ctO), slO⟩)
    (cO : PySem.W.codeIn K cdO "operate" = true)
    (kO : PySem.W.keepIn K (.ref fO) = true)
    (aP : PySem.W.nsIn K mainGlobals "part_word" = some (some (.ref fP)))
    (lP : K.lookup fP = some ⟨ocP, odP, .func (PySem.W.fnOf "part_word" "part_word" (defArgs sPartWord) (defBody sPartWord) (defScope sPartWord) .none kVP dcP pmP anP cdP ctP), slP⟩)
    (cP : PySem.W.codeIn K cdP "part_word" = true)
    (kP : PySem.W.keepIn K (.ref fP) = true)
    (aR : PySem.W.nsIn K mainGlobals "row_word" = some (some (.ref fR)))
    (lR : K.lookup fR = some ⟨ocR, odR, .func (PySem.W.fnOf "row_word" "row_word" (defArgs sRowWord) (defBody sRowWord) (defScope sRowWord) .none kVR dcR pmR anR cdR ctR), slR⟩)
    (cR : PySem.W.codeIn K cdR "row_word" = true)
    (kR : PySem.W.keepIn K (.ref fR) = true)
    (aT : PySem.W.nsIn K mainGlobals "row_table" = some (some (.ref fT)))
    (lT : K.lookup fT = some ⟨ocT, odT, .func (PySem.W.fnOf "row_table" "row_table" (defArgs sRowTable) (defBody sRowTable) (defScope sRowTable) .none kVT dcT pmT anT cdT ctT), slT⟩)
    (cT : PySem.W.codeIn K cdT "row_table" = true)
    (kT : PySem.W.keepIn K (.ref fT) = true)
    (aK : PySem.W.nsIn K mainGlobals "row_cost" = some (some (.ref fK)))
    (lK : K.lookup fK = some ⟨ocK, odK, .func (PySem.W.fnOf "row_cost" "row_cost" (defArgs sRowCost) (defBody sRowCost) (defScope sRowCost) .none kVK dcK pmK anK cdK ctK), slK⟩)
    (cK : PySem.W.codeIn K cdK "row_cost" = true)
    (kK : PySem.W.keepIn K (.ref fK) = true)
    (aI : PySem.W.nsIn K mainGlobals "is_rule" = some (some (.ref fI)))
    (lI : K.lookup fI = some ⟨ocI, odI, .func (PySem.W.fnOf "is_rule" "is_rule" (defArgs sIsRule) (defBody sIsRule) (defScope sIsRule) .none kVI dcI pmI anI cdI ctI), slI⟩)
    (cI : PySem.W.codeIn K cdI "is_rule" = true)
    (kI : PySem.W.keepIn K (.ref fI) = true)
    (aL : PySem.W.nsIn K mainGlobals "column" = some (some (.ref fL)))
    (lL : K.lookup fL = some ⟨ocL, odL, .func (PySem.W.fnOf "column" "column" (defArgs sColumn) (defBody sColumn) (defScope sColumn) .none kVL dcL pmL anL cdL ctL), slL⟩)
    (cL : PySem.W.codeIn K cdL "column" = true)
    (kL : PySem.W.keepIn K (.ref fL) = true)
    (aS : PySem.W.nsIn K mainGlobals "shortest_row" = some (some (.ref fS)))
    (lS : K.lookup fS = some ⟨ocS, odS, .func (PySem.W.fnOf "shortest_row" "shortest_row" (defArgs sShortestRow) (defBody sShortestRow) (defScope sShortestRow) .none kVS dcS pmS anS cdS ctS), slS⟩)
    (cS : PySem.W.codeIn K cdS "shortest_row" = true)
    (kS : PySem.W.keepIn K (.ref fS) = true)
    (aX : PySem.W.nsIn K mainGlobals "times_row" = some (some (.ref fX)))
    (lX : K.lookup fX = some ⟨ocX, odX, .func (PySem.W.fnOf "times_row" "times_row" (defArgs sTimesRow) (defBody sTimesRow) (defScope sTimesRow) .none kVX dcX pmX anX cdX ctX), slX⟩)
    (cX : PySem.W.codeIn K cdX "times_row" = true)
    (kX : PySem.W.keepIn K (.ref fX) = true)
    (alb : PySem.W.nsIn K mainGlobals "_law_begin" = some (some (.ref flb)))
    (llb : K.lookup flb = some ⟨oclb, odlb, .func (PySem.W.fnOf "_law_begin" "_law_begin" (defArgs sBegin) (defBody sBegin) (defScope sBegin) .none kVlb dclb pmlb anlb cdlb ctlb), sllb⟩)
    (clb : PySem.W.codeIn K cdlb "_law_begin" = true)
    (klb : PySem.W.keepIn K (.ref flb) = true)
    (alt : PySem.W.nsIn K mainGlobals "_law_take" = some (some (.ref flt)))
    (llt : K.lookup flt = some ⟨oclt, odlt, .func (PySem.W.fnOf "_law_take" "_law_take" (defArgs sTake) (defBody sTake) (defScope sTake) .none kVlt dclt pmlt anlt cdlt ctlt), sllt⟩)
    (clt : PySem.W.codeIn K cdlt "_law_take" = true)
    (klt : PySem.W.keepIn K (.ref flt) = true)
    (alp : PySem.W.nsIn K mainGlobals "_law_pick" = some (some (.ref flp)))
    (llp : K.lookup flp = some ⟨oclp, odlp, .func (PySem.W.fnOf "_law_pick" "_law_pick" (defArgs sPick) (defBody sPick) (defScope sPick) .none kVlp dclp pmlp anlp cdlp ctlp), sllp⟩)
    (clp : PySem.W.codeIn K cdlp "_law_pick" = true)
    (klp : PySem.W.keepIn K (.ref flp) = true)
    (ali : PySem.W.nsIn K mainGlobals "_law_bits" = some (some (.ref fli)))
    (lli : K.lookup fli = some ⟨ocli, odli, .func (PySem.W.fnOf "_law_bits" "_law_bits" (defArgs sBits) (defBody sBits) (defScope sBits) .none kVli dcli pmli anli cdli ctli), slli⟩)
    (cli : PySem.W.codeIn K cdli "_law_bits" = true)
    (kli : PySem.W.keepIn K (.ref fli) = true)
    (alo : PySem.W.nsIn K mainGlobals "_law_op" = some (some (.ref flo)))
    (llo : K.lookup flo = some ⟨oclo, odlo, .func (PySem.W.fnOf "_law_op" "_law_op" (defArgs sLawOp) (defBody sLawOp) (defScope sLawOp) .none kVlo dclo pmlo anlo cdlo ctlo), sllo⟩)
    (clo : PySem.W.codeIn K cdlo "_law_op" = true)
    (klo : PySem.W.keepIn K (.ref flo) = true)
    (ala : PySem.W.nsIn K mainGlobals "_law_part" = some (some (.ref fla)))
    (lla : K.lookup fla = some ⟨ocla, odla, .func (PySem.W.fnOf "_law_part" "_law_part" (defArgs sLawPart) (defBody sLawPart) (defScope sLawPart) .none kVla dcla pmla anla cdla ctla), slla⟩)
    (cla : PySem.W.codeIn K cdla "_law_part" = true)
    (kla : PySem.W.keepIn K (.ref fla) = true)
    (alr : PySem.W.nsIn K mainGlobals "_law_row_word" = some (some (.ref flr)))
    (llr : K.lookup flr = some ⟨oclr, odlr, .func (PySem.W.fnOf "_law_row_word" "_law_row_word" (defArgs sLawRowWord) (defBody sLawRowWord) (defScope sLawRowWord) .none kVlr dclr pmlr anlr cdlr ctlr), sllr⟩)
    (clr : PySem.W.codeIn K cdlr "_law_row_word" = true)
    (klr : PySem.W.keepIn K (.ref flr) = true)
    (ale : PySem.W.nsIn K mainGlobals "_law_table" = some (some (.ref fle)))
    (lle : K.lookup fle = some ⟨ocle, odle, .func (PySem.W.fnOf "_law_table" "_law_table" (defArgs sLawTable) (defBody sLawTable) (defScope sLawTable) .none kVle dcle pmle anle cdle ctle), slle⟩)
    (cle : PySem.W.codeIn K cdle "_law_table" = true)
    (kle : PySem.W.keepIn K (.ref fle) = true)
    (all : PySem.W.nsIn K mainGlobals "_law_longer" = some (some (.ref fll)))
    (lll : K.lookup fll = some ⟨ocll, odll, .func (PySem.W.fnOf "_law_longer" "_law_longer" (defArgs sLonger) (defBody sLonger) (defScope sLonger) .none kVll dcll pmll anll cdll ctll), slll⟩)
    (cll : PySem.W.codeIn K cdll "_law_longer" = true)
    (kll : PySem.W.keepIn K (.ref fll) = true)
    (alaw : PySem.W.nsIn K mainGlobals "law" = some (some (.ref flaw)))
    (llaw : K.lookup flaw = some ⟨oclaw, odlaw, .func (PySem.W.fnOf "law" "law" (defArgs sLaw) (defBody sLaw) (defScope sLaw) .none kVlaw dclaw pmlaw anlaw cdlaw ctlaw), sllaw⟩)
    (claw : PySem.W.codeIn K cdlaw "law" = true)
    (klaw : PySem.W.keepIn K (.ref flaw) = true)
    (aCls : PySem.W.nsIn K mainGlobals "Search" = some (some (.ref C)))
    (ami : PySem.W.findIn K (.ref C) "__init__" = some (some (.ref fmi)))
    (imi : PySem.W.isFn K (.ref fmi) = true)
    (lmi : K.lookup fmi = some ⟨ocmi, odmi, .func (PySem.W.fnOf "__init__" "Search.__init__" (defArgs sSInit) (defBody sSInit) (defScope sSInit) .none kVmi dcmi pmmi anmi cdmi ctmi), slmi⟩)
    (cmi : PySem.W.codeIn K cdmi "Search.__init__" = true)
    (kmi : PySem.W.keepIn K (.ref fmi) = true)
    (amt : PySem.W.findIn K (.ref C) "triples" = some (some (.ref fmt)))
    (imt : PySem.W.isFn K (.ref fmt) = true)
    (lmt : K.lookup fmt = some ⟨ocmt, odmt, .func (PySem.W.fnOf "triples" "Search.triples" (defArgs sTriples) (defBody sTriples) (defScope sTriples) .none kVmt dcmt pmmt anmt cdmt ctmt), slmt⟩)
    (cmt : PySem.W.codeIn K cdmt "Search.triples" = true)
    (kmt : PySem.W.keepIn K (.ref fmt) = true)
    (amg : PySem.W.findIn K (.ref C) "grown" = some (some (.ref fmg)))
    (img : PySem.W.isFn K (.ref fmg) = true)
    (lmg : K.lookup fmg = some ⟨ocmg, odmg, .func (PySem.W.fnOf "grown" "Search.grown" (defArgs sGrown) (defBody sGrown) (defScope sGrown) .none kVmg dcmg pmmg anmg cdmg ctmg), slmg⟩)
    (cmg : PySem.W.codeIn K cdmg "Search.grown" = true)
    (kmg : PySem.W.keepIn K (.ref fmg) = true)
    (amf : PySem.W.findIn K (.ref C) "find" = some (some (.ref fmf)))
    (imf : PySem.W.isFn K (.ref fmf) = true)
    (lmf : K.lookup fmf = some ⟨ocmf, odmf, .func (PySem.W.fnOf "find" "Search.find" (defArgs sFind) (defBody sFind) (defScope sFind) .none kVmf dcmf pmmf anmf cdmf ctmf), slmf⟩)
    (cmf : PySem.W.codeIn K cdmf "Search.find" = true)
    (kmf : PySem.W.keepIn K (.ref fmf) = true)
    (aml : PySem.W.findIn K (.ref C) "last" = some (some (.ref fml)))
    (iml : PySem.W.isFn K (.ref fml) = true)
    (lml : K.lookup fml = some ⟨ocml, odml, .func (PySem.W.fnOf "last" "Search.last" (defArgs sLast) (defBody sLast) (defScope sLast) .none kVml dcml pmml anml cdml ctml), slml⟩)
    (cml : PySem.W.codeIn K cdml "Search.last" = true)
    (kml : PySem.W.keepIn K (.ref fml) = true)
    (pgC : PySem.W.plainGet K C Str.empty = true)
    (hdC : PySem.W.hasDictIn K C = true)
    (poC : PySem.W.plainOver K C = true)
    (saC : PySem.W.findIn K (.ref C) "__setattr__" = some (some (.builtin "object.__setattr__")))
    (mkC : PySem.W.makesIn K C = true)
    (kcC : PySem.W.keepIn K (.ref C) = true)
    (n0 : PySem.W.findIn K (.ref C) "w" = some none)
    (n1 : PySem.W.findIn K (.ref C) "table" = some none)
    (n2 : PySem.W.findIn K (.ref C) "ops" = some none)
    (n3 : PySem.W.findIn K (.ref C) "numbers" = some none)
    (zint : PySem.W.nsIn K mainGlobals "int" = some none)
    (zmax : PySem.W.nsIn K mainGlobals "max" = some none)
    (zmin : PySem.W.nsIn K mainGlobals "min" = some none)
    (zrange : PySem.W.nsIn K mainGlobals "range" = some none)
    (zisinstance : PySem.W.nsIn K mainGlobals "isinstance" = some none)
    (ztuple : PySem.W.nsIn K mainGlobals "tuple" = some none)
    (zsum : PySem.W.nsIn K mainGlobals "sum" = some none)
    (zlen : PySem.W.nsIn K mainGlobals "len" = some none)
    (zzip : PySem.W.nsIn K mainGlobals "zip" = some none)
    (zall : PySem.W.nsIn K mainGlobals "all" = some none)
    (zlist : PySem.W.nsIn K mainGlobals "list" = some none)
    (zabs : PySem.W.nsIn K mainGlobals "abs" = some none)
    (aD : PySem.W.nsIn K mainGlobals "COSTS" = some (some (.ref dC)))
    (lD : K.lookup dC = some ⟨.type "dict", none, .dict esC nC, #[]⟩)
    (kD : PySem.W.KeysLit w.params esC.toList)
    (oD : (dC == sysModules) = false)
    (is_mul : PySem.W.nsIn K dC "mul" = some (some (.int 3 tmul)))
    (no_add : PySem.W.nsIn K dC "add" = some none)
    (no_sub : PySem.W.nsIn K dC "sub" = some none)
    (no_and : PySem.W.nsIn K dC "and" = some none)
    (no_or : PySem.W.nsIn K dC "or" = some none)
    (no_xor : PySem.W.nsIn K dC "xor" = some none)
    (no_shl : PySem.W.nsIn K dC "shl" = some none)
    (no_shr : PySem.W.nsIn K dC "shr" = some none)
    (no_lt : PySem.W.nsIn K dC "lt" = some none)
    (no_eq : PySem.W.nsIn K dC "eq" = some none)
    (aTO : PySem.W.nsIn K mainGlobals "TIMES_OPS" = some (some (.ref tO)))
    (lTO : K.lookup tO = some ⟨.type "tuple", otTO, .seq #[.str "add" t1, .str "sub" t2, .str "shl" t3] nTO, slTO⟩)
    (aMT : PySem.W.nsIn K mainGlobals "MOST_TIMES" = some (some (.int 3 tM)))
    : ∃ fd : FuncData, (∀ (s : Shared) (v : Value), BindsTo s fd ⟨[v], []⟩ [("script", v)]) ∧ ∀ base : Heap, K.In base → base.Ns mainGlobals mg → FnOk l.prog w K mg base CX0 8 fa fd ["script"] (spLaw K) := by
  have e := hfa.symm.trans (PySem.W.mg_of X G alaw)
  cases e
  have FW := fun_mk (st := sWordOf) lW cW kW
  have bW := FW.binds (ps := ["w", "number"]) fun _ _ _ _ _ _ us hl => match us, hl with | [_, _], _ => rfl
  have FM := fun_mk (st := sMoved) lM cM kM
  have bM := FM.binds (ps := ["w", "op", "a", "b"]) fun _ _ _ _ _ _ us hl => match us, hl with | [_, _, _, _], _ => rfl
  have FC := fun_mk (st := sCompared) lC cC kC
  have bC := FC.binds (ps := ["w", "op", "a", "b"]) fun _ _ _ _ _ _ us hl => match us, hl with | [_, _, _, _], _ => rfl
  have FJ := fun_mk (st := sJoined) lJ cJ kJ
  have bJ := FJ.binds (ps := ["op", "a", "b"]) fun _ _ _ _ _ _ us hl => match us, hl with | [_, _, _], _ => rfl
  have FO := fun_mk (st := sOperate) lO cO kO
  have bO := FO.binds (ps := ["w", "op", "a", "b"]) fun _ _ _ _ _ _ us hl => match us, hl with | [_, _, _, _], _ => rfl
  have FP := fun_mk (st := sPartWord) lP cP kP
  have bP := FP.binds (ps := ["w", "part", "x", "done"]) fun _ _ _ _ _ _ us hl => match us, hl with | [_, _, _, _], _ => rfl
  have FR := fun_mk (st := sRowWord) lR cR kR
  have bR := FR.binds (ps := ["w", "row", "x"]) fun _ _ _ _ _ _ us hl => match us, hl with | [_, _, _], _ => rfl
  have FT := fun_mk (st := sRowTable) lT cT kT
  have bT := FT.binds (ps := ["w", "row"]) fun _ _ _ _ _ _ us hl => match us, hl with | [_, _], _ => rfl
  have FK := fun_mk (st := sRowCost) lK cK kK
  have bK := FK.binds (ps := ["row"]) fun _ _ _ _ _ _ us hl => match us, hl with | [_], _ => rfl
  have FI := fun_mk (st := sIsRule) lI cI kI
  have bI := FI.binds (ps := ["w", "one", "other"]) fun _ _ _ _ _ _ us hl => match us, hl with | [_, _, _], _ => rfl
  have FL := fun_mk (st := sColumn) lL cL kL
  have bL := FL.binds (ps := ["w", "part", "columns"]) fun _ _ _ _ _ _ us hl => match us, hl with | [_, _, _], _ => rfl
  have FS := fun_mk (st := sShortestRow) lS cS kS
  have bS := FS.binds (ps := ["w", "table", "ops", "numbers", "most"]) fun _ _ _ _ _ _ us hl => match us, hl with | [_, _, _, _, _], _ => rfl
  have FX := fun_mk (st := sTimesRow) lX cX kX
  have bX := FX.binds (ps := ["w", "n"]) fun _ _ _ _ _ _ us hl => match us, hl with | [_, _], _ => rfl
  have Flb := fun_mk (st := sBegin) llb clb klb
  have blb := Flb.binds (ps := ["script"]) fun _ _ _ _ _ _ us hl => match us, hl with | [_], _ => rfl
  have Flt := fun_mk (st := sTake) llt clt klt
  have blt := Flt.binds (ps := ["d", "many"]) fun _ _ _ _ _ _ us hl => match us, hl with | [_, _], _ => rfl
  have Flp := fun_mk (st := sPick) llp clp klp
  have blp := Flp.binds (ps := ["d", "menu"]) fun _ _ _ _ _ _ us hl => match us, hl with | [_, _], _ => rfl
  have Fli := fun_mk (st := sBits) lli cli kli
  have bli := Fli.binds (ps := ["a", "b", "op"]) fun _ _ _ _ _ _ us hl => match us, hl with | [_, _, _], _ => rfl
  have Flo := fun_mk (st := sLawOp) llo clo klo
  have blo := Flo.binds (ps := ["w", "op", "a", "b"]) fun _ _ _ _ _ _ us hl => match us, hl with | [_, _, _, _], _ => rfl
  have Fla := fun_mk (st := sLawPart) lla cla kla
  have bla := Fla.binds (ps := ["w", "part", "x", "done"]) fun _ _ _ _ _ _ us hl => match us, hl with | [_, _, _, _], _ => rfl
  have Flr := fun_mk (st := sLawRowWord) llr clr klr
  have blr := Flr.binds (ps := ["w", "row", "x"]) fun _ _ _ _ _ _ us hl => match us, hl with | [_, _, _], _ => rfl
  have Fle := fun_mk (st := sLawTable) lle cle kle
  have ble := Fle.binds (ps := ["w", "row"]) fun _ _ _ _ _ _ us hl => match us, hl with | [_, _], _ => rfl
  have Fll := fun_mk (st := sLonger) lll cll kll
  have bll := Fll.binds (ps := ["rows", "ops", "numbers"]) fun _ _ _ _ _ _ us hl => match us, hl with | [_, _, _], _ => rfl
  have Flaw := fun_mk (st := sLaw) llaw claw klaw
  have blaw := Flaw.binds (ps := ["script"]) fun _ _ _ _ _ _ us hl => match us, hl with | [_], _ => rfl
  have Fmi := fun_mk (st := sSInit) lmi cmi kmi
  have bmi := Fmi.binds (ps := ["self", "w", "table", "ops", "numbers"]) fun _ _ _ _ _ _ us hl => match us, hl with | [_, _, _, _, _], _ => rfl
  have Fmt := fun_mk (st := sTriples) lmt cmt kmt
  have bmt := Fmt.binds (ps := ["self", "many"]) fun _ _ _ _ _ _ us hl => match us, hl with | [_, _], _ => rfl
  have Fmg := fun_mk (st := sGrown) lmg cmg kmg
  have bmg := Fmg.binds (ps := ["self", "rows"]) fun _ _ _ _ _ _ us hl => match us, hl with | [_, _], _ => rfl
  have Fmf := fun_mk (st := sFind) lmf cmf kmf
  have bmf := Fmf.binds (ps := ["self", "most"]) fun _ _ _ _ _ _ us hl => match us, hl with | [_, _], _ => rfl
  have Fml := fun_mk (st := sLast) lml cml kml
  have bml := Fml.binds (ps := ["self", "rows"]) fun _ _ _ _ _ _ us hl => match us, hl with | [_, _], _ => rfl
  have gW := PySem.W.mg_of X G aW
  have gM := PySem.W.mg_of X G aM
  have gC := PySem.W.mg_of X G aC
  have gJ := PySem.W.mg_of X G aJ
  have gO := PySem.W.mg_of X G aO
  have gP := PySem.W.mg_of X G aP
  have gR := PySem.W.mg_of X G aR
  have gT := PySem.W.mg_of X G aT
  have gK := PySem.W.mg_of X G aK
  have gI := PySem.W.mg_of X G aI
  have gL := PySem.W.mg_of X G aL
  have gS := PySem.W.mg_of X G aS
  have gX := PySem.W.mg_of X G aX
  have glb := PySem.W.mg_of X G alb
  have glt := PySem.W.mg_of X G alt
  have glp := PySem.W.mg_of X G alp
  have gli := PySem.W.mg_of X G ali
  have glo := PySem.W.mg_of X G alo
  have gla := PySem.W.mg_of X G ala
  have glr := PySem.W.mg_of X G alr
  have gle := PySem.W.mg_of X G ale
  have gll := PySem.W.mg_of X G all
  have glaw := PySem.W.mg_of X G alaw
  have mint_ := PySem.W.mg_none_of X G zint
  have mmax_ := PySem.W.mg_none_of X G zmax
  have mmin_ := PySem.W.mg_none_of X G zmin
  have mrange_ := PySem.W.mg_none_of X G zrange
  have misinstance_ := PySem.W.mg_none_of X G zisinstance
  have mtuple_ := PySem.W.mg_none_of X G ztuple
  have msum_ := PySem.W.mg_none_of X G zsum
  have mlen_ := PySem.W.mg_none_of X G zlen
  have mzip_ := PySem.W.mg_none_of X G zzip
  have mall_ := PySem.W.mg_none_of X G zall
  have mlist_ := PySem.W.mg_none_of X G zlist
  have mabs_ := PySem.W.mg_none_of X G zabs
  have T : SCl K mg C := ⟨⟨pgC, hdC, poC, saC⟩, n0, n1, n2, n3, PySem.W.mg_of X G aCls⟩
  have Co : Costs K w mg dC := ⟨PySem.W.mg_of X G aD, ⟨esC, nC, lD, kD, oD⟩, ⟨tmul, is_mul⟩, fun o ho hm => by cases o <;> first | exact no_add | exact no_sub | exact no_and | exact no_or | exact no_xor | exact no_shl | exact no_shr | exact no_lt | exact no_eq | (exact absurd rfl hm) | (cases ho)⟩
  have TO : ∀ H : Hp, PV K H (.ref tO) (opsD [.add, .sub, .shl]) := fun H => .tup (xs := [.str "add", .str "sub", .str "shl"]) (.inr ⟨_, _, _, lTO, rfl, rfl, by show 3 ≤ sizeLine; decide, .cons ⟨_, rfl⟩ (.cons ⟨_, rfl⟩ (.cons ⟨_, rfl⟩ .nil))⟩) (.cons (.str _) (.cons (.str _) (.cons (.str _) .nil)))
  refine ⟨PySem.W.fnOf "law" "law" (defArgs sLaw) (defBody sLaw) (defScope sLaw) .none kVlaw dclaw pmlaw anlaw cdlaw ctlaw, fun s v => .of_eq rfl, fun base _ _ => ?_⟩
  have GW : FnOk l.prog w K mg base CX0 1 fW _ ["w", "number"] (spWordOf K) := ok_word_of FW
  have GO : FnOk l.prog w K mg base CX0 3 fO _ ["w", "op", "a", "b"] (spOperate K) := ok_operate FO FW bW gW FM bM gM FC bC gC FJ bJ gJ mint_
  have GP : FnOk l.prog w K mg base CX0 2 fP _ ["w", "part", "x", "done"] (spPart K) := ok_part_word FP FW bW gW misinstance_ mtuple_
  have GR : FnOk l.prog w K mg base CX0 4 fR _ ["w", "row", "x"] (spRow K) := ok_row_word FR GO kO bO gO GP kP bP gP
  have GT : FnOk l.prog w K mg base CX0 5 fT _ ["w", "row"] (spTable K) := ok_table FT (.inl ⟨rfl, rfl⟩) GR kR bR gR mtuple_ mrange_
  have GK : FnOk l.prog w K mg base CX0 1 fK _ ["row"] (spCost K) := ok_row_cost FK Co msum_
  have GI : FnOk l.prog w K mg base CX0 6 fI _ ["w", "one", "other"] (spIsRule K) := ok_is_rule FI GT kT bT gT
  have GL : FnOk l.prog w K mg base CX0 2 fL _ ["w", "part", "columns"] (spColumn K) := ok_column FL FW bW gW misinstance_ mtuple_ mrange_
  have Gmi : FnOk l.prog w K mg base CX0 1 fmi _ ["self", "w", "table", "ops", "numbers"] (spSInit K C) := ok_sinit Fmi T
  have Gmt : FnOk l.prog w K mg base CX0 1 fmt _ ["self", "many"] (spTriples K C) := ok_triples Fmt T mlist_ mrange_
  have Gmg : FnOk l.prog w K mg base CX0 4 fmg _ ["self", "rows"] (spGrown K C) := ok_grown Fmg T ⟨amt, imt, kmt⟩ Gmt bmt GL kL bL gL GO kO bO gO mlen_ mtuple_ mzip_
  have Gml : FnOk l.prog w K mg base CX0 4 fml _ ["self", "rows"] (spLast K C) := ok_last Fml T ⟨amt, imt, kmt⟩ Gmt bmt GL kL bL gL GO kO bO gO mlen_ mtuple_ mzip_ mall_
  have Gmf : FnOk l.prog w K mg base CX0 5 fmf _ ["self", "most"] (spFind K C) := ok_find Fmf T ⟨amg, img, kmg⟩ Gmg bmg ⟨aml, iml, kml⟩ Gml bml mtuple_ mrange_
  have GS : FnOk l.prog w K mg base CX0 6 fS _ ["w", "table", "ops", "numbers", "most"] (spShort K) := ok_shortest_row FS T ⟨mkC, ami, imi, kcC⟩ Gmi bmi ⟨amf, imf, kmf⟩ Gmf bmf
  have GX : FnOk l.prog w K mg base CX0 7 fX _ ["w", "n"] (spTimes K) := ok_times FX GW kW bW gW GS kS bS gS (PySem.W.mg_of X G aTO) TO (PySem.W.mg_of X G aMT) mtuple_ mrange_
  have Glb : FnOk l.prog w K mg base CX0 1 flb _ ["script"] (spBegin K) := ok_begin Flb mint_ mlist_
  have Glt : FnOk l.prog w K mg base CX0 1 flt _ ["d", "many"] spTake := ok_take Flt mint_ mlen_ mabs_
  have Glp : FnOk l.prog w K mg base CX0 2 flp _ ["d", "menu"] (spPick K) := ok_pick Flp Flt blt glt mint_ mlen_ mabs_
  have Glo : FnOk l.prog w K mg base CX0 2 flo _ ["w", "op", "a", "b"] (spOperate K) := ok_lawop Flo Fli bli gli mmax_ mmin_ mrange_ mint_
  have Gla : FnOk l.prog w K mg base CX0 1 fla _ ["w", "part", "x", "done"] (spPart K) := ok_law_part Fla misinstance_ mtuple_
  have Glr : FnOk l.prog w K mg base CX0 3 flr _ ["w", "row", "x"] (spRow K) := ok_law_row_word Flr Glo klo blo glo Gla kla bla gla mlen_
  have Gle : FnOk l.prog w K mg base CX0 4 fle _ ["w", "row"] (spTable K) := ok_table Fle (.inr ⟨rfl, rfl⟩) Glr klr blr glr mtuple_ mrange_
  have Gll : FnOk l.prog w K mg base CX0 1 fll _ ["rows", "ops", "numbers"] (spLonger K) := ok_longer Fll mlist_ mrange_ mlen_
  exact ok_law Flaw
    { fB := flb, fdB := _, GB := Glb, kB := klb, bB := blb, gB := glb
      fT := flt, fdT := _, GT := Glt, kT := klt, bT := blt, gT := glt
      fP := flp, fdP := _, GP := Glp, kP := klp, bP := blp, gP := glp
      fLT := fle, fdLT := _, GLT := Gle, kLT := kle, bLT := ble, gLT := gle
      fRW := fR, fdRW := _, GRW := GR, kRW := kR, bRW := bR, gRW := gR
      fLR := flr, fdLR := _, GLR := Glr, kLR := klr, bLR := blr, gLR := glr
      fRT := fT, fdRT := _, GRT := GT, kRT := kT, bRT := bT, gRT := gT
      fRC := fK, fdRC := _, GRC := GK, kRC := kK, bRC := bK, gRC := gK
      fL := fll, fdL := _, GL := Gll, kL := kll, bL := bll, gL := gll
      fS := fS, fdS := _, GS := GS, kS := kS, bS := bS, gS := gS
      fI := fI, fdI := _, GI := GI, kI := kI, bI := bI, gI := gI
      fM := fX, fdM := _, GM := GX, kM := kX, bM := bX, gM := gX
      nLen := mlen_, nRange := mrange_, nList := mlist_, nTuple := mtuple_, nSum := msum_ }
theorem walk {l : PySem.W.OpenLaw} {q : Program} {loose : List Str} {XP : (Str → Option Value) → Heap → Prop} {YP : World → Heap → Prop} {d : DefRec} {K : Params → PySem.W.Frag} (hn : l.most = some 63) (hdf : d.params.defaults = [])
    (hY : ∀ (w : World) (h : Heap), YP w h → (K w.params).In h)
    (F : ∀ (w : World) (mg : Str → Option Value) (fa : Addr) (h : Heap), (K w.params).In h → h.Ns mainGlobals mg → mg d.name = some (.ref fa) →
      ∃ fd : FuncData, (∀ (s : Shared) (u : Value), BindsTo s fd ⟨[u], []⟩ [("script", u)]) ∧ ∀ base : Heap, (K w.params).In base → base.Ns mainGlobals mg → FnOk l.prog w (K w.params) mg base CX0 8 fa fd ["script"] (spLaw (K w.params))) :
    PySem.W.WalkO q loose XP YP l.row.toRowW d [] (fun f vs => PySem.call f vs) :=
  L2.walk_of (n := 63) (k := 8) (x := "script") (CX := fun _ => CX0) (sp := fun w => spLaw (K w.params)) hn (by decide) hdf ⟨rfl, by decide, by decide⟩ hY F (fun _ _ a ns hl _ hS => ⟨a, ns, rfl, hS, hl, fun _ => rfl⟩) fun _ _ _ _ _ z => z
end K34
open PySem PySem.W PyProof.Rows
set_option maxRecDepth 100000 in
set_option maxHeartbeats 0 in
theorem PySem.Challenge.cw_phiworks_k34_whole_short_rows_holds : PySem.Challenge.rw_phiworks_k34_whole_short_rows.Holds := by
  w_on; o_law; k_head; (case hw => w_witness2)
  k_fill
  refine K34.walk (l := PySem.Challenge.rw_phiworks_k34_whole_short_rows) rfl rfl (fun w h Y => PySem.W.kIn_of Y) ?F
  case F =>
    intro w mg fa h KX G hmg
    refine' K34.all_mk KX G hmg ?aW ?lW ?cW ?kW ?aM ?lM ?cM ?kM ?aC ?lC ?cC ?kC ?aJ ?lJ ?cJ ?kJ ?aO ?lO ?cO ?kO ?aP ?lP ?cP ?kP ?aR ?lR ?cR ?kR ?aT ?lT ?cT ?kT ?aK ?lK ?cK ?kK ?aI ?lI ?cI ?kI ?aL ?lL ?cL ?kL ?aS ?lS ?cS ?kS ?aX ?lX ?cX ?kX ?alb ?llb ?clb ?klb ?alt ?llt ?clt ?klt ?alp ?llp ?clp ?klp ?ali ?lli ?cli ?kli ?alo ?llo ?clo ?klo ?ala ?lla ?cla ?kla ?alr ?llr ?clr ?klr ?ale ?lle ?cle ?kle ?all ?lll ?cll ?kll ?alaw ?llaw ?claw ?klaw ?aCls ?ami ?imi ?lmi ?cmi ?kmi ?amt ?imt ?lmt ?cmt ?kmt ?amg ?img ?lmg ?cmg ?kmg ?amf ?imf ?lmf ?cmf ?kmf ?aml ?iml ?lml ?cml ?kml ?pgC ?hdC ?poC ?saC ?mkC ?kcC ?n0 ?n1 ?n2 ?n3 ?zint ?zmax ?zmin ?zrange ?zisinstance ?ztuple ?zsum ?zlen ?zzip ?zall ?zlist ?zabs ?aD ?lD ?kD ?oD ?is_mul ?no_add ?no_sub ?no_and ?no_or ?no_xor ?no_shl ?no_shr ?no_lt ?no_eq ?aTO ?lTO ?aMT
    (case aW => k_is)
    (case lW => k_is)
    (case cW => k_is)
    (case kW => k_is)
    (case aM => k_is)
    (case lM => k_is)
    (case cM => k_is)
    (case kM => k_is)
    (case aC => k_is)
    (case lC => k_is)
    (case cC => k_is)
    (case kC => k_is)
    (case aJ => k_is)
    (case lJ => k_is)
    (case cJ => k_is)
    (case kJ => k_is)
    (case aO => k_is)
    (case lO => k_is)
    (case cO => k_is)
    (case kO => k_is)
    (case aP => k_is)
    (case lP => k_is)
    (case cP => k_is)
    (case kP => k_is)
    (case aR => k_is)
    (case lR => k_is)
    (case cR => k_is)
    (case kR => k_is)
    (case aT => k_is)
    (case lT => k_is)
    (case cT => k_is)
    (case kT => k_is)
    (case aK => k_is)
    (case lK => k_is)
    (case cK => k_is)
    (case kK => k_is)
    (case aI => k_is)
    (case lI => k_is)
    (case cI => k_is)
    (case kI => k_is)
    (case aL => k_is)
    (case lL => k_is)
    (case cL => k_is)
    (case kL => k_is)
    (case aS => k_is)
    (case lS => k_is)
    (case cS => k_is)
    (case kS => k_is)
    (case aX => k_is)
    (case lX => k_is)
    (case cX => k_is)
    (case kX => k_is)
    (case alb => k_is)
    (case llb => k_is)
    (case clb => k_is)
    (case klb => k_is)
    (case alt => k_is)
    (case llt => k_is)
    (case clt => k_is)
    (case klt => k_is)
    (case alp => k_is)
    (case llp => k_is)
    (case clp => k_is)
    (case klp => k_is)
    (case ali => k_is)
    (case lli => k_is)
    (case cli => k_is)
    (case kli => k_is)
    (case alo => k_is)
    (case llo => k_is)
    (case clo => k_is)
    (case klo => k_is)
    (case ala => k_is)
    (case lla => k_is)
    (case cla => k_is)
    (case kla => k_is)
    (case alr => k_is)
    (case llr => k_is)
    (case clr => k_is)
    (case klr => k_is)
    (case ale => k_is)
    (case lle => k_is)
    (case cle => k_is)
    (case kle => k_is)
    (case all => k_is)
    (case lll => k_is)
    (case cll => k_is)
    (case kll => k_is)
    (case alaw => k_is)
    (case llaw => k_is)
    (case claw => k_is)
    (case klaw => k_is)
    (case aCls => k_is)
    (case ami => k_is)
    (case imi => k_is)
    (case lmi => k_is)
    (case cmi => k_is)
    (case kmi => k_is)
    (case amt => k_is)
    (case imt => k_is)
    (case lmt => k_is)
    (case cmt => k_is)
    (case kmt => k_is)
    (case amg => k_is)
    (case img => k_is)
    (case lmg => k_is)
    (case cmg => k_is)
    (case kmg => k_is)
    (case amf => k_is)
    (case imf => k_is)
    (case lmf => k_is)
    (case cmf => k_is)
    (case kmf => k_is)
    (case aml => k_is)
    (case iml => k_is)
    (case lml => k_is)
    (case cml => k_is)
    (case kml => k_is)
    (case pgC => k_is)
    (case hdC => k_is)
    (case poC => k_is)
    (case saC => k_is)
    (case mkC => k_is)
    (case kcC => k_is)
    (case n0 => k_is)
    (case n1 => k_is)
    (case n2 => k_is)
    (case n3 => k_is)
    (case zint => k_is)
    (case zmax => k_is)
    (case zmin => k_is)
    (case zrange => k_is)
    (case zisinstance => k_is)
    (case ztuple => k_is)
    (case zsum => k_is)
    (case zlen => k_is)
    (case zzip => k_is)
    (case zall => k_is)
    (case zlist => k_is)
    (case zabs => k_is)
    (case aD => k_is)
    (case lD => k_is)
    (case kD => k_keys)
    (case oD => decide)
    (case is_mul => k_is)
    (case no_add => k_is)
    (case no_sub => k_is)
    (case no_and => k_is)
    (case no_or => k_is)
    (case no_xor => k_is)
    (case no_shl => k_is)
    (case no_shr => k_is)
    (case no_lt => k_is)
    (case no_eq => k_is)
    (case aTO => k_is)
    (case lTO => k_is)
    (case aMT => k_is)
