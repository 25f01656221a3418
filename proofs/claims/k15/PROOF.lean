import PyProof.Rows.All
import Wide.All
import OpenK.AllK
import Wide.FinOn
import HandS.ForMost
import HandS.WideBits
import HandS.Conv
import HandS.IsInst
import HandS.RaiseMore
import HandS.SortInts
import HandS.Style
import HandS.Codes
import KE.KEqSeq
import PySem.Challenge.RW_joinedasks_k15_whole_again
set_option Elab.async false
set_option linter.all false
set_option maxRecDepth 100000
set_option maxHeartbeats 4000000
set_option exponentiation.threshold 100000
namespace Toy
open PySem PySem.Spec PyProof.Rows L2
/-- a def of the text stands behind its name -/
structure Df (K : PySem.W.Frag) (mg : Str → Option Value) (x : Str) (st : Stmt) (ps : List Str) : Prop where
  ex : ∃ f fd, Fun K x x st f fd ∧ mg x = some (.ref f) ∧ Binds K fd ps []
/-- .. and keeps a promise -/
structure Dn (P : Program) (w : World) (K : PySem.W.Frag) (mg : Str → Option Value) (base : Heap) (k : Nat) (x : Str) (ps : List Str) (sp : Sp) : Prop where
  ex : ∃ f fd, FnOk P w K mg base CX0 k f fd ps sp ∧ PySem.W.keepIn K (.ref f) = true ∧ mg x = some (.ref f) ∧ Binds K fd ps []
theorem Df.of {K : PySem.W.Frag} {mg : Str → Option Value} {x : Str} {st : Stmt} {ps : List Str} {f : Addr} {oc : Value} {od an : Option Addr} {osl : Array (Option Value)} {kV doc pm cdv ct : Value}
    (l : K.lookup f = some ⟨oc, od, .func (PySem.W.fnOf x x (defArgs st) (defBody st) (defScope st) .none kV doc pm an cdv ct), osl⟩) (c : PySem.W.codeIn K cdv x = true) (k : PySem.W.keepIn K (.ref f) = true) (m : mg x = some (.ref f))
    (h : ∀ (kV doc pm : Value) (an : Option Addr) (cdv ct : Value) (us : List Value), us.length = ps.length → bindArgs (PySem.W.fnOf x x (defArgs st) (defBody st) (defScope st) .none kV doc pm an cdv ct) ⟨us, []⟩ = pure (ps.zip us)) : Df K mg x st ps :=
  ⟨_, _, fun_mk l c k, m, (fun_mk l c k).binds h⟩
theorem Df.ok {P : Program} {w : World} {K : PySem.W.Frag} {mg : Str → Option Value} {base : Heap} {k : Nat} {x : Str} {st : Stmt} {ps : List Str} {sp : Sp} (D : Df K mg x st ps)
    (h : ∀ f fd, Fun K x x st f fd → FnOk P w K mg base CX0 k f fd ps sp) : Dn P w K mg base k x ps sp := by
  obtain ⟨f, fd, F, m, b⟩ := D.ex
  exact ⟨f, fd, h f fd F, F.kp, m, b⟩
section
variable {X : Cx} {x : Str} {ps : List Str} {sp : Sp} {k : Nat} {p pos : Pos} {e : Expr} {es : List Expr} {t : TA}
theorem pe_cD (D : Dn X.prog X.w X.K X.mg X.base k x ps sp) (hr : Room k X.A) (hg : Gl X x) (ha : PA X (e :: es) t) (hdb : (x == ("__debug__" : Str)) = false := by decide)
    (he : starEach (e :: es) X.env = (false, eval e X.env) :: starEach es X.env := by rfl) (hpl : (backTo pos (starEach es X.env)).any (·.1) = false := by rfl) : PE X (.Call (.Name x p) (e :: es) [] pos) (tCall sp [] E0 t) := by
  obtain ⟨f, fd, F, hk, hm, hb⟩ := D.ex
  exact pe_call F hr hg hm hk hb .nil pass0 ha hdb he hpl
theorem pe_cD0 (D : Dn X.prog X.w X.K X.mg X.base k x ps sp) (hr : Room k X.A) (hg : Gl X x) (hdb : (x == ("__debug__" : Str)) = false := by decide) : PE X (.Call (.Name x p) [] [] pos) (tCall sp [] E0 tNil) := by
  obtain ⟨f, fd, F, hk, hm, hb⟩ := D.ex
  exact pe_call0 F hr hg hm hk hb .nil pass0 hdb
end
/-- what was tracked stays, but for one object -/
def But (p : Addr) (H H' : Hp) : Prop := ∀ b o, b ≠ p → H b = some o → H' b = some o
theorem But.refl {p : Addr} {H : Hp} : But p H H := fun _ _ _ h => h
theorem But.trans {p : Addr} {H H1 H2 : Hp} (a : But p H H1) (b : But p H1 H2) : But p H H2 := fun c o n h => b c o n (a c o n h)
theorem But.free {p : Addr} {H H' : Hp} (e : But p H H') {l : Addr} (n : l ≠ p) (h : H' l = Option.none) : H l = Option.none := by
  cases q : H l with
  | none => rfl
  | some o =>
    rw [e l o n q] at h
    cases h
theorem same_but {p : Addr} {H H' : Hp} (a : Same H H') : But p H H' := fun c o _ h => a c o h
theorem But.upd {p : Addr} {H : Hp} {o : HO} : But p H (upd H p o) := fun b u n h => by rw [upd_ne n]; exact h
theorem same_new {H : Hp} {p : Addr} (h : H p = none) (o : HO) : Same H (upd H p o) := fun b u q => by rw [upd_ne (ne_of_none q h)]; exact q
theorem but_tup {p : Addr} {K : PySem.W.Frag} {H H' : Hp} {a : Addr} {xs ys : List V} (e : But p H H') (hp : H p = some (.lst ys)) (h : SqT K H a xs) : SqT K H' a xs := by
  rcases h with (h | ⟨o, h⟩) | h
  · exact .inl (.inl (e _ _ (ne_of h hp (by intro z; cases z)) h))
  · exact .inl (.inr ⟨o, e _ _ (ne_of h hp (by intro z; cases z)) h⟩)
  · exact .inr h
theorem same_tup {K : PySem.W.Frag} {H H' : Hp} {a : Addr} {xs : List V} (e : Same H H') (h : SqT K H a xs) : SqT K H' a xs := by
  rcases h with (h | ⟨o, h⟩) | h
  · exact .inl (.inl (e _ _ h))
  · exact .inl (.inr ⟨o, e _ _ h⟩)
  · exact .inr h
/-- the script stays -/
theorem but_seq {p : Addr} {K : PySem.W.Frag} {H H' : Hp} {a : Addr} {xs : List V} (e : But p H H') (n : a ≠ p) (h : SqL K H a xs) : SqL K H' a xs := by
  rcases h with (h | ⟨o, h⟩) | h
  · exact .inl (.inl (e _ _ n h))
  · exact .inl (.inr ⟨o, e _ _ n h⟩)
  · exact .inr h
theorem small {n : Nat} (h : n ≤ 1000) : n ≤ sizeLine := Nat.le_of_lt (small1000 h)
theorem log_lt {i : Int} {n : Nat} (h0 : 0 < n) (h : i.natAbs < 2 ^ n) : i.natAbs.log2 < n := PySem.Flt.log2_lt_of h0 h
theorem divp_small {i j : Int} (hj : 0 < j) (h : j < 2 ^ 8000) : CDivP i j := by
  refine ⟨hj, PyProof.noPylong_of_log2 ?_⟩
  exact Nat.lt_trans (log_lt (n := 8000) (by decide) (by omega)) (by decide)
end Toy
namespace Toy
open PySem PySem.Spec PyProof.Rows L2
theorem ifT {c : Bool} {A B : Prop} (hc : c = true) (h : A) : if c = true then A else B := by rw [if_pos hc]; exact h
theorem ifF {c : Bool} {A B : Prop} (hc : c = false) (h : B) : if c = true then A else B := by rw [hc]; exact iteF h
theorem pj {j : Int} (h : decide ((0 : Int) < j) = true := by decide) : 0 < j := of_decide_eq_true h
theorem sz {xs : List V} (h : Nat.ble xs.length 1000 = true := by rfl) : xs.length ≤ sizeLine := small (Nat.le_of_ble_eq_true h)
theorem but_same {p : Addr} {H H1 H2 : Hp} (n : H p = none) (a : Same H H1) (b : But p H1 H2) : Same H H2 := fun c o h => b c o (ne_of_none h n) (a c o h)
/-- two ways of a value meet -/
theorem ifE {ta tb : TE} {σ : L2.St} {H : Hp} {Q : VK} {b : Bool} (R : V → Hp → Prop) (h : ∀ v H', R v H' → Q v H') (h1 : b = true → ∀ Q' : VK, (∀ v H', R v H' → Q' v H') → ta σ H Q') (h2 : b = false → ∀ Q' : VK, (∀ v H', R v H' → Q' v H') → tb σ H Q') :
    if b = true then ta σ H Q else tb σ H Q := by
  cases b with
  | true => exact iteT (h1 rfl Q h)
  | false => exact iteF (h2 rfl Q h)
theorem mulx {i j : Int} (a b : Nat) (ha : i.natAbs < 2 ^ a) (hb : j.natAbs < 2 ^ b) (h : a + b ≤ 134217728 := by decide) : CMulX i j := mulx_ok ha hb h
end Toy
namespace Toy
open PySem PySem.Spec PyProof.Rows L2
theorem qi {Q : VK} {H : Hp} {a b : Int} (q : Q (.int a) H) (e : a = b) : Q (.int b) H := e ▸ q
end Toy
namespace Toy
open PySem PySem.Spec PyProof.Rows L2
/-- the written part by its letter -/
theorem kk {α : Sort _} {P : α → Prop} {F : PySem.W.Frag → α} {K0 K : PySem.W.Frag} (h : P (F K0)) (e : K0 = K := by rfl) : P (F K) := e ▸ h
def rLen (K : PySem.W.Frag) : List V → Hp → VK → Prop := fun xs H Q => ∃ p ys, xs = [.ref p] ∧ (SqL K H p ys ∨ SqT K H p ys) ∧ Q (.int ys.length) H
theorem lenK {X : Cx} {K : PySem.W.Frag} (e : X.K = K := by rfl) : CallR X (.builtin "len") (rLen K) := by cases e; exact call_len_seq
def rLstOf (K : PySem.W.Frag) : List V → Hp → VK → Prop := fun xs H Q => ∃ p ys, xs = [.ref p] ∧ (SqL K H p ys ∨ SqT K H p ys) ∧ ∀ l, H l = none → Q (.ref l) (upd H l (.lst ys))
theorem lstOfK {X : Cx} {K : PySem.W.Frag} (e : X.K = K := by rfl) : CallR X (.type "list") (rLstOf K) := by cases e; exact call_list_of
def rTupOf (K : PySem.W.Frag) : List V → Hp → VK → Prop := fun xs H Q => ∃ p ys, xs = [.ref p] ∧ ((SqL K H p ys ∧ ∀ l, H l = none → Q (.ref l) (upd H l (.tup ys))) ∨ (SqT K H p ys ∧ Q (.ref p) H))
theorem tupOfK {X : Cx} {K : PySem.W.Frag} (e : X.K = K := by rfl) : CallR X (.type "tuple") (rTupOf K) := by cases e; exact call_tuple_of
theorem dec_ne {α : Type} [DecidableEq α] {a b : α} (h : a = b) : (!decide (a = b)) = false := by rw [decide_eq_true h] <;> rfl
end Toy
namespace Toy
open PySem PySem.Spec PyProof.Rows L2
/-- a tuple of the written part; a tuple that never changes -/
def KTup (K : PySem.W.Frag) (a : Addr) (xs : List V) : Prop := ∃ (o : Obj) (its : Array Value) (n : Nat), K.lookup a = some o ∧ o.cls = .type "tuple" ∧ o.data = .seq its n ∧ its.size ≤ sizeLine ∧ Vals xs its.toList
def TupAt (K : PySem.W.Frag) (H : Hp) (a : Addr) (xs : List V) : Prop := H a = some (.tup xs) ∨ KTup K a xs
theorem TupAt.sq {K : PySem.W.Frag} {H : Hp} {a : Addr} {xs : List V} (h : TupAt K H a xs) : SqT K H a xs := by
  rcases h with h | h
  · exact SqT.of h
  · exact .inr h
theorem TupAt.ty {K : PySem.W.Frag} {H : Hp} {a : Addr} {xs : List V} (h : TupAt K H a xs) : TyX K H (.ref a) (.type "tuple") := by
  rcases h with h | ⟨o, its, n, h1, h2, _⟩
  · exact .base (.tup h)
  · exact .kTuple h1 h2
theorem TupAt.same {K : PySem.W.Frag} {H H' : Hp} {a : Addr} {xs : List V} (e : Same H H') (h : TupAt K H a xs) : TupAt K H' a xs := h.imp (e _ _) id
theorem TupAt.but {K : PySem.W.Frag} {H H' : Hp} {a p : Addr} {xs ys : List V} (e : But p H H') (hp : H p = some (.lst ys)) (h : TupAt K H a xs) : TupAt K H' a xs := h.imp (fun h => e _ _ (ne_of h hp (by intro z; cases z)) h) id
end Toy
namespace Toy
open PySem PySem.Spec PyProof.Rows L2
theorem ints_dp {K : PySem.W.Frag} {H : Hp} : ∀ ns : List Int, DpAll K H (ns.map V.int) (ns.map PyData.int)
  | [] => .nil
  | n :: r => .cons (.int n) (ints_dp r)
theorem ints_sh (ns : List Int) : SeqAt.shaped (.list (ns.map PyData.int)) = true := PySem.W.ke_shaped_ints ns
theorem ints_refl (ns : List Int) : PyData.eqv (.list (ns.map PyData.int)) (.list (ns.map PyData.int)) = true := SeqAt.eqv_refl _ (SeqAt.canLay_of_shaped (ints_sh ns))
theorem lst_dp {K : PySem.W.Frag} {H : Hp} {a : Addr} {ns : List Int} (h : SqL K H a (ns.map V.int)) : Dp K H (.ref a) (.list (ns.map PyData.int)) := .lst h (ints_dp ns)
theorem tupI_dp {K : PySem.W.Frag} {H : Hp} {a : Addr} {ns : List Int} (h : SqT K H a (ns.map V.int)) : Dp K H (.ref a) (.tuple (ns.map PyData.int)) := .tup h (ints_dp ns)
theorem tupI_sh (ns : List Int) : SeqAt.shaped (.tuple (ns.map PyData.int)) = true := ints_sh ns
theorem tupI_refl (ns : List Int) : PyData.eqv (.tuple (ns.map PyData.int)) (.tuple (ns.map PyData.int)) = true := SeqAt.eqv_refl _ (SeqAt.canLay_of_shaped (tupI_sh ns))
theorem cut_map (us : List Int) (lo hi : Option Int) : ∃ ws : List Int, cutV (us.map V.int) lo hi = ws.map V.int ∧ ws.length ≤ us.length := by
  refine ⟨(us.drop (HT.sIx (us.map V.int).length 0 lo)).take (HT.sIx (us.map V.int).length (us.map V.int).length hi - HT.sIx (us.map V.int).length 0 lo), ?_, ?_⟩
  · unfold cutV; rw [List.map_take, List.map_drop]
  · rw [List.length_take, List.length_drop]; omega
theorem at_map {us : List Int} {i : Nat} {y : V} (h : (us.map V.int)[i]? = some y) : ∃ x : Int, y = .int x ∧ us[i]? = some x := by
  rw [List.getElem?_map] at h
  cases e : us[i]? with
  | none => rw [e] at h; cases h
  | some x => rw [e] at h; exact ⟨x, (Option.some.inj h).symm, rfl⟩
end Toy
namespace Toy
open PySem L2
def top (i : Nat) : Stmt := PySem.Challenge.pw_joinedasks_k15_whole_again.main.body.getD i (.Pass ⟨0, 0, 0, 0⟩)
abbrev s_is_whole : Stmt := top 5
theorem sc_is_whole : FnScope ["thing"] ["thing"] (defScope s_is_whole) := ⟨rfl, rfl, rfl, by decide +kernel, rfl, by decide +kernel, by decide +kernel⟩
abbrev s_is_row_of : Stmt := top 6
theorem sc_is_row_of : FnScope ["thing", "many"] ["thing", "many"] (defScope s_is_row_of) := ⟨rfl, rfl, rfl, by decide +kernel, rfl, by decide +kernel, by decide +kernel⟩
abbrev s_want_whole : Stmt := top 7
theorem sc_want_whole : FnScope ["thing"] ["thing"] (defScope s_want_whole) := ⟨rfl, rfl, rfl, by decide +kernel, rfl, by decide +kernel, by decide +kernel⟩
abbrev s_want_from : Stmt := top 8
theorem sc_want_from : FnScope ["thing", "least"] ["thing", "least"] (defScope s_want_from) := ⟨rfl, rfl, rfl, by decide +kernel, rfl, by decide +kernel, by decide +kernel⟩
abbrev s_is_end : Stmt := top 11
theorem sc_is_end : FnScope ["thing"] ["thing"] (defScope s_is_end) := ⟨rfl, rfl, rfl, by decide +kernel, rfl, by decide +kernel, by decide +kernel⟩
abbrev s_is_deed : Stmt := top 12
theorem sc_is_deed : FnScope ["thing", "add", "low", "high"] ["thing"] (defScope s_is_deed) := ⟨rfl, rfl, rfl, by decide +kernel, rfl, by decide +kernel, by decide +kernel⟩
abbrev s_want_deed : Stmt := top 13
theorem sc_want_deed : FnScope ["thing"] ["thing"] (defScope s_want_deed) := ⟨rfl, rfl, rfl, by decide +kernel, rfl, by decide +kernel, by decide +kernel⟩
abbrev s_put_through : Stmt := top 14
theorem sc_put_through : FnScope ["deed", "value", "add", "low", "high", "found"] ["deed", "value"] (defScope s_put_through) := ⟨rfl, rfl, rfl, by decide +kernel, rfl, by decide +kernel, by decide +kernel⟩
abbrev s_done : Stmt := top 15
theorem sc_done : FnScope ["deed", "value"] ["deed", "value"] (defScope s_done) := ⟨rfl, rfl, rfl, by decide +kernel, rfl, by decide +kernel, by decide +kernel⟩
abbrev s_whole_deed : Stmt := top 16
theorem sc_whole_deed : FnScope ["add", "low", "high"] ["add", "low", "high"] (defScope s_whole_deed) := ⟨rfl, rfl, rfl, by decide +kernel, rfl, by decide +kernel, by decide +kernel⟩
abbrev s_one_behind : Stmt := top 17
theorem sc_one_behind : FnScope ["one", "other", "low", "high"] ["one", "other"] (defScope s_one_behind) := ⟨rfl, rfl, rfl, by decide +kernel, rfl, by decide +kernel, by decide +kernel⟩
abbrev s_then : Stmt := top 18
theorem sc_then : FnScope ["one", "other"] ["one", "other"] (defScope s_then) := ⟨rfl, rfl, rfl, by decide +kernel, rfl, by decide +kernel, by decide +kernel⟩
abbrev s_again : Stmt := top 19
theorem sc_again : FnScope ["deed", "many", "add", "low", "high", "far"] ["deed", "many"] (defScope s_again) := ⟨rfl, rfl, rfl, by decide +kernel, rfl, by decide +kernel, by decide +kernel⟩
abbrev s__law_pot : Stmt := top 21
theorem sc__law_pot : FnScope ["_law_script", "_law_k", "_law_cell", "_law_seed"] ["_law_script", "_law_k"] (defScope s__law_pot) := ⟨rfl, rfl, rfl, by decide +kernel, rfl, by decide +kernel, by decide +kernel⟩
abbrev s__law_take : Stmt := top 22
theorem sc__law_take : FnScope ["_law_pot_here", "_law_many", "_law_digit"] ["_law_pot_here", "_law_many"] (defScope s__law_take) := ⟨rfl, rfl, rfl, by decide +kernel, rfl, by decide +kernel, by decide +kernel⟩
abbrev s__law_number : Stmt := top 23
theorem sc__law_number : FnScope ["_law_pot_here", "_law_road", "_law_found"] ["_law_pot_here"] (defScope s__law_number) := ⟨rfl, rfl, rfl, by decide +kernel, rfl, by decide +kernel, by decide +kernel⟩
abbrev s__law_deed : Stmt := top 24
theorem sc__law_deed : FnScope ["_law_pot_here", "_law_road", "_law_add", "_law_one", "_law_other"] ["_law_pot_here"] (defScope s__law_deed) := ⟨rfl, rfl, rfl, by decide +kernel, rfl, by decide +kernel, by decide +kernel⟩
abbrev s__law_makes : Stmt := top 25
theorem sc__law_makes : FnScope ["_law_deed_here", "_law_value", "_law_add", "_law_low", "_law_high", "_law_found"] ["_law_deed_here", "_law_value"] (defScope s__law_makes) := ⟨rfl, rfl, rfl, by decide +kernel, rfl, by decide +kernel, by decide +kernel⟩
abbrev s__law_turns : Stmt := top 26
theorem sc__law_turns : FnScope ["_law_deed_here", "_law_found", "_law_end"] ["_law_deed_here"] (defScope s__law_turns) := ⟨rfl, rfl, rfl, by decide +kernel, rfl, by decide +kernel, by decide +kernel⟩
abbrev s__law_after : Stmt := top 27
theorem sc__law_after : FnScope ["_law_one", "_law_other", "_law_far", "_law_some", "_law_low", "_law_high", "_law_add", "_law_value"] ["_law_one", "_law_other"] (defScope s__law_after) := ⟨rfl, rfl, rfl, by decide +kernel, rfl, by decide +kernel, by decide +kernel⟩
abbrev s__law_power : Stmt := top 28
theorem sc__law_power : FnScope ["_law_deed_here", "_law_many", "_law_found"] ["_law_deed_here", "_law_many"] (defScope s__law_power) := ⟨rfl, rfl, rfl, by decide +kernel, rfl, by decide +kernel, by decide +kernel⟩
abbrev s__law_by_one : Stmt := top 29
theorem sc__law_by_one : FnScope ["_law_deed_here", "_law_values", "_law_many", "_law_row", "_law_turn", "_law_value"] ["_law_deed_here", "_law_values", "_law_many"] (defScope s__law_by_one) := ⟨rfl, rfl, rfl, by decide +kernel, rfl, by decide +kernel, by decide +kernel⟩
abbrev s_law : Stmt := top 30
theorem sc_law : FnScope ["_law_script", "_law_k", "_law_pot_here", "_law_deed_here", "_law_one", "_law_other", "_law_found", "_law_whole", "_law_third", "_law_values"] ["_law_script"] (defScope s_law) := ⟨rfl, rfl, rfl, by decide +kernel, rfl, by decide +kernel, by decide +kernel⟩
structure Bl (K : PySem.W.Frag) (mg : Str → Option Value) : Prop where
  abs_ : mg "abs" = none
  bool_ : mg "bool" = none
  divmod_ : mg "divmod" = none
  int_ : mg "int" = none
  isinstance_ : mg "isinstance" = none
  len_ : mg "len" = none
  list_ : mg "list" = none
  max_ : mg "max" = none
  min_ : mg "min" = none
  range_ : mg "range" = none
  tuple_ : mg "tuple" = none
  LOOK_ : ∃ a, mg "LOOK" = some (.ref a) ∧ KTup K a [.int 0, .non, .non]

/-! ### data: a deed -/
structure Dd where
  add : Int
  low : Option Int
  high : Option Int
def oV : Option Int → V
  | none => .non
  | some i => .int i
def Dd.vs (d : Dd) : List V := [.int d.add, oV d.low, oV d.high]
def Dd.at_ (K : PySem.W.Frag) (H : Hp) (a : Addr) (d : Dd) : Prop := SqT K H a d.vs
/-- the ends stand right -/
def Dd.Ok (d : Dd) : Prop := ∀ l h, d.low = some l → d.high = some h → l < h ∨ (l = h ∧ d.add = 0)
def up (o : Option Int) (f : Int) : Int := match o with | none => f | some l => if f > l then f else l
def dn (o : Option Int) (f : Int) : Int := match o with | none => f | some h => if f < h then f else h
def Dd.ap (d : Dd) (v : Int) : Int := dn d.high (up d.low (v + d.add))
def hi (o : Option Int) (f : Int) : Int := match o with | none => f | some h => if f > h then h else f
def mk (d : Dd) (v : Int) : Int := match d.low with | none => hi d.high (v + d.add) | some l => if v + d.add < l then l else hi d.high (v + d.add)
theorem mk_eq {d : Dd} (ok : d.Ok) (v : Int) : mk d v = d.ap v := by
  obtain ⟨add, low, high⟩ := d
  have ok' := ok
  unfold Dd.Ok at ok'
  cases low with
  | none =>
    cases high with
    | none => rfl
    | some h =>
      show (if v + add > h then h else v + add) = if v + add < h then v + add else h
      by_cases c : v + add > h
      · rw [if_pos c, if_neg (by omega)]
      · rw [if_neg c]
        by_cases c2 : v + add < h
        · rw [if_pos c2]
        · rw [if_neg c2]; omega
  | some l =>
    cases high with
    | none =>
      show (if v + add < l then l else v + add) = if v + add > l then v + add else l
      by_cases c : v + add < l
      · rw [if_pos c, if_neg (by omega)]
      · rw [if_neg c]
        by_cases c2 : v + add > l
        · rw [if_pos c2]
        · rw [if_neg c2]; omega
    | some h =>
      have := ok' l h rfl rfl
      show (if v + add < l then l else if v + add > h then h else v + add) = if (if v + add > l then v + add else l) < h then (if v + add > l then v + add else l) else h
      by_cases c : v + add < l
      · rw [if_pos c, if_neg (show ¬ v + add > l by omega)]
        by_cases c2 : l < h
        · rw [if_pos c2]
        · rw [if_neg c2]; omega
      · rw [if_neg c]
        have e : (if v + add > l then v + add else l) = v + add := by
          by_cases c2 : v + add > l
          · rw [if_pos c2]
          · rw [if_neg c2]; omega
        rw [e]
        by_cases c2 : v + add > h
        · rw [if_pos c2, if_neg (by omega)]
        · rw [if_neg c2]
          by_cases c3 : v + add < h
          · rw [if_pos c3]
          · rw [if_neg c3]; omega
/-- all numbers of a deed are within b -/
def Dd.In (b : Int) (d : Dd) : Prop := -b ≤ d.add ∧ d.add ≤ b ∧ (∀ l, d.low = some l → -b ≤ l ∧ l ≤ b) ∧ ∀ l, d.high = some l → -b ≤ l ∧ l ≤ b
theorem in_mk {b add : Int} {low high : Option Int} (h1 : -b ≤ add) (h2 : add ≤ b) (hl : ∀ l, low = some l → -b ≤ l ∧ l ≤ b) (hh : ∀ l, high = some l → -b ≤ l ∧ l ≤ b) : Dd.In b ⟨add, low, high⟩ := ⟨h1, h2, hl, hh⟩
theorem in_none {b : Int} : ∀ l, (none : Option Int) = some l → -b ≤ l ∧ l ≤ b := fun _ h => nomatch h
theorem in_some {b x : Int} (h1 : -b ≤ x) (h2 : x ≤ b) : ∀ l, some x = some l → -b ≤ l ∧ l ≤ b := fun l h => by cases h; exact ⟨h1, h2⟩
theorem ap_in {b c : Int} {d : Dd} {v : Int} (h : d.In b) (h1 : -c ≤ v) (h2 : v ≤ c) (h0 : 0 ≤ c) : -(b + c) ≤ d.ap v ∧ d.ap v ≤ b + c := by
  obtain ⟨a1, a2, hl, hh⟩ := h
  unfold Dd.ap dn up
  cases el : d.low with
  | none =>
    cases eh : d.high with
    | none => dsimp only; omega
    | some k => have := hh k eh; dsimp only; split <;> omega
  | some l =>
    have := hl l el
    cases eh : d.high with
    | none => dsimp only; split <;> omega
    | some k => have := hh k eh; dsimp only; split <;> split <;> omega
theorem fits {i : Int} (h1 : -(10 ^ 40) ≤ i) (h2 : i ≤ 10 ^ 40) : i.natAbs.log2 < 1920 := by
  refine log_lt (by decide) (Nat.lt_of_le_of_lt (m := 10 ^ 40) (by omega) (by decide))
theorem menu7 : ∀ j : Nat, j < 7 → ∃ z : Int, ([.int 3, .int 5, .int 11, .int 17, .int 29, .int 37, .int 41] : List V)[j]? = some (.int z) ∧ 0 < z ∧ z ≤ 41
  | 0, _ => ⟨_, rfl, by decide, by decide⟩
  | 1, _ => ⟨_, rfl, by decide, by decide⟩
  | 2, _ => ⟨_, rfl, by decide, by decide⟩
  | 3, _ => ⟨_, rfl, by decide, by decide⟩
  | 4, _ => ⟨_, rfl, by decide, by decide⟩
  | 5, _ => ⟨_, rfl, by decide, by decide⟩
  | 6, _ => ⟨_, rfl, by decide, by decide⟩
  | n + 7, h => absurd h (by omega)
theorem menu6 : ∀ j : Nat, j < 6 → ∃ z : Int, ([.int 4, .int 12, .int 1000, .int (10 ^ Int.toNat 9), .int (10 ^ Int.toNat 29), .int (10 ^ Int.toNat 29)] : List V)[j]? = some (.int z) ∧ 1 ≤ z ∧ z ≤ 10 ^ 29
  | 0, _ => ⟨_, rfl, by decide, by decide⟩
  | 1, _ => ⟨_, rfl, by decide, by decide⟩
  | 2, _ => ⟨_, rfl, by decide, by decide⟩
  | 3, _ => ⟨_, rfl, by decide, by decide⟩
  | 4, _ => ⟨_, rfl, by decide, by decide⟩
  | 5, _ => ⟨_, rfl, by decide, by decide⟩
  | n + 6, h => absurd h (by omega)
def PotAt (H : Hp) (p : Addr) : Prop := ∃ a b : Int, H p = some (.lst [.int a, .int b]) ∧ 0 ≤ a ∧ 0 ≤ b ∧ b < 2 ^ 40
theorem PotAt.same {H H' : Hp} {p : Addr} (e : Same H H') (h : PotAt H p) : PotAt H' p := by
  obtain ⟨a, b, h1, h2⟩ := h
  exact ⟨a, b, e _ _ h1, h2⟩
def DeedArg (K : PySem.W.Frag) (H : Hp) (a : Addr) (d : Dd) : Prop := TyX K H (.ref a) (.type "tuple") ∧ SqT K H a d.vs ∧ d.Ok
def Dz (H : Hp) (a : Addr) (d : Dd) : Prop := H a = some (.tup d.vs) ∧ d.In (10 ^ 29 + 3) ∧ d.Ok
theorem Dz.arg {K : PySem.W.Frag} {H : Hp} {a : Addr} {d : Dd} (h : Dz H a d) : DeedArg K H a d := ⟨.base (.tup h.1), SqT.of h.1, h.2.2⟩
theorem Dz.same {H H' : Hp} {a : Addr} {d : Dd} (e : Same H H') (h : Dz H a d) : Dz H' a d := ⟨e _ _ h.1, h.2⟩
def look : Dd := ⟨0, none, none⟩
theorem look_ok : look.Ok := fun _ _ h => nomatch h
theorem look_in {b : Int} (h : 0 ≤ b) : look.In b := in_mk (by omega) (by omega) in_none in_none
theorem pot_ne {H : Hp} {p a : Addr} (h : PotAt H p) (n : H a = none) : a ≠ p := fun z => by obtain ⟨_, _, h1, _⟩ := h; rw [← z, n] at h1; cases h1
/-! ### two deeds as one -/
def wholeD (add : Int) (low high : Option Int) : Dd := if low ≠ none ∧ low = high then ⟨0, low, high⟩ else ⟨add, low, high⟩
theorem wholeD_low {add : Int} {low high : Option Int} : (wholeD add low high).low = low := by unfold wholeD; split <;> rfl
theorem wholeD_high {add : Int} {low high : Option Int} : (wholeD add low high).high = high := by unfold wholeD; split <;> rfl
theorem wholeD_add {add : Int} {low high : Option Int} : (wholeD add low high).add = if low ≠ none ∧ low = high then 0 else add := by unfold wholeD; split <;> rfl
def endBeh (b : Dd) (o p : Option Int) : Option Int := match o with | none => p | some l => some (b.ap l)
def beh (a b : Dd) : Dd := wholeD (a.add + b.add) (endBeh b a.low b.low) (endBeh b a.high b.high)
theorem up_mono {o : Option Int} {x y : Int} (h : x ≤ y) : up o x ≤ up o y := by
  cases o with
  | none => exact h
  | some l =>
    show (if x > l then x else l) ≤ (if y > l then y else l)
    split <;> split <;> omega
theorem dn_mono {o : Option Int} {x y : Int} (h : x ≤ y) : dn o x ≤ dn o y := by
  cases o with
  | none => exact h
  | some l =>
    show (if x < l then x else l) ≤ (if y < l then y else l)
    split <;> split <;> omega
theorem ap_mono (d : Dd) {x y : Int} (h : x ≤ y) : d.ap x ≤ d.ap y := dn_mono (up_mono (by omega))
/-- what is made, by the four ways -/
theorem ap_nn (d : Dd) (v : Int) (h1 : d.low = none) (h2 : d.high = none) : d.ap v = v + d.add := by unfold Dd.ap; rw [h1, h2] <;> rfl
theorem ap_sn (d : Dd) (v l : Int) (h1 : d.low = some l) (h2 : d.high = none) : d.ap v = if v + d.add > l then v + d.add else l := by unfold Dd.ap; rw [h1, h2] <;> rfl
theorem ap_ns (d : Dd) (v h : Int) (h1 : d.low = none) (h2 : d.high = some h) : d.ap v = if v + d.add < h then v + d.add else h := by unfold Dd.ap; rw [h1, h2] <;> rfl
theorem ap_ss (d : Dd) (v l h : Int) (h1 : d.low = some l) (h2 : d.high = some h) : d.ap v = if (if v + d.add > l then v + d.add else l) < h then (if v + d.add > l then v + d.add else l) else h := by unfold Dd.ap; rw [h1, h2] <;> rfl
/-- facts for omega -/
theorem ap_cases (d : Dd) (ok : d.Ok) (v : Int) :
    (∀ l, d.low = some l → l ≤ d.ap v ∧ (v + d.add ≤ l → d.ap v = l)) ∧ (∀ h, d.high = some h → d.ap v ≤ h ∧ (h ≤ v + d.add → d.ap v = h)) ∧
    ((d.low = none ∨ ∃ l, d.low = some l ∧ l ≤ v + d.add) → (d.high = none ∨ ∃ h, d.high = some h ∧ v + d.add ≤ h) → d.ap v = v + d.add) := by
  cases e1 : d.low with
  | none =>
    cases e2 : d.high with
    | none =>
      rw [ap_nn d v e1 e2]
      exact ⟨fun _ h => (nomatch h), fun _ h => (nomatch h), fun _ _ => rfl⟩
    | some h =>
      rw [ap_ns d v h e1 e2]
      refine ⟨fun _ h => (nomatch h), fun k hk => ?_, fun _ h2 => ?_⟩
      · cases hk; split <;> omega
      · rcases h2 with h2 | ⟨k, hk, h2⟩
        · cases h2
        · cases hk; split <;> omega
  | some l =>
    cases e2 : d.high with
    | none =>
      rw [ap_sn d v l e1 e2]
      refine ⟨fun k hk => ?_, fun _ h => (nomatch h), fun h1 _ => ?_⟩
      · cases hk; split <;> omega
      · rcases h1 with h1 | ⟨k, hk, h1⟩
        · cases h1
        · cases hk; split <;> omega
    | some h =>
      have o := ok l h e1 e2
      rw [ap_ss d v l h e1 e2]
      refine ⟨fun k hk => ?_, fun k hk => ?_, fun h1 h2 => ?_⟩
      · cases hk
        by_cases c : v + d.add > l
        · rw [if_pos c]; split <;> omega
        · rw [if_neg c]; split <;> omega
      · cases hk
        by_cases c : v + d.add > l
        · rw [if_pos c]; split <;> omega
        · rw [if_neg c]; split <;> omega
      · rcases h1 with h1 | ⟨k, hk, h1⟩
        · cases h1
        rcases h2 with h2 | ⟨k', hk', h2⟩
        · cases h2
        cases hk; cases hk'
        by_cases c : v + d.add > l
        · rw [if_pos c]; split <;> omega
        · rw [if_neg c]; split <;> omega
theorem beh_ok {a b : Dd} (ha : a.Ok) (hb : b.Ok) : (beh a b).Ok := by
  intro l h h1 h2
  unfold beh at h1 h2 ⊢
  rw [wholeD_low] at h1
  rw [wholeD_high] at h2
  rw [wholeD_add]
  have key : l ≤ h := by
    unfold endBeh at h1 h2
    cases e1 : a.low with
    | none =>
      rw [e1] at h1
      cases e2 : a.high with
      | none =>
        rw [e2] at h2
        have := hb l h h1 h2
        omega
      | some k =>
        rw [e2] at h2
        cases h2
        exact ((ap_cases b hb k).1 l h1).1
    | some j =>
      rw [e1] at h1
      cases h1
      cases e2 : a.high with
      | none =>
        rw [e2] at h2
        exact ((ap_cases b hb j).2.1 h h2).1
      | some k =>
        rw [e2] at h2
        cases h2
        have := ha j k e1 e2
        exact ap_mono b (by omega)
  by_cases c : l = h
  · right
    refine ⟨c, if_pos ⟨by rw [h1]; exact Option.some_ne_none l, by rw [h1, h2, c]⟩⟩
  · left; omega
/-- the ends of a deed -/
theorem ap_low {d : Dd} (ok : d.Ok) {l v : Int} (h : d.low = some l) (hv : v + d.add ≤ l) : d.ap v = l := ((ap_cases d ok v).1 l h).2 hv
theorem ap_high {d : Dd} (ok : d.Ok) {l v : Int} (h : d.high = some l) (hv : l ≤ v + d.add) : d.ap v = l := ((ap_cases d ok v).2.1 l h).2 hv
theorem whole_ap {add : Int} {low high : Option Int} {v w : Int} (hl : ∀ l, low = some l → l ≤ w) (hh : ∀ h, high = some h → w ≤ h)
    (h1 : (∀ l, low = some l → v + add ≤ l → w = l)) (h2 : (∀ h, high = some h → h ≤ v + add → w = h))
    (h3 : (low = none ∨ ∃ l, low = some l ∧ l ≤ v + add) → (high = none ∨ ∃ h, high = some h ∧ v + add ≤ h) → w = v + add) : (wholeD add low high).ap v = w := by
  cases e1 : low with
  | none =>
    have e3 : wholeD add none high = ⟨add, none, high⟩ := by unfold wholeD; rw [if_neg (fun z => z.1 rfl)]
    rw [e3]
    cases e2 : high with
    | none => rw [ap_nn _ _ rfl rfl]; exact (h3 (.inl e1) (.inl e2)).symm
    | some h =>
      rw [ap_ns _ _ h rfl rfl]
      show (if v + add < h then v + add else h) = w
      have a2 := h2 h e2
      have a3 := h3 (.inl e1)
      split
      · exact (a3 (.inr ⟨h, e2, by omega⟩)).symm
      · exact (a2 (by omega)).symm
  | some l =>
    have b1 := hl l e1
    cases e2 : high with
    | none =>
      have e3 : wholeD add (some l) none = ⟨add, some l, none⟩ := by unfold wholeD; rw [if_neg (fun z => nomatch z.2)]
      rw [e3, ap_sn _ _ l rfl rfl]
      show (if v + add > l then v + add else l) = w
      have a1 := h1 l e1
      split
      · exact (h3 (.inr ⟨l, e1, by omega⟩) (.inl e2)).symm
      · exact (a1 (by omega)).symm
    | some h =>
      have b2 := hh h e2
      by_cases c : l = h
      · subst c
        have e3 : wholeD add (some l) (some l) = ⟨0, some l, some l⟩ := by unfold wholeD; rw [if_pos ⟨Option.some_ne_none l, rfl⟩]
        rw [e3, ap_ss _ _ l l rfl rfl]
        split <;> omega
      · have e3 : wholeD add (some l) (some h) = ⟨add, some l, some h⟩ := by unfold wholeD; rw [if_neg (fun z => c (Option.some.inj z.2))]
        rw [e3, ap_ss _ _ l h rfl rfl]
        show (if (if v + add > l then v + add else l) < h then (if v + add > l then v + add else l) else h) = w
        have a1 := h1 l e1
        have a2 := h2 h e2
        by_cases c1 : v + add > l
        · rw [if_pos c1]
          split
          · exact (h3 (.inr ⟨l, e1, by omega⟩) (.inr ⟨h, e2, by omega⟩)).symm
          · exact (a2 (by omega)).symm
        · rw [if_neg c1]
          have := a1 (by omega)
          split <;> omega
theorem beh_ap {a b : Dd} (ha : a.Ok) (hb : b.Ok) (v : Int) : (beh a b).ap v = b.ap (a.ap v) := by
  obtain ⟨A1, A2, A3⟩ := ap_cases a ha v
  obtain ⟨B1, B2, B3⟩ := ap_cases b hb (a.ap v)
  have P3 : ∀ l, endBeh b a.low b.low = some l → v + (a.add + b.add) ≤ l → b.ap (a.ap v) = l := by
    intro l hl hv
    unfold endBeh at hl
    cases e : a.low with
    | none =>
      rw [e] at hl
      refine (B1 l hl).2 ?_
      cases e2 : a.high with
      | none => rw [A3 (.inl e) (.inl e2)]; omega
      | some k =>
        by_cases c : v + a.add ≤ k
        · rw [A3 (.inl e) (.inr ⟨k, e2, c⟩)]; omega
        · rw [(A2 k e2).2 (by omega)]; omega
    | some j =>
      rw [e] at hl
      cases hl
      -- v + a.add + b.add ≤ b.ap j
      by_cases c : v + a.add ≤ j
      · rw [(A1 j e).2 c]
      · have m : b.ap j ≤ b.ap (a.ap v) := ap_mono b (A1 j e).1
        have n : b.ap (a.ap v) ≤ b.ap (v + a.add) := by
          refine ap_mono b ?_
          cases e2 : a.high with
          | none => rw [A3 (.inr ⟨j, e, by omega⟩) (.inl e2)]; omega
          | some k =>
            by_cases c : v + a.add ≤ k
            · rw [A3 (.inr ⟨j, e, by omega⟩) (.inr ⟨k, e2, c⟩)]; omega
            · rw [(A2 k e2).2 (by omega)]; omega
        -- b at v + a.add is at most max of its sum and its low end
        obtain ⟨C1, C2, C3⟩ := ap_cases b hb (v + a.add)
        obtain ⟨D1, D2, D3⟩ := ap_cases b hb j
        cases f1 : b.low with
        | none =>
          cases f2 : b.high with
          | none => have := C3 (.inl f1) (.inl f2); have := D3 (.inl f1) (.inl f2); omega
          | some k =>
            have := C2 k f2; have := D2 k f2
            by_cases c3 : v + a.add + b.add ≤ k
            · have := C3 (.inl f1) (.inr ⟨k, f2, c3⟩); have := D3 (.inl f1) (.inr ⟨k, f2, by omega⟩); omega
            · omega
        | some i =>
          have := C1 i f1; have := D1 i f1
          cases f2 : b.high with
          | none =>
            by_cases c3 : i ≤ v + a.add + b.add
            · have := C3 (.inr ⟨i, f1, c3⟩) (.inl f2)
              by_cases c4 : i ≤ j + b.add
              · have := D3 (.inr ⟨i, f1, c4⟩) (.inl f2); omega
              · omega
            · omega
          | some k =>
            have := C2 k f2; have := D2 k f2
            by_cases c3 : i ≤ v + a.add + b.add
            · by_cases c5 : v + a.add + b.add ≤ k
              · have := C3 (.inr ⟨i, f1, c3⟩) (.inr ⟨k, f2, c5⟩)
                by_cases c4 : i ≤ j + b.add
                · have := D3 (.inr ⟨i, f1, c4⟩) (.inr ⟨k, f2, by omega⟩); omega
                · omega
              · omega
            · omega
  have P4 : ∀ h, endBeh b a.high b.high = some h → h ≤ v + (a.add + b.add) → b.ap (a.ap v) = h := by
    intro h hh hv
    unfold endBeh at hh
    cases e : a.high with
    | none =>
      rw [e] at hh
      refine (B2 h hh).2 ?_
      cases e2 : a.low with
      | none => rw [A3 (.inl e2) (.inl e)]; omega
      | some k =>
        by_cases c : k ≤ v + a.add
        · rw [A3 (.inr ⟨k, e2, c⟩) (.inl e)]; omega
        · rw [(A1 k e2).2 (by omega)]; omega
    | some j =>
      rw [e] at hh
      cases hh
      by_cases c : j ≤ v + a.add
      · rw [(A2 j e).2 c]
      · have m : b.ap (a.ap v) ≤ b.ap j := ap_mono b (A2 j e).1
        have n : b.ap (v + a.add) ≤ b.ap (a.ap v) := by
          refine ap_mono b ?_
          cases e2 : a.low with
          | none => rw [A3 (.inl e2) (.inr ⟨j, e, by omega⟩)]; omega
          | some k =>
            by_cases c : k ≤ v + a.add
            · rw [A3 (.inr ⟨k, e2, c⟩) (.inr ⟨j, e, by omega⟩)]; omega
            · rw [(A1 k e2).2 (by omega)]; omega
        obtain ⟨C1, C2, C3⟩ := ap_cases b hb (v + a.add)
        obtain ⟨D1, D2, D3⟩ := ap_cases b hb j
        cases f1 : b.high with
        | none =>
          cases f2 : b.low with
          | none => have := C3 (.inl f2) (.inl f1); have := D3 (.inl f2) (.inl f1); omega
          | some k =>
            have := C1 k f2; have := D1 k f2
            by_cases c3 : k ≤ v + a.add + b.add
            · have := C3 (.inr ⟨k, f2, c3⟩) (.inl f1); have := D3 (.inr ⟨k, f2, by omega⟩) (.inl f1); omega
            · omega
        | some i =>
          have := C2 i f1; have := D2 i f1
          cases f2 : b.low with
          | none =>
            by_cases c3 : v + a.add + b.add ≤ i
            · have := C3 (.inl f2) (.inr ⟨i, f1, c3⟩)
              by_cases c4 : j + b.add ≤ i
              · have := D3 (.inl f2) (.inr ⟨i, f1, c4⟩); omega
              · omega
            · omega
          | some k =>
            have := C1 k f2; have := D1 k f2
            by_cases c3 : v + a.add + b.add ≤ i
            · by_cases c5 : k ≤ v + a.add + b.add
              · have := C3 (.inr ⟨k, f2, c5⟩) (.inr ⟨i, f1, c3⟩)
                by_cases c4 : j + b.add ≤ i
                · have := D3 (.inr ⟨k, f2, by omega⟩) (.inr ⟨i, f1, c4⟩); omega
                · omega
              · omega
            · omega
  unfold beh
  refine whole_ap (fun l hl => ?_) (fun h hh => ?_) P3 P4 (fun h1 h2 => ?_)
  · unfold endBeh at hl
    cases e : a.low with
    | none => rw [e] at hl; exact (B1 l hl).1
    | some j => rw [e] at hl; cases hl; exact ap_mono b (A1 j e).1
  · unfold endBeh at hh
    cases e : a.high with
    | none => rw [e] at hh; exact (B2 h hh).1
    | some j => rw [e] at hh; cases hh; exact ap_mono b (A2 j e).1
  · -- between the ends both add
    by_cases s1 : ∃ l, endBeh b a.low b.low = some l ∧ v + (a.add + b.add) ≤ l
    · obtain ⟨l, s1, s2⟩ := s1
      rw [P3 l s1 s2]
      rcases h1 with h1 | ⟨l', h1, h4⟩
      · rw [s1] at h1; cases h1
      · rw [s1] at h1; cases h1; omega
    by_cases s2 : ∃ l, endBeh b a.high b.high = some l ∧ l ≤ v + (a.add + b.add)
    · obtain ⟨l, s2, s3⟩ := s2
      rw [P4 l s2 s3]
      rcases h2 with h2 | ⟨l', h2, h4⟩
      · rw [s2] at h2; cases h2
      · rw [s2] at h2; cases h2; omega
    have h1s : ∀ l, endBeh b a.low b.low = some l → l < v + (a.add + b.add) := fun l hl => Int.not_le.mp fun z => s1 ⟨l, hl, z⟩
    have h2s : ∀ l, endBeh b a.high b.high = some l → v + (a.add + b.add) < l := fun l hl => Int.not_le.mp fun z => s2 ⟨l, hl, z⟩
    have a1 : a.low = none ∨ ∃ l, a.low = some l ∧ l ≤ v + a.add := by
      cases e : a.low with
      | none => exact .inl rfl
      | some j =>
        right
        refine ⟨j, rfl, ?_⟩
        rcases h1 with h1 | ⟨l, h1, h4⟩
        · unfold endBeh at h1; rw [e] at h1; cases h1
        have st := h1s l h1
        unfold endBeh at h1; rw [e] at h1; cases h1
        by_cases c : j ≤ v + a.add
        · exact c
        obtain ⟨D1, D2, D3⟩ := ap_cases b hb j
        exfalso
        cases f2 : b.high with
        | none =>
          cases f1 : b.low with
          | none => have := D3 (.inl f1) (.inl f2); omega
          | some i => have := D1 i f1; by_cases c4 : i ≤ j + b.add; (have := D3 (.inr ⟨i, f1, c4⟩) (.inl f2); omega); omega
        | some k =>
          have := D2 k f2
          by_cases c5 : j + b.add ≤ k
          · cases f1 : b.low with
            | none => have := D3 (.inl f1) (.inr ⟨k, f2, c5⟩); omega
            | some i => have := D1 i f1; by_cases c4 : i ≤ j + b.add; (have := D3 (.inr ⟨i, f1, c4⟩) (.inr ⟨k, f2, c5⟩); omega); omega
          · have e5 : b.ap j = k := this.2 (by omega)
            -- the upper end is met: then high of both is k
            rcases h2 with h2 | ⟨h, h2, h6⟩
            · unfold endBeh at h2; cases e7 : a.high with
              | none => rw [e7] at h2; rw [f2] at h2; cases h2
              | some m => rw [e7] at h2; cases h2
            · unfold endBeh at h2; cases e7 : a.high with
              | none => rw [e7] at h2; rw [f2] at h2; cases h2; omega
              | some m =>
                rw [e7] at h2; cases h2
                have o := ha j m e e7
                have q1 := ap_mono b (show j ≤ m by omega)
                have q2 := ((ap_cases b hb m).2.1 k f2).1
                omega
    have a2 : a.high = none ∨ ∃ l, a.high = some l ∧ v + a.add ≤ l := by
      cases e : a.high with
      | none => exact .inl rfl
      | some j =>
        right
        refine ⟨j, rfl, ?_⟩
        rcases h2 with h2 | ⟨l, h2, h4⟩
        · unfold endBeh at h2; rw [e] at h2; cases h2
        have st := h2s l h2
        unfold endBeh at h2; rw [e] at h2; cases h2
        by_cases c : v + a.add ≤ j
        · exact c
        obtain ⟨D1, D2, D3⟩ := ap_cases b hb j
        exfalso
        cases f2 : b.low with
        | none =>
          cases f1 : b.high with
          | none => have := D3 (.inl f2) (.inl f1); omega
          | some i => have := D2 i f1; by_cases c4 : j + b.add ≤ i; (have := D3 (.inl f2) (.inr ⟨i, f1, c4⟩); omega); omega
        | some k =>
          have := D1 k f2
          by_cases c5 : k ≤ j + b.add
          · cases f1 : b.high with
            | none => have := D3 (.inr ⟨k, f2, c5⟩) (.inl f1); omega
            | some i => have := D2 i f1; by_cases c4 : j + b.add ≤ i; (have := D3 (.inr ⟨k, f2, c5⟩) (.inr ⟨i, f1, c4⟩); omega); omega
          · have e5 : b.ap j = k := this.2 (by omega)
            rcases h1 with h1 | ⟨h, h1, h6⟩
            · unfold endBeh at h1; cases e7 : a.low with
              | none => rw [e7] at h1; rw [f2] at h1; cases h1
              | some m => rw [e7] at h1; cases h1
            · unfold endBeh at h1; cases e7 : a.low with
              | none => rw [e7] at h1; rw [f2] at h1; cases h1; omega
              | some m =>
                rw [e7] at h1; cases h1
                have o := ha m j e7 e
                have q1 := ap_mono b (show m ≤ j by omega)
                have q2 := ((ap_cases b hb m).1 k f2).1
                omega
    have ea := A3 a1 a2
    rw [ea] at B1 B2 B3 ⊢
    have b1 : b.low = none ∨ ∃ l, b.low = some l ∧ l ≤ v + a.add + b.add := by
      cases f : b.low with
      | none => exact .inl rfl
      | some i =>
        refine .inr ⟨i, rfl, ?_⟩
        rcases h1 with h1 | ⟨l, h1, h4⟩
        · unfold endBeh at h1; cases e7 : a.low with
          | none => rw [e7] at h1; rw [f] at h1; cases h1
          | some m => rw [e7] at h1; cases h1
        · unfold endBeh at h1; cases e7 : a.low with
          | none => rw [e7] at h1; rw [f] at h1; cases h1; omega
          | some m => rw [e7] at h1; cases h1; have := ((ap_cases b hb m).1 i f).1; omega
    have b2 : b.high = none ∨ ∃ l, b.high = some l ∧ v + a.add + b.add ≤ l := by
      cases f : b.high with
      | none => exact .inl rfl
      | some i =>
        refine .inr ⟨i, rfl, ?_⟩
        rcases h2 with h2 | ⟨l, h2, h4⟩
        · unfold endBeh at h2; cases e7 : a.high with
          | none => rw [e7] at h2; rw [f] at h2; cases h2
          | some m => rw [e7] at h2; cases h2
        · unfold endBeh at h2; cases e7 : a.high with
          | none => rw [e7] at h2; rw [f] at h2; cases h2; omega
          | some m => rw [e7] at h2; cases h2; have := ((ap_cases b hb m).2.1 i f).1; omega
    rw [B3 b1 b2]; omega
theorem beh_in {a b : Dd} {x y : Int} (ha : a.In x) (hb : b.In y) (h0 : 0 ≤ x) (h1 : 0 ≤ y) : (beh a b).In (y + x) := by
  obtain ⟨a1, a2, a3, a4⟩ := ha
  have hb' := hb
  obtain ⟨b1, b2, b3, b4⟩ := hb
  refine ⟨?_, ?_, fun l hl => ?_, fun l hl => ?_⟩
  · unfold beh; rw [wholeD_add]; split <;> omega
  · unfold beh; rw [wholeD_add]; split <;> omega
  · unfold beh at hl; rw [wholeD_low] at hl; unfold endBeh at hl
    cases e : a.low with
    | none => rw [e] at hl; have := b3 l hl; omega
    | some j => rw [e] at hl; cases hl; exact ap_in hb' (a3 j e).1 (a3 j e).2 h0
  · unfold beh at hl; rw [wholeD_high] at hl; unfold endBeh at hl
    cases e : a.high with
    | none => rw [e] at hl; have := b4 l hl; omega
    | some j => rw [e] at hl; cases hl; exact ap_in hb' (a4 j e).1 (a4 j e).2 h0
/-- far out a deed shows its ends -/
theorem far_low {d : Dd} {b F : Int} (ok : d.Ok) (i : d.In b) (hF : 3 * b + 2 ≤ F) (h0 : 0 ≤ b) : (if d.ap (-F - 1) = d.ap (-F) then some (d.ap (-F)) else none) = d.low := by
  obtain ⟨i1, i2, i3, i4⟩ := i
  cases e : d.low with
  | some l =>
    have := i3 l e
    rw [ap_low ok e (show -F - 1 + d.add ≤ l by omega), ap_low ok e (show -F + d.add ≤ l by omega), if_pos rfl]
  | none =>
    have k : ∀ v : Int, v ≤ -F → d.ap v = v + d.add := fun v hv => by
      refine (ap_cases d ok v).2.2 (.inl e) ?_
      cases f : d.high with
      | none => exact .inl rfl
      | some h => have := i4 h f; exact .inr ⟨h, rfl, by omega⟩
    rw [k _ (by omega), k _ (by omega), if_neg (by omega)]
theorem far_high {d : Dd} {b F : Int} (ok : d.Ok) (i : d.In b) (hF : 3 * b + 2 ≤ F) (h0 : 0 ≤ b) : (if d.ap F = d.ap (F + 1) then some (d.ap F) else none) = d.high := by
  obtain ⟨i1, i2, i3, i4⟩ := i
  cases e : d.high with
  | some l =>
    have := i4 l e
    rw [ap_high ok e (show l ≤ F + 1 + d.add by omega), ap_high ok e (show l ≤ F + d.add by omega), if_pos rfl]
  | none =>
    have k : ∀ v : Int, F ≤ v → d.ap v = v + d.add := fun v hv => by
      refine (ap_cases d ok v).2.2 ?_ (.inl e)
      cases f : d.low with
      | none => exact .inl rfl
      | some h => have := i3 h f; exact .inr ⟨h, rfl, by omega⟩
    rw [k _ (by omega), k _ (by omega), if_neg (by omega)]
theorem bound_of (d : Dd) : ∃ b, 0 ≤ b ∧ d.In b := by
  obtain ⟨a, l, h⟩ := d
  refine ⟨a.natAbs + (l.getD 0).natAbs + (h.getD 0).natAbs, by omega, in_mk (by omega) (by omega) (fun x hx => ?_) fun x hx => ?_⟩
  · cases hx; simp only [Option.getD_some]; omega
  · cases hx; simp only [Option.getD_some]; omega
theorem In.le {d : Dd} {a b : Int} (h : d.In a) (e : a ≤ b) : d.In b := ⟨by have := h.1; omega, by have := h.2.1; omega, fun l hl => by have := h.2.2.1 l hl; omega, fun l hl => by have := h.2.2.2 l hl; omega⟩
/-- there is just one deed that makes the same of all -/
theorem ap_ext {d e : Dd} (hd : d.Ok) (he : e.Ok) (h : ∀ v, d.ap v = e.ap v) : d = e := by
  obtain ⟨b, b0, hb⟩ := bound_of d
  obtain ⟨c, c0, hc⟩ := bound_of e
  have l1 := far_low (F := 3 * (b + c) + 2) hd (In.le hb (show b ≤ b + c by omega)) (by omega) (by omega)
  have l2 := far_low (F := 3 * (b + c) + 2) he (In.le hc (show c ≤ b + c by omega)) (by omega) (by omega)
  have h1 := far_high (F := 3 * (b + c) + 2) hd (In.le hb (show b ≤ b + c by omega)) (by omega) (by omega)
  have h2 := far_high (F := 3 * (b + c) + 2) he (In.le hc (show c ≤ b + c by omega)) (by omega) (by omega)
  rw [h, h, l2] at l1
  rw [h, h, h2] at h1
  have ea : d.add = e.add := by
    cases e1 : d.low with
    | none =>
      cases e2 : d.high with
      | none =>
        have := h 0
        rw [ap_nn d 0 e1 e2, ap_nn e 0 (l1.trans e1) (h1.trans e2)] at this
        omega
      | some k =>
        have := h (k - 1 - b - c)
        have q1 := hb.1; have q2 := hb.2.1; have q3 := hc.1; have q4 := hc.2.1
        rw [ap_ns d _ k e1 e2, ap_ns e _ k (l1.trans e1) (h1.trans e2), if_pos (by omega), if_pos (by omega)] at this
        omega
    | some l =>
      cases e2 : d.high with
      | none =>
        have := h (l + 1 + b + c)
        have q1 := hb.1; have q2 := hb.2.1; have q3 := hc.1; have q4 := hc.2.1
        rw [ap_sn d _ l e1 e2, ap_sn e _ l (l1.trans e1) (h1.trans e2), if_pos (by omega), if_pos (by omega)] at this
        omega
      | some k =>
        have o1 := hd l k e1 e2
        have o2 := he l k (l1.trans e1) (h1.trans e2)
        by_cases c1 : l = k
        · omega
        · have g1 := h (l - d.add)
          have g2 := h (l - d.add + 1)
          obtain ⟨C1, C2, C3⟩ := ap_cases e he (l - d.add)
          obtain ⟨D1, D2, D3⟩ := ap_cases e he (l - d.add + 1)
          rw [ap_low hd e1 (by omega)] at g1
          rw [(ap_cases d hd (l - d.add + 1)).2.2 (.inr ⟨l, e1, by omega⟩) (.inr ⟨k, e2, by omega⟩)] at g2
          have := C1 l (l1.trans e1); have := C2 k (h1.trans e2); have := D1 l (l1.trans e1); have := D2 k (h1.trans e2)
          by_cases c2 : l ≤ l - d.add + e.add
          · by_cases c3 : l - d.add + e.add ≤ k
            · have := C3 (.inr ⟨l, l1.trans e1, c2⟩) (.inr ⟨k, h1.trans e2, c3⟩); omega
            · omega
          · by_cases c3 : l ≤ l - d.add + 1 + e.add
            · have := D3 (.inr ⟨l, l1.trans e1, c3⟩) (.inr ⟨k, h1.trans e2, by omega⟩); omega
            · omega
  obtain ⟨a1, a2, a3⟩ := d
  obtain ⟨b1, b2, b3⟩ := e
  cases ea; cases l1; cases h1
  rfl
theorem beh_assoc {a b c : Dd} (ha : a.Ok) (hb : b.Ok) (hc : c.Ok) : beh (beh a b) c = beh a (beh b c) :=
  ap_ext (beh_ok (beh_ok ha hb) hc) (beh_ok ha (beh_ok hb hc)) fun v => by rw [beh_ap (beh_ok ha hb) hc, beh_ap ha hb, beh_ap ha (beh_ok hb hc), beh_ap hb hc]
theorem look_ap (v : Int) : look.ap v = v := by show v + 0 = v; omega
theorem beh_look {a : Dd} (ha : a.Ok) : beh a look = a := ap_ext (beh_ok ha look_ok) ha fun v => by rw [beh_ap ha look_ok, look_ap]
theorem look_beh {a : Dd} (ha : a.Ok) : beh look a = a := ap_ext (beh_ok look_ok ha) ha fun v => by rw [beh_ap look_ok ha, look_ap]
/-! ### a deed as data -/
def po : Option Int → PyData
  | none => .none
  | some i => .int i
def pd (d : Dd) : PyData := .tuple [.int d.add, po d.low, po d.high]
theorem po_dp {K : PySem.W.Frag} {H : Hp} (o : Option Int) : Dp K H (oV o) (po o) := by
  cases o with
  | none => exact .non
  | some i => exact .int i
theorem pd_dp {K : PySem.W.Frag} {H : Hp} {a : Addr} {d : Dd} (h : SqT K H a d.vs) : Dp K H (.ref a) (pd d) := .tup h (.cons (.int _) (.cons (po_dp _) (.cons (po_dp _) .nil)))
theorem pd_sh (d : Dd) : SeqAt.shaped (pd d) = true := by
  obtain ⟨a, l, h⟩ := d
  cases l <;> cases h <;> rfl
theorem pd_refl (d : Dd) : PyData.eqv (pd d) (pd d) = true := SeqAt.eqv_refl _ (SeqAt.canLay_of_shaped (pd_sh d))
/-- a new tuple with a deed -/
def NewD (H : Hp) (Q : VK) (d : Dd) : Prop := ∀ (a : Addr) (H' : Hp), Same H H' → H a = none → H' a = some (.tup d.vs) → Q (.ref a) H'
abbrev Fx : Int := 10 ^ Int.toNat 64 * 10 ^ Int.toNat 26
theorem Fx_eq : Fx = 10 ^ 90 := by decide
theorem take_snoc {α : Type} {l : List α} {i : Nat} {x : α} (h : l[i]? = some x) : l.take (i + 1) = l.take i ++ [x] := by rw [List.take_succ, h] <;> rfl
/-- a deed's tuple that was made here -/
def Da (H : Hp) (a : Addr) (d : Dd) : Prop := H a = some (.tup d.vs) ∧ d.In (10 ^ 80) ∧ d.Ok
theorem Da.arg {K : PySem.W.Frag} {H : Hp} {a : Addr} {d : Dd} (h : Da H a d) : DeedArg K H a d := ⟨.base (.tup h.1), SqT.of h.1, h.2.2⟩
theorem Da.same {H H' : Hp} {a : Addr} {d : Dd} (e : Same H H') (h : Da H a d) : Da H' a d := ⟨e _ _ h.1, h.2⟩
theorem Da.sq {K : PySem.W.Frag} {H : Hp} {a : Addr} {d : Dd} (h : Da H a d) : SqT K H a d.vs := SqT.of h.1
theorem Da.dp {K : PySem.W.Frag} {H : Hp} {a : Addr} {d : Dd} (h : Da H a d) : Dp K H (.ref a) (pd d) := pd_dp h.sq
theorem ne_pd {d : Dd} : (!PyData.eqv (pd d) (pd d)) = false := by rw [pd_refl] <;> rfl
theorem addT {x : Int} {k : Bool} {p : Prop} [Decidable p] (h : k = true ↔ ¬ p) : x * (if k = true then 1 else 0) = if p then 0 else x := by
  by_cases c : p
  · rw [if_pos c, if_neg (fun z => h.mp z c)]; exact Int.mul_zero _
  · rw [if_neg c, if_pos (h.mpr c)]; exact Int.mul_one _
/-! ### a deed so many times -/
def agL (d : Dd) (f : Int) : Option Int := match d.low with
  | none => none
  | some l => some (if f > 0 then (match d.high with | none => l + f | some h => if l + f < h then l + f else h) else l)
def agH (d : Dd) (f : Int) : Option Int := match d.high with
  | none => none
  | some h => some (if f < 0 then (match d.low with | none => h + f | some l => if h + f > l then h + f else l) else h)
theorem agL_n {d : Dd} {f : Int} (h : d.low = none) : agL d f = none := by unfold agL; rw [h] <;> rfl
theorem agL_z {d : Dd} {f l : Int} (h : d.low = some l) (c : ¬ f > 0) : agL d f = some l := by unfold agL; rw [h]; dsimp only; rw [if_neg c]
theorem agL_p {d : Dd} {f l : Int} (h : d.low = some l) (g : d.high = none) (c : f > 0) : agL d f = some (l + f) := by unfold agL; rw [h, g]; dsimp only; rw [if_pos c]
theorem agL_q {d : Dd} {f l k : Int} (h : d.low = some l) (g : d.high = some k) (c : f > 0) : agL d f = some (if l + f < k then l + f else k) := by unfold agL; rw [h, g]; dsimp only; rw [if_pos c]
theorem agH_n {d : Dd} {f : Int} (h : d.high = none) : agH d f = none := by unfold agH; rw [h] <;> rfl
theorem agH_z {d : Dd} {f l : Int} (h : d.high = some l) (c : ¬ f < 0) : agH d f = some l := by unfold agH; rw [h]; dsimp only; rw [if_neg c]
theorem agH_p {d : Dd} {f l : Int} (h : d.high = some l) (g : d.low = none) (c : f < 0) : agH d f = some (l + f) := by unfold agH; rw [h, g]; dsimp only; rw [if_pos c]
theorem agH_q {d : Dd} {f l k : Int} (h : d.high = some l) (g : d.low = some k) (c : f < 0) : agH d f = some (if l + f > k then l + f else k) := by unfold agH; rw [h, g]; dsimp only; rw [if_pos c]
def agn (d : Dd) (n : Int) : Dd := wholeD (n * d.add) (agL d ((n - 1) * d.add)) (agH d ((n - 1) * d.add))
def Sg (d : Dd) (f : Int) : Prop := (0 < d.add → 0 ≤ f) ∧ (d.add < 0 → f ≤ 0) ∧ (d.add = 0 → f = 0)
theorem sg_mul (d : Dd) {n : Int} (h : 0 ≤ n) : Sg d (n * d.add) := by
  refine ⟨fun a => Int.mul_nonneg h (by omega), fun a => ?_, fun a => by rw [a]; exact Int.mul_zero _⟩
  have := Int.mul_nonneg h (show 0 ≤ -d.add by omega)
  rw [Int.mul_neg] at this
  omega
theorem agL_next {d : Dd} (ok : d.Ok) {f : Int} (s : Sg d f) : endBeh d (agL d f) d.low = agL d (f + d.add) := by
  obtain ⟨s1, s2, s3⟩ := s
  cases e1 : d.low with
  | none => unfold agL; rw [e1] <;> rfl
  | some l =>
    unfold agL endBeh
    rw [e1]
    cases e2 : d.high with
    | none =>
      show some (d.ap (if f > 0 then l + f else l)) = some (if f + d.add > 0 then l + (f + d.add) else l)
      rw [ap_sn d _ l e1 e2]
      congr 1
      by_cases c : f > 0
      · rw [if_pos c]
        by_cases c2 : f + d.add > 0
        · rw [if_pos c2, if_pos (by omega)]; omega
        · omega
      · rw [if_neg c]
        by_cases c2 : f + d.add > 0
        · rw [if_pos c2, if_pos (by omega)]; omega
        · rw [if_neg c2, if_neg (by omega)]
    | some h =>
      have o := ok l h e1 e2
      show some (d.ap (if f > 0 then (if l + f < h then l + f else h) else l)) = some (if f + d.add > 0 then (if l + (f + d.add) < h then l + (f + d.add) else h) else l)
      rw [ap_ss d _ l h e1 e2]
      congr 1
      by_cases c : f > 0
      · rw [if_pos c, if_pos (show f + d.add > 0 by omega)]
        by_cases c2 : l + f < h
        · rw [if_pos c2, if_pos (show l + f + d.add > l by omega)]
          by_cases c3 : l + f + d.add < h
          · rw [if_pos c3, if_pos (by omega)]; omega
          · rw [if_neg c3, if_neg (by omega)]
        · rw [if_neg c2, if_neg (show ¬ l + (f + d.add) < h by omega)]
          by_cases c4 : h + d.add > l
          · rw [if_pos c4, if_neg (by omega)]
          · rw [if_neg c4]; split <;> omega
      · rw [if_neg c]
        by_cases c3 : f + d.add > 0
        · rw [if_pos c3, if_pos (show l + d.add > l by omega)]
          by_cases c2 : l + d.add < h
          · rw [if_pos c2, if_pos (by omega)]; omega
          · rw [if_neg c2, if_neg (by omega)]
        · rw [if_neg c3, if_neg (show ¬ l + d.add > l by omega)]
          split <;> omega
theorem agH_next {d : Dd} (ok : d.Ok) {f : Int} (s : Sg d f) : endBeh d (agH d f) d.high = agH d (f + d.add) := by
  obtain ⟨s1, s2, s3⟩ := s
  cases e2 : d.high with
  | none => unfold agH; rw [e2] <;> rfl
  | some h =>
    unfold agH endBeh
    rw [e2]
    cases e1 : d.low with
    | none =>
      show some (d.ap (if f < 0 then h + f else h)) = some (if f + d.add < 0 then h + (f + d.add) else h)
      rw [ap_ns d _ h e1 e2]
      congr 1
      by_cases c : f < 0
      · rw [if_pos c]
        by_cases c2 : f + d.add < 0
        · rw [if_pos c2, if_pos (by omega)]; omega
        · omega
      · rw [if_neg c]
        by_cases c2 : f + d.add < 0
        · rw [if_pos c2, if_pos (by omega)]; omega
        · rw [if_neg c2, if_neg (by omega)]
    | some l =>
      have o := ok l h e1 e2
      show some (d.ap (if f < 0 then (if h + f > l then h + f else l) else h)) = some (if f + d.add < 0 then (if h + (f + d.add) > l then h + (f + d.add) else l) else h)
      rw [ap_ss d _ l h e1 e2]
      congr 1
      by_cases c : f < 0
      · rw [if_pos c, if_pos (show f + d.add < 0 by omega)]
        by_cases c2 : h + f > l
        · rw [if_pos c2]
          by_cases c3 : h + f + d.add > l
          · rw [if_pos c3, if_pos (show h + f + d.add < h by omega), if_pos (by omega)]; omega
          · rw [if_neg c3, if_neg (show ¬ h + (f + d.add) > l by omega)]; split <;> omega
        · rw [if_neg c2, if_neg (show ¬ h + (f + d.add) > l by omega), if_neg (show ¬ l + d.add > l by omega)]
          split <;> omega
      · rw [if_neg c]
        by_cases c3 : f + d.add < 0
        · rw [if_pos c3]
          by_cases c2 : h + d.add > l
          · rw [if_pos c2, if_pos (by omega), if_pos (by omega)]; omega
          · rw [if_neg c2, if_neg (show ¬ h + (f + d.add) > l by omega)]; split <;> omega
        · rw [if_neg c3]
          by_cases c4 : h + d.add > l
          · rw [if_pos c4, if_neg (by omega)]
          · rw [if_neg c4]; split <;> omega
theorem agL_zero (d : Dd) : agL d 0 = d.low := by unfold agL; cases d.low <;> rfl
theorem agH_zero (d : Dd) : agH d 0 = d.high := by unfold agH; cases d.high <;> rfl
theorem wholeD_self {d : Dd} (ok : d.Ok) : wholeD d.add d.low d.high = d := by
  unfold wholeD
  by_cases c : d.low ≠ none ∧ d.low = d.high
  · rw [if_pos c]
    cases e : d.low with
    | none => exact absurd e c.1
    | some l =>
      have := ok l l e (c.2.symm.trans e)
      obtain ⟨a, x, y⟩ := d
      have h0 : a = 0 := by
        have : (⟨a, x, y⟩ : Dd).add = 0 := by omega
        exact this
      subst h0
      have e' : x = some l := e
      subst e'
      rfl
  · rw [if_neg c]
theorem agn_one {d : Dd} (ok : d.Ok) : agn d 1 = d := by
  unfold agn
  rw [show ((1 : Int) - 1) * d.add = 0 from Int.zero_mul _, agL_zero, agH_zero, Int.one_mul]
  exact wholeD_self ok
theorem wholeD_eq {a b : Int} {L H : Option Int} (h : ¬ (L ≠ none ∧ L = H) → a = b) : wholeD a L H = wholeD b L H := by
  unfold wholeD
  by_cases c : L ≠ none ∧ L = H
  · rw [if_pos c, if_pos c]
  · rw [if_neg c, if_neg c, h c]
theorem agn_succ {d : Dd} (ok : d.Ok) {n : Int} (h : 1 ≤ n) : agn d (n + 1) = beh (agn d n) d := by
  have s : Sg d ((n - 1) * d.add) := sg_mul d (by omega)
  have ef : (n + 1 - 1) * d.add = (n - 1) * d.add + d.add := by
    rw [Int.add_sub_cancel, Int.sub_mul, Int.one_mul]; omega
  unfold beh
  rw [show (agn d n).low = agL d ((n - 1) * d.add) from wholeD_low, show (agn d n).high = agH d ((n - 1) * d.add) from wholeD_high, agL_next ok s, agH_next ok s, ← ef]
  show wholeD ((n + 1) * d.add) _ _ = _
  refine wholeD_eq fun c => ?_
  have c2 : ¬ (agL d ((n - 1) * d.add) ≠ none ∧ agL d ((n - 1) * d.add) = agH d ((n - 1) * d.add)) := by
    rintro ⟨z1, z2⟩
    refine c ⟨?_, ?_⟩
    · rw [ef, ← agL_next ok s]
      cases e : agL d ((n - 1) * d.add) with
      | none => exact absurd e z1
      | some l => exact Option.some_ne_none _
    · rw [ef, ← agL_next ok s, ← agH_next ok s, ← z2]
      cases e : agL d ((n - 1) * d.add) with
      | none => exact absurd e z1
      | some l => rfl
  rw [show (agn d n).add = _ from wholeD_add, if_neg c2, Int.add_mul, Int.one_mul]
def pw (d : Dd) : Nat → Dd
  | 0 => look
  | n + 1 => beh (pw d n) d
theorem pw_ok {d : Dd} (ok : d.Ok) : ∀ n, (pw d n).Ok
  | 0 => look_ok
  | n + 1 => beh_ok (pw_ok ok n) ok
theorem pw_one {d : Dd} (ok : d.Ok) : pw d 1 = d := look_beh ok
theorem agn_pw {d : Dd} (ok : d.Ok) : ∀ n : Nat, agn d ((n : Int) + 1) = pw d (n + 1)
  | 0 => by rw [pw_one ok]; exact agn_one ok
  | n + 1 => by
    rw [show ((n + 1 : Nat) : Int) + 1 = ((n : Int) + 1) + 1 by omega, agn_succ ok (by omega), agn_pw ok n] <;> rfl
theorem pw_add {d : Dd} (ok : d.Ok) (m : Nat) : ∀ n, pw d (m + n) = beh (pw d m) (pw d n)
  | 0 => (beh_look (pw_ok ok m)).symm
  | n + 1 => by
    show beh (pw d (m + n)) d = beh (pw d m) (beh (pw d n) d)
    rw [pw_add ok m n, beh_assoc (pw_ok ok m) (pw_ok ok n) ok]
theorem pw_mul {d : Dd} (ok : d.Ok) (m : Nat) : ∀ n, pw (pw d m) n = pw d (m * n)
  | 0 => rfl
  | n + 1 => by
    show beh (pw (pw d m) n) (pw d m) = _
    rw [pw_mul ok m n, Nat.mul_succ, pw_add ok]
theorem pw_in {d : Dd} {b : Int} (i : d.In b) (h : 0 ≤ b) : ∀ n : Nat, (pw d n).In (n * b)
  | 0 => by
    refine look_in ?_
    show (0 : Int) ≤ (0 : Nat) * b
    rw [show ((0 : Nat) : Int) = 0 from rfl, Int.zero_mul]
    exact Int.le_refl 0
  | n + 1 => by
    have := beh_in (pw_in i h n) i (Int.mul_nonneg (by omega) h) h
    rw [show ((n + 1 : Nat) : Int) * b = b + n * b by rw [Int.natCast_add, Int.add_mul]; omega]
    exact this
/-! ### where two deeds part -/
theorem seg_right {d : Dd} (ok : d.Ok) {p v : Int} (hpv : p < v) (hl : ∀ l, d.low = some l → ¬ (p < l - d.add ∧ l - d.add < v)) (hh : ∀ l, d.high = some l → ¬ (p < l - d.add ∧ l - d.add < v)) :
    (d.ap (p + 1) = d.ap p ∧ d.ap v = d.ap p) ∨ (d.ap (p + 1) = d.ap p + 1 ∧ d.ap v = d.ap p + (v - p)) := by
  cases e1 : d.low with
  | none =>
    cases e2 : d.high with
    | none => right; rw [ap_nn d _ e1 e2, ap_nn d _ e1 e2, ap_nn d _ e1 e2]; omega
    | some h =>
      have := hh h e2
      rw [ap_ns d _ h e1 e2, ap_ns d _ h e1 e2, ap_ns d _ h e1 e2]
      by_cases c : p + d.add < h
      · right
        rw [if_pos c]
        constructor
        · split <;> omega
        · split <;> omega
      · left
        rw [if_neg c, if_neg (by omega), if_neg (by omega)]
        exact ⟨rfl, rfl⟩
  | some l =>
    have := hl l e1
    cases e2 : d.high with
    | none =>
      rw [ap_sn d _ l e1 e2, ap_sn d _ l e1 e2, ap_sn d _ l e1 e2]
      by_cases c : l ≤ p + d.add
      · right
        have e : (if p + d.add > l then p + d.add else l) = p + d.add := by split <;> omega
        rw [e, if_pos (by omega), if_pos (by omega)]
        omega
      · left
        rw [if_neg (show ¬ p + d.add > l by omega), if_neg (show ¬ p + 1 + d.add > l by omega), if_neg (show ¬ v + d.add > l by omega)]
        exact ⟨rfl, rfl⟩
    | some h =>
      have := hh h e2
      have o := ok l h e1 e2
      have A := ap_cases d ok p
      have B := ap_cases d ok (p + 1)
      have C := ap_cases d ok v
      have A1 := A.1 l e1; have A2 := A.2.1 h e2
      have B1 := B.1 l e1; have B2 := B.2.1 h e2
      have C1 := C.1 l e1; have C2 := C.2.1 h e2
      by_cases c : l ≤ p + d.add
      · have A3 := A.2.2 (.inr ⟨l, e1, c⟩)
        by_cases c2 : p + d.add < h
        · have A4 := A3 (.inr ⟨h, e2, by omega⟩)
          have B4 := B.2.2 (.inr ⟨l, e1, by omega⟩) (.inr ⟨h, e2, by omega⟩)
          have C4 := C.2.2 (.inr ⟨l, e1, by omega⟩) (.inr ⟨h, e2, by omega⟩)
          right; omega
        · left; omega
      · left; omega
theorem seg_left {d : Dd} (ok : d.Ok) {p v : Int} (hpv : v < p) (hl : ∀ l, d.low = some l → ¬ (v < l - d.add ∧ l - d.add < p)) (hh : ∀ l, d.high = some l → ¬ (v < l - d.add ∧ l - d.add < p)) :
    (d.ap (p - 1) = d.ap p ∧ d.ap v = d.ap p) ∨ (d.ap (p - 1) = d.ap p - 1 ∧ d.ap v = d.ap p - (p - v)) := by
  cases e1 : d.low with
  | none =>
    cases e2 : d.high with
    | none => right; rw [ap_nn d _ e1 e2, ap_nn d _ e1 e2, ap_nn d _ e1 e2]; omega
    | some h =>
      have := hh h e2
      rw [ap_ns d _ h e1 e2, ap_ns d _ h e1 e2, ap_ns d _ h e1 e2]
      by_cases c : p + d.add ≤ h
      · right
        have e : (if p + d.add < h then p + d.add else h) = p + d.add := by split <;> omega
        rw [e, if_pos (by omega), if_pos (by omega)]
        omega
      · left
        rw [if_neg (show ¬ p + d.add < h by omega), if_neg (show ¬ p - 1 + d.add < h by omega), if_neg (show ¬ v + d.add < h by omega)]
        exact ⟨rfl, rfl⟩
  | some l =>
    have := hl l e1
    cases e2 : d.high with
    | none =>
      rw [ap_sn d _ l e1 e2, ap_sn d _ l e1 e2, ap_sn d _ l e1 e2]
      by_cases c : p + d.add > l
      · right
        rw [if_pos c]
        constructor
        · split <;> omega
        · split <;> omega
      · left
        rw [if_neg c, if_neg (by omega), if_neg (by omega)]
        exact ⟨rfl, rfl⟩
    | some h =>
      have := hh h e2
      have o := ok l h e1 e2
      have A := ap_cases d ok p
      have B := ap_cases d ok (p - 1)
      have C := ap_cases d ok v
      have A1 := A.1 l e1; have A2 := A.2.1 h e2
      have B1 := B.1 l e1; have B2 := B.2.1 h e2
      have C1 := C.1 l e1; have C2 := C.2.1 h e2
      by_cases c : p + d.add ≤ h
      · by_cases c2 : l < p + d.add
        · have A4 := A.2.2 (.inr ⟨l, e1, by omega⟩) (.inr ⟨h, e2, by omega⟩)
          have B4 := B.2.2 (.inr ⟨l, e1, by omega⟩) (.inr ⟨h, e2, by omega⟩)
          have C4 := C.2.2 (.inr ⟨l, e1, by omega⟩) (.inr ⟨h, e2, by omega⟩)
          right; omega
        · left; omega
      · left; omega
theorem greatest : ∀ (L : List Int) (v : Int), (∃ p, p ∈ L ∧ p ≤ v ∧ ∀ q ∈ L, q ≤ v → q ≤ p) ∨ ∀ q ∈ L, v < q
  | [], _ => .inr fun _ h => nomatch h
  | x :: r, v => by
    rcases greatest r v with ⟨p, h1, h2, h3⟩ | h
    · left
      by_cases c : x ≤ v ∧ p < x
      · exact ⟨x, List.mem_cons_self, c.1, fun q hq hv => by rcases List.mem_cons.mp hq with rfl | hq; exact Int.le_refl _; have := h3 q hq hv; omega⟩
      · exact ⟨p, List.mem_cons_of_mem _ h1, h2, fun q hq hv => by rcases List.mem_cons.mp hq with rfl | hq; omega; exact h3 q hq hv⟩
    · by_cases c : x ≤ v
      · exact .inl ⟨x, List.mem_cons_self, c, fun q hq hv => by rcases List.mem_cons.mp hq with rfl | hq; exact Int.le_refl _; have := h q hq; omega⟩
      · exact .inr fun q hq => by rcases List.mem_cons.mp hq with rfl | hq; omega; exact h q hq
theorem least : ∀ (L : List Int), L = [] ∨ ∃ p, p ∈ L ∧ ∀ q ∈ L, p ≤ q
  | [] => .inl rfl
  | x :: r => by
    right
    rcases least r with rfl | ⟨p, h1, h2⟩
    · exact ⟨x, List.mem_cons_self, fun q hq => by rcases List.mem_cons.mp hq with rfl | hq; exact Int.le_refl _; exact nomatch hq⟩
    · by_cases c : x ≤ p
      · exact ⟨x, List.mem_cons_self, fun q hq => by rcases List.mem_cons.mp hq with rfl | hq; exact Int.le_refl _; have := h2 q hq; omega⟩
      · exact ⟨p, List.mem_cons_of_mem _ h1, fun q hq => by rcases List.mem_cons.mp hq with rfl | hq; omega; exact h2 q hq⟩
def brkO (add : Int) : Option Int → List Int
  | none => []
  | some l => [l - add]
def brk (d : Dd) : List Int := brkO d.add d.low ++ brkO d.add d.high
theorem brk_low {d : Dd} {l : Int} (h : d.low = some l) : l - d.add ∈ brk d := by unfold brk; rw [h]; exact List.mem_append_left _ List.mem_cons_self
theorem brk_high {d : Dd} {l : Int} (h : d.high = some l) : l - d.add ∈ brk d := by unfold brk; rw [h]; exact List.mem_append_right _ List.mem_cons_self
theorem brk_agree {d e : Dd} (od : d.Ok) (oe : e.Ok) (h0 : d.ap 0 = e.ap 0) (h : ∀ p ∈ brk d ++ brk e, d.ap (p - 1) = e.ap (p - 1) ∧ d.ap p = e.ap p ∧ d.ap (p + 1) = e.ap (p + 1)) : d = e := by
  refine ap_ext od oe fun v => ?_
  rcases greatest (brk d ++ brk e) v with ⟨p, h1, h2, h3⟩ | h3
  · obtain ⟨g1, g2, g3⟩ := h p h1
    by_cases c : p = v
    · rw [← c]; exact g2
    · have R1 := seg_right od (show p < v by omega) (fun l hl z => by have := h3 _ (List.mem_append_left _ (brk_low hl)); omega) (fun l hl z => by have := h3 _ (List.mem_append_left _ (brk_high hl)); omega)
      have R2 := seg_right oe (show p < v by omega) (fun l hl z => by have := h3 _ (List.mem_append_right _ (brk_low hl)); omega) (fun l hl z => by have := h3 _ (List.mem_append_right _ (brk_high hl)); omega)
      omega
  · rcases least (brk d ++ brk e) with e0 | ⟨p, h1, h2⟩
    · have n1 : d.low = none := by cases q : d.low with | none => rfl | some l => have := List.mem_append_left (brk e) (brk_low q); rw [e0] at this; cases this
      have n2 : d.high = none := by cases q : d.high with | none => rfl | some l => have := List.mem_append_left (brk e) (brk_high q); rw [e0] at this; cases this
      have n3 : e.low = none := by cases q : e.low with | none => rfl | some l => have := List.mem_append_right (brk d) (brk_low q); rw [e0] at this; cases this
      have n4 : e.high = none := by cases q : e.high with | none => rfl | some l => have := List.mem_append_right (brk d) (brk_high q); rw [e0] at this; cases this
      rw [ap_nn d _ n1 n2, ap_nn e _ n3 n4] at h0 ⊢
      omega
    · obtain ⟨g1, g2, g3⟩ := h p h1
      have c := h3 p h1
      have R1 := seg_left od c (fun l hl z => by have := h2 _ (List.mem_append_left _ (brk_low hl)); omega) (fun l hl z => by have := h2 _ (List.mem_append_left _ (brk_high hl)); omega)
      have R2 := seg_left oe c (fun l hl z => by have := h2 _ (List.mem_append_right _ (brk_low hl)); omega) (fun l hl z => by have := h2 _ (List.mem_append_right _ (brk_high hl)); omega)
      omega
def cornO (add : Int) (o : Option Int) : List Int := match o with
  | none => []
  | some l => [l - add - 1, l - add, l - add + 1]
def corn (d : Dd) : List Int := cornO d.add d.low ++ cornO d.add d.high
theorem corn_of {d : Dd} {p : Int} (h : p ∈ brk d) : p - 1 ∈ corn d ∧ p ∈ corn d ∧ p + 1 ∈ corn d := by
  have key : ∀ o : Option Int, p ∈ brkO d.add o → p - 1 ∈ cornO d.add o ∧ p ∈ cornO d.add o ∧ p + 1 ∈ cornO d.add o := by
    intro o ho
    cases o with
    | none => cases ho
    | some l =>
      have e : p = l - d.add := by simpa [brkO] using ho
      subst e
      simp [cornO]
  rcases List.mem_append.mp h with h | h
  · obtain ⟨a, b, c⟩ := key _ h
    exact ⟨List.mem_append_left _ a, List.mem_append_left _ b, List.mem_append_left _ c⟩
  · obtain ⟨a, b, c⟩ := key _ h
    exact ⟨List.mem_append_right _ a, List.mem_append_right _ b, List.mem_append_right _ c⟩
theorem corn_agree {d e : Dd} (od : d.Ok) (oe : e.Ok) (h : ∀ v ∈ [0] ++ corn d ++ corn e, d.ap v = e.ap v) : d = e := by
  refine brk_agree od oe (h 0 (by simp)) fun p hp => ?_
  rcases List.mem_append.mp hp with hp | hp
  · obtain ⟨a, b, c⟩ := corn_of hp
    exact ⟨h _ (by simp [a]), h _ (by simp [b]), h _ (by simp [c])⟩
  · obtain ⟨a, b, c⟩ := corn_of hp
    exact ⟨h _ (by simp [a]), h _ (by simp [b]), h _ (by simp [c])⟩
theorem corn_len (d : Dd) : (corn d).length ≤ 6 := by
  unfold corn
  rw [List.length_append]
  have c3 : ∀ o : Option Int, (cornO d.add o).length ≤ 3 := fun o => by cases o <;> simp [cornO]
  have := c3 d.low; have := c3 d.high; omega
/-- the deed of a tuple that stays, its numbers within b -/
def Dq (K : PySem.W.Frag) (H : Hp) (a : Addr) (d : Dd) : Prop := TupAt K H a d.vs ∧ d.Ok
theorem Dq.arg {K : PySem.W.Frag} {H : Hp} {a : Addr} {d : Dd} (h : Dq K H a d) : DeedArg K H a d := ⟨h.1.ty, h.1.sq, h.2⟩
theorem Dq.same {K : PySem.W.Frag} {H H' : Hp} {a : Addr} {d : Dd} (e : Same H H') (h : Dq K H a d) : Dq K H' a d := ⟨h.1.same e, h.2⟩
theorem Dq.dp {K : PySem.W.Frag} {H : Hp} {a : Addr} {d : Dd} (h : Dq K H a d) : Dp K H (.ref a) (pd d) := pd_dp h.1.sq
theorem pw_in' {d : Dd} {b c : Int} (i : d.In b) (h : 0 ≤ b) {n m : Nat} (e : n ≤ m) (h2 : (m : Int) * b ≤ c) : (pw d n).In c := by
  refine In.le (pw_in i h n) (Int.le_trans (Int.mul_le_mul_of_nonneg_right (by omega) h) h2)
theorem two_t (t q : Nat) : t * (2 * q + 1) = 2 * t * q + t := by rw [Nat.mul_add, Nat.mul_one, ← Nat.mul_assoc, Nat.mul_comm t 2]
theorem two_u (t q : Nat) : t * (2 * q) = 2 * t * q := by rw [← Nat.mul_assoc, Nat.mul_comm t 2]
section
variable {P : Program} {w : World} {K : PySem.W.Frag} {mg : Str → Option Value} {base : Heap} (B : Bl K mg)
include B
/-! ### the program -/
def spIsWhole : Sp := fun vs H Q _ => ∃ i, vs = [.int i] ∧ Q (.bl true) H
theorem k_is_whole (D : Df K mg "is_whole" s_is_whole ["thing"]) : Dn P w K mg base 1 "is_whole" ["thing"] spIsWhole := by
  refine D.ok fun f fd F => F.ok sc_is_whole (fun vs H Q E h => ?_) (fun cdv A outer s H vs Q E hr h => ⟨_, (pss_one (ps_ret (pe_and (pe_callB (kk (K := K) (F := rIsi) (P := CallR _ _) call_isi) (by rfl) B.isinstance_ (by decide +kernel) (pa_cons (pv 0) (pa_cons (pe_bltn (v := .ty "int") (u := .type "int") (by rfl) B.int_ (by decide +kernel) rfl) pa_nil))) (pe_one (pe_not (pe_callB (kk (K := K) (F := rIsi) (P := CallR _ _) call_isi) (by rfl) B.isinstance_ (by decide +kernel) (pa_cons (pv 0) (pa_cons (pe_bltn (v := .ty "bool") (u := .type "bool") (by rfl) B.bool_ (by decide +kernel) rfl) pa_nil)))))))), ?_⟩)
  · obtain ⟨i, rfl, _⟩ := h; rfl
  · obtain ⟨i, rfl, q⟩ := h
    refine ⟨_, rfl, _, _, _, _, _, rfl, .ty _, .base (.int _), kit_ty (b := "int") (r := true) (by decide +kernel), _, rfl, iteT ?_⟩
    refine ⟨_, rfl, _, _, _, _, _, rfl, .ty _, .base (.int _), kit_ty (b := "bool") (r := false) (by decide +kernel), _, rfl, ?_⟩
    exact q
def spIsRow (K : PySem.W.Frag) : Sp := fun vs H Q _ => ∃ (a : Addr) (xs : List V) (n : Int), vs = [.ref a, .int n] ∧ TyX K H (.ref a) (.type "tuple") ∧ SqT K H a xs ∧ Q (.bl (decide (V.int (xs.length : Int) = V.int n))) H
theorem k_is_row_of (D : Df K mg "is_row_of" s_is_row_of ["thing", "many"]) : Dn P w K mg base 1 "is_row_of" ["thing", "many"] (spIsRow K) := by
  refine D.ok fun f fd F => F.ok sc_is_row_of (fun vs H Q E h => ?_) (fun cdv A outer s H vs Q E hr h => ⟨_, (pss_one (ps_ret (pe_and (pe_callB (kk (K := K) (F := rIsi) (P := CallR _ _) call_isi) (by rfl) B.isinstance_ (by decide +kernel) (pa_cons (pv 0) (pa_cons (pe_bltn (v := .ty "tuple") (u := .type "tuple") (by rfl) B.tuple_ (by decide +kernel) rfl) pa_nil))) (pe_one (pe_cmpR op_eq (pe_callB (lenK (K := K)) (by rfl) B.len_ (by decide +kernel) (pa_cons (pv 0) pa_nil)) (pv 1) (nomark _)))))), ?_⟩)
  · obtain ⟨a, xs, i, rfl, _⟩ := h; rfl
  · obtain ⟨a, xs, i, rfl, ht, hx, q⟩ := h
    refine ⟨_, rfl, _, _, _, _, _, rfl, .ty _, ht, kit_ty (b := "tuple") (r := true) (by decide +kernel), _, rfl, iteT ?_⟩
    exact ⟨_, rfl, a, xs, rfl, .inr hx, _, rfl, rfl, q⟩
def spWantWhole : Sp := fun vs H Q _ => ∃ i, vs = [.int i] ∧ Q .non H
theorem k_want_whole (D : Df K mg "want_whole" s_want_whole ["thing"]) (D_is_whole : Dn P w K mg base 1 "is_whole" ["thing"] spIsWhole) : Dn P w K mg base 2 "want_whole" ["thing"] spWantWhole := by
  refine D.ok fun f fd F => F.ok sc_want_whole (fun vs H Q E h => ?_) (fun cdv A outer s H vs Q E hr h => ⟨_, (pss_one (ps_if (pt_not (pt_val (pe_cD D_is_whole (hr.mono (by decide)) rfl (pa_cons (pv 0) pa_nil))))
     (pss_one ps_never)
     pss_nil)), ?_⟩)
  · obtain ⟨i, rfl, _⟩ := h; rfl
  · obtain ⟨i, rfl, q⟩ := h
    exact ⟨_, rfl, i, rfl, _, rfl, iteF q⟩
def spIsEnd : Sp := fun vs H Q _ => ∃ o, vs = [oV o] ∧ Q (.bl true) H
theorem k_is_end (D : Df K mg "is_end" s_is_end ["thing"]) (D_is_whole : Dn P w K mg base 1 "is_whole" ["thing"] spIsWhole) : Dn P w K mg base 2 "is_end" ["thing"] spIsEnd := by
  refine D.ok fun f fd F => F.ok sc_is_end (fun vs H Q E h => ?_) (fun cdv A outer s H vs Q E hr h => ⟨_, (pss_one (ps_ret (pe_or (pe_cmpR op_isN (pv 0) pe_non (nomark _)) (pe_one (pe_cD D_is_whole (hr.mono (by decide)) rfl (pa_cons (pv 0) pa_nil)))))), ?_⟩)
  · obtain ⟨i, rfl, _⟩ := h; rfl
  · obtain ⟨o, rfl, q⟩ := h
    cases o with
    | none => exact ⟨_, rfl, rfl, _, rfl, iteT q⟩
    | some i => exact ⟨_, rfl, rfl, _, rfl, iteF ⟨_, rfl, i, rfl, q⟩⟩
def spIsDeed (K : PySem.W.Frag) : Sp := fun vs H Q _ => ∃ a d, vs = [.ref a] ∧ DeedArg K H a d ∧ Q (.bl true) H
theorem k_is_deed (D : Df K mg "is_deed" s_is_deed ["thing"]) (D_is_whole : Dn P w K mg base 1 "is_whole" ["thing"] spIsWhole) (D_is_row_of : Dn P w K mg base 1 "is_row_of" ["thing", "many"] (spIsRow K)) (D_is_end : Dn P w K mg base 2 "is_end" ["thing"] spIsEnd) : Dn P w K mg base 3 "is_deed" ["thing"] (spIsDeed K) := by
  refine D.ok fun f fd F => F.ok sc_is_deed (fun vs H Q E h => ?_) (fun cdv A outer s H vs Q E hr h => ⟨_, (pss_cons (ps_if (PW.pt (pw_or (pt_not (pt_val (pe_cD D_is_row_of (hr.mono (by decide)) rfl (pa_cons (pv 0) (pa_cons pe_int pa_nil))))) (pw_or (pt_not (pt_val (pe_cD D_is_whole (hr.mono (by decide)) rfl (pa_cons (pe_ix (kk (K := K) (F := rIxT) (P := IxR _) ix_tup) (pv 0) pe_int (fun _ _ => rfl)) pa_nil)))) (pw_or (pt_not (pt_val (pe_cD D_is_end (hr.mono (by decide)) rfl (pa_cons (pe_ix (kk (K := K) (F := rIxT) (P := IxR _) ix_tup) (pv 0) pe_int (fun _ _ => rfl)) pa_nil)))) (pw_or1 (pt_not (pt_val (pe_cD D_is_end (hr.mono (by decide)) rfl (pa_cons (pe_ix (kk (K := K) (F := rIxT) (P := IxR _) ix_tup) (pv 0) pe_int (fun _ _ => rfl)) pa_nil)))))))))
      (pss_one (ps_ret pe_bl))
      pss_nil)
    (pss_cons (ps_asg (pv 0) (kk (K := K) (F := fun K => gTup K _ _) (P := PG _ _) (pg_tup rfl (pgs_cons (pg_name (i := 1) sc_is_deed.nd rfl (Or.inl rfl)) (pgs_cons (pg_name (i := 2) sc_is_deed.nd rfl (Or.inl rfl)) (pgs_cons (pg_name (i := 3) sc_is_deed.nd rfl (Or.inl rfl)) pgs_nil))))))
    (pss_cons (ps_if (PW.pt (pw_or (pt_cmpR op_isN (pv 2) pe_non (nomark _)) (pw_or1 (pt_cmpR op_isN (pv 3) pe_non (nomark _)))))
      (pss_one (ps_ret pe_bl))
      pss_nil)
    (pss_one (ps_ret (pe_or (pe_cmpR op_lt (pv 2) (pv 3) (nomark _)) (pe_one (pe_and (pe_cmpR op_eq (pv 2) (pv 3) (nomark _)) (pe_one (pe_cmpR op_eq (pv 1) pe_int (nomark _))))))))))), ?_⟩)
  · obtain ⟨a, d, rfl, _⟩ := h; rfl
  · obtain ⟨a, d, rfl, ⟨ht, hx, ok⟩, q⟩ := h
    refine ⟨_, rfl, a, _, 3, rfl, ht, hx, _, rfl, iteF ?_⟩
    refine ⟨_, rfl, a, _, _, _, rfl, rfl, hx, at_of (j := 0) rfl rfl, _, rfl, _, rfl, iteF ?_⟩
    refine ⟨_, rfl, a, _, _, _, rfl, rfl, hx, at_of (j := 1) rfl rfl, d.low, rfl, _, rfl, iteF ?_⟩
    refine ⟨_, rfl, a, _, _, _, rfl, rfl, hx, at_of (j := 2) rfl rfl, d.high, rfl, _, rfl, iteF ?_⟩
    refine ⟨_, rfl, a, _, rfl, hx, rfl, _, _, rfl, _, _, rfl, _, _, rfl, rfl, ?_⟩
    obtain ⟨add, low, high⟩ := d
    cases low with
    | none => exact ⟨_, rfl, rfl, _, rfl, iteT (iteT q)⟩
    | some l =>
      refine ⟨_, rfl, rfl, _, rfl, iteF ?_⟩
      cases high with
      | none => exact ⟨_, rfl, rfl, _, rfl, iteT q⟩
      | some h =>
        refine ⟨_, rfl, rfl, _, rfl, iteF ?_⟩
        refine ⟨_, rfl, _, rfl, _, _, rfl, rfl, _, rfl, ite2 (fun c => q) (fun c => ?_)⟩
        have := ok l h rfl rfl
        have c' : ¬ l < h := of_decide_eq_false (Bool.eq_false_iff.mpr c)
        obtain ⟨e1, e2⟩ : l = h ∧ add = 0 := by
          rcases this with h1 | h1
          · exact absurd h1 c'
          · exact h1
        subst e1 e2
        refine ⟨_, rfl, _, rfl, rfl, _, rfl, ?_⟩
        exact ifT (decide_eq_true rfl) ⟨_, rfl, rfl, q⟩
def spWantDeed (K : PySem.W.Frag) : Sp := fun vs H Q _ => ∃ a d, vs = [.ref a] ∧ DeedArg K H a d ∧ Q .non H
theorem k_want_deed (D : Df K mg "want_deed" s_want_deed ["thing"]) (D_is_deed : Dn P w K mg base 3 "is_deed" ["thing"] (spIsDeed K)) : Dn P w K mg base 4 "want_deed" ["thing"] (spWantDeed K) := by
  refine D.ok fun f fd F => F.ok sc_want_deed (fun vs H Q E h => ?_) (fun cdv A outer s H vs Q E hr h => ⟨_, (pss_one (ps_if (pt_not (pt_val (pe_cD D_is_deed (hr.mono (by decide)) rfl (pa_cons (pv 0) pa_nil))))
     (pss_one ps_never)
     pss_nil)), ?_⟩)
  · obtain ⟨a, d, rfl, _⟩ := h; rfl
  · obtain ⟨a, d, rfl, hd, q⟩ := h
    exact ⟨_, rfl, a, d, rfl, hd, _, rfl, iteF q⟩
def spPut (K : PySem.W.Frag) : Sp := fun vs H Q _ => ∃ a d v, vs = [.ref a, .int v] ∧ SqT K H a (Dd.vs d) ∧ Q (.int (d.ap v)) H
theorem k_put_through (D : Df K mg "put_through" s_put_through ["deed", "value"]) : Dn P w K mg base 1 "put_through" ["deed", "value"] (spPut K) := by
  refine D.ok fun f fd F => F.ok sc_put_through (fun vs H Q E h => ?_) (fun cdv A outer s H vs Q E hr h => ⟨_, (pss_cons (ps_asg (pv 0) (kk (K := K) (F := fun K => gTup K _ _) (P := PG _ _) (pg_tup rfl (pgs_cons (pg_name (i := 2) sc_put_through.nd rfl (Or.inl rfl)) (pgs_cons (pg_name (i := 3) sc_put_through.nd rfl (Or.inl rfl)) (pgs_cons (pg_name (i := 4) sc_put_through.nd rfl (Or.inl rfl)) pgs_nil))))))
    (pss_cons (ps_set (i := 5) sc_put_through.nd rfl (Or.inl rfl) (pe_op op_add (pv 1) (pv 2)))
    (pss_cons (ps_if (pt_cmpR op_notN (pv 3) pe_non (nomark _))
      (pss_one (ps_set (i := 5) sc_put_through.nd rfl (Or.inl rfl) (pe_callB (call_max2 rfl) (by rfl) B.max_ (by decide +kernel) (pa_cons (pv 3) (pa_cons (pv 5) pa_nil)))))
      pss_nil)
    (pss_one (ps_ret (pe_ifExp (pt_cmpR op_isN (pv 4) pe_non (nomark _)) (pv 5) (pe_callB (call_min2 rfl) (by rfl) B.min_ (by decide +kernel) (pa_cons (pv 4) (pa_cons (pv 5) pa_nil))))))))), ?_⟩)
  · obtain ⟨a, d, v, rfl, _⟩ := h; rfl
  · obtain ⟨a, d, v, rfl, hx, q⟩ := h
    refine ⟨_, rfl, a, _, rfl, hx, rfl, _, _, rfl, _, _, rfl, _, _, rfl, rfl, ?_⟩
    refine ⟨_, rfl, _, rfl, _, _, rfl, rfl, ?_⟩
    obtain ⟨add, low, high⟩ := d
    cases low with
    | none =>
      refine ⟨_, rfl, rfl, _, rfl, iteF ?_⟩
      cases high with
      | none => exact ⟨_, rfl, rfl, _, rfl, iteT ⟨_, rfl, q⟩⟩
      | some h => exact ⟨_, rfl, rfl, _, rfl, iteF ⟨_, rfl, _, rfl, _, _, rfl, q⟩⟩
    | some l =>
      refine ⟨_, rfl, rfl, _, rfl, iteT ⟨_, rfl, _, rfl, _, _, rfl, ?_⟩⟩
      cases high with
      | none => exact ⟨_, rfl, rfl, _, rfl, iteT ⟨_, rfl, q⟩⟩
      | some h => exact ⟨_, rfl, rfl, _, rfl, iteF ⟨_, rfl, _, rfl, _, _, rfl, q⟩⟩
def spDone (K : PySem.W.Frag) : Sp := fun vs H Q _ => ∃ a d v, vs = [.ref a, .int v] ∧ DeedArg K H a d ∧ Q (.int (d.ap v)) H
theorem k_done (D : Df K mg "done" s_done ["deed", "value"]) (D_want_whole : Dn P w K mg base 2 "want_whole" ["thing"] spWantWhole) (D_want_deed : Dn P w K mg base 4 "want_deed" ["thing"] (spWantDeed K)) (D_put_through : Dn P w K mg base 1 "put_through" ["deed", "value"] (spPut K)) : Dn P w K mg base 5 "done" ["deed", "value"] (spDone K) := by
  refine D.ok fun f fd F => F.ok sc_done (fun vs H Q E h => ?_) (fun cdv A outer s H vs Q E hr h => ⟨_, (pss_cons (ps_expr (pe_cD D_want_whole (hr.mono (by decide)) rfl (pa_cons (pv 1) pa_nil)))
    (pss_cons (ps_expr (pe_cD D_want_deed (hr.mono (by decide)) rfl (pa_cons (pv 0) pa_nil)))
    (pss_one (ps_ret (pe_cD D_put_through (hr.mono (by decide)) rfl (pa_cons (pv 0) (pa_cons (pv 1) pa_nil))))))), ?_⟩)
  · obtain ⟨a, d, v, rfl, _⟩ := h; rfl
  · obtain ⟨a, d, v, rfl, hd, q⟩ := h
    exact ⟨_, rfl, v, rfl, _, rfl, a, d, rfl, hd, _, rfl, _, rfl, a, d, v, rfl, hd.2.1, q⟩
/-! ### the law's own -/
def spPot (K : PySem.W.Frag) : Sp := fun vs H Q _ => ∃ (a : Addr) (ns : List Int) (k : Nat), vs = [.ref a, .int k] ∧ SqL K H a (ns.map V.int) ∧ k ≤ 60 ∧ ∀ p H', H p = none → Same H H' → PotAt H' p → Q (.ref p) H'
theorem k__law_pot (D : Df K mg "_law_pot" s__law_pot ["_law_script", "_law_k"]) : Dn P w K mg base 1 "_law_pot" ["_law_script", "_law_k"] (spPot K) := by
  refine D.ok fun f fd F => F.ok sc__law_pot (fun vs H Q E h => ?_) (fun cdv A outer s H vs Q E hr h => ⟨_, (pss_cons (ps_set (i := 2) sc__law_pot.nd rfl (Or.inl rfl) (pe_ifExp (pt_cmpR op_lt (pv 1) (pe_callB (lenK (K := K)) (by rfl) B.len_ (by decide +kernel) (pa_cons (pv 0) pa_nil)) (nomark _)) (pe_ix (kk (K := K) (F := rIxL) (P := IxR _) ix_list) (pv 0) (pv 1) (fun _ _ => rfl)) pe_int))
    (pss_cons (ps_set (i := 3) sc__law_pot.nd rfl (Or.inl rfl) (pe_op op_add (pe_op op_add (pe_op op_mulX (pe_op op_mod (pe_callB call_abs (by rfl) B.abs_ (by decide +kernel) (pa_cons (pv 2) pa_nil)) pe_int) (pe_ix (kk (K := K) (F := rIxL) (P := IxR _) ix_list) (pe_lst (pa_cons pe_int (pa_cons pe_int (pa_cons pe_int (pa_cons pe_int (pa_cons pe_int (pa_cons pe_int (pa_cons pe_int pa_nil)))))))) (pe_op op_mod (pv 1) pe_int) (fun _ _ => rfl))) (pe_op op_mulX pe_int (pv 1))) pe_int))
    (pss_one (ps_ret (pe_lst (pa_cons (pe_callB (call_max2 rfl) (by rfl) B.max_ (by decide +kernel) (pa_cons pe_int (pa_cons (pe_op op_sub (pe_callB call_abs (by rfl) B.abs_ (by decide +kernel) (pa_cons (pv 2) pa_nil)) (pe_op op_pow pe_int pe_int)) pa_nil))) (pa_cons (pv 3) pa_nil))))))), ?_⟩)
  · obtain ⟨a, ns, k, rfl, _⟩ := h; rfl
  · obtain ⟨a, ns, k, rfl, hs, hk, q⟩ := h
    refine ⟨_, rfl, _, rfl, a, _, rfl, .inl hs, _, _, rfl, rfl, _, rfl, ?_⟩
    refine ifE (fun v H' => H' = H ∧ ∃ c : Int, v = .int c) ?_ (fun c Q' q' => ?_) (fun c Q' q' => q' _ _ ⟨rfl, 0, rfl⟩)
    · rintro _ _ ⟨rfl, c, rfl⟩
      obtain ⟨z, hz, hz0, hz1⟩ := menu7 (k % 7) (by omega)
      have hm1 := Int.emod_nonneg (if c < 0 then -c else c) (by decide : (2147483629 : Int) ≠ 0)
      have hm2 := Int.emod_lt_of_pos (if c < 0 then -c else c) (by decide : (0 : Int) < 2147483629)
      refine ⟨_, rfl, _, rfl, _, _, rfl, rfl, pj, sz, fun l hl => ⟨_, rfl, _, _, rfl, rfl, pj, l, _, _, _, rfl, rfl, SqL.of upd_same, at_of (j := k % 7) (by omega) hz, ?_⟩⟩
      refine ⟨_, _, rfl, rfl, mulx 31 6 (by omega) (by omega), _, rfl, _, _, rfl, rfl, mulx 10 6 (by decide) (by omega), _, _, rfl, rfl, _, _, rfl, rfl, ?_⟩
      refine ⟨_, rfl, _, rfl, _, _, rfl, rfl, ⟨by decide, by decide, by decide⟩, _, _, rfl, rfl, _, _, rfl, _, rfl, sz, fun p hp => ?_⟩
      have n1 := (same_new hl (.lst _)).free hp
      refine q p _ n1 ((same_new hl _).trans (same_new hp _)) ⟨_, _, upd_same, ?_, ?_, ?_⟩
      · split <;> omega
      · have h1 := Int.mul_nonneg hm1 (Int.le_of_lt hz0)
        omega
      · have h1 : (if c < 0 then -c else c) % 2147483629 * z ≤ 2147483629 * 41 := Int.mul_le_mul (Int.le_of_lt hm2) hz1 (Int.le_of_lt hz0) (by decide)
        omega
    · have c' : (k : Int) < ((ns.map V.int).length : Nat) := of_decide_eq_true c
      have hk2 : k < ns.length := by rw [List.length_map] at c'; omega
      refine ⟨_, rfl, _, rfl, a, _, _, _, rfl, rfl, hs, at_of (j := k) rfl (by rw [List.getElem?_map, List.getElem?_eq_getElem hk2] <;> rfl), ?_⟩
      exact q' _ _ ⟨rfl, _, rfl⟩
def spTake : Sp := fun vs H Q _ => ∃ (p : Addr) (m : Int), vs = [.ref p, .int m] ∧ PotAt H p ∧ 1 ≤ m ∧ m < 2 ^ 200 ∧ ∀ (d : Int) H', 0 ≤ d → d < m → But p H H' → PotAt H' p → Q (.int d) H'
theorem k__law_take (D : Df K mg "_law_take" s__law_take ["_law_pot_here", "_law_many"]) : Dn P w K mg base 1 "_law_take" ["_law_pot_here", "_law_many"] spTake := by
  refine D.ok fun f fd F => F.ok sc__law_take (fun vs H Q E h => ?_) (fun cdv A outer s H vs Q E hr h => ⟨_, (pss_cons (ps_if (pt_cmpR op_gt (pe_ix (kk (K := K) (F := rIxL) (P := IxR _) ix_list) (pv 0) pe_int (fun _ _ => rfl)) pe_int (nomark _))
      (pss_cons (ps_asg (pe_callB call_divmodW (by rfl) B.divmod_ (by decide +kernel) (pa_cons (pe_ix (kk (K := K) (F := rIxL) (P := IxR _) ix_list) (pv 0) pe_int (fun _ _ => rfl)) (pa_cons (pv 1) pa_nil))) (kk (K := K) (F := fun K => gTup K _ _) (P := PG _ _) (pg_tup rfl (pgs_cons (pg_sub (pv 0) pe_int set_list) (pgs_cons (pg_name (i := 2) sc__law_take.nd rfl (Or.inl rfl)) pgs_nil)))))
      (pss_one (ps_ret (pv 2))))
      pss_nil)
    (pss_cons (ps_asg (pe_op op_mod (pe_op op_add (pe_op op_mulX (pe_ix (kk (K := K) (F := rIxL) (P := IxR _) ix_list) (pv 0) pe_int (fun _ _ => rfl)) pe_int) pe_int) pe_int) (pg_sub (pv 0) pe_int set_list))
    (pss_one (ps_ret (pe_op op_mod (pe_op op_fdivW (pe_op op_mod (pe_op op_mulX (pe_ix (kk (K := K) (F := rIxL) (P := IxR _) ix_list) (pv 0) pe_int (fun _ _ => rfl)) (pe_ix (kk (K := K) (F := rIxL) (P := IxR _) ix_list) (pv 0) pe_int (fun _ _ => rfl))) pe_int) pe_int) (pv 1)))))), ?_⟩)
  · obtain ⟨p, m, rfl, _⟩ := h; rfl
  · obtain ⟨p, m, rfl, ⟨a, b, hp, ha, hb, hb2⟩, hm, hm2, q⟩ := h
    refine ⟨_, rfl, p, _, _, _, rfl, rfl, SqL.of hp, at_of (j := 0) rfl rfl, _, _, rfl, rfl, _, rfl, ite2 (fun c => ?_) (fun c => ?_)⟩
    · refine ⟨_, rfl, p, _, _, _, rfl, rfl, SqL.of hp, at_of (j := 0) rfl rfl, _, rfl, _, _, rfl, divp_small (by omega) (Int.lt_trans hm2 (by decide)), fun t ht => ?_⟩
      have np : p ≠ t := ne_of_none hp ht
      refine ⟨t, _, rfl, SqT.of upd_same, rfl, _, _, rfl, _, rfl, p, _, _, _, rfl, rfl, by rw [upd_ne np]; exact hp, rfl, _, _, rfl, rfl, _, rfl, ?_⟩
      have h1 := Int.emod_nonneg a (by omega : m ≠ 0)
      have h2 := Int.emod_lt_of_pos a (by omega : 0 < m)
      have h3 := Int.ediv_nonneg ha (by omega : 0 ≤ m)
      exact q _ _ h1 h2 ((same_but (same_new ht _)).trans But.upd) ⟨_, _, upd_same, h3, hb, hb2⟩
    · have hm1 := Int.emod_nonneg (b * 48271 + 11) (by decide : (2147483647 : Int) ≠ 0)
      have hm3 := Int.emod_lt_of_pos (b * 48271 + 11) (by decide : (0 : Int) < 2147483647)
      refine ⟨_, rfl, p, _, _, _, rfl, rfl, SqL.of hp, at_of (j := 1) rfl rfl, _, _, rfl, rfl, mulx 40 16 (by omega) (by decide), _, _, rfl, rfl, _, _, rfl, rfl, pj, ?_⟩
      refine ⟨_, rfl, p, _, _, _, rfl, rfl, hp, rfl, ?_⟩
      refine ⟨_, rfl, p, _, _, _, rfl, rfl, SqL.of upd_same, at_of (j := 1) rfl rfl, _, rfl, p, _, _, _, rfl, rfl, SqL.of upd_same, at_of (j := 1) rfl rfl, _, _, rfl, rfl, mulx 31 31 (by omega) (by omega), ?_⟩
      refine ⟨_, _, rfl, rfl, pj, _, _, rfl, rfl, ⟨by decide, by decide⟩, _, rfl, _, _, rfl, rfl, hm, ?_⟩
      exact q _ _ (Int.emod_nonneg _ (by omega)) (Int.emod_lt_of_pos _ (by omega)) But.upd ⟨_, _, upd_same, ha, hm1, by omega⟩
def spNumber : Sp := fun vs H Q _ => ∃ (p : Addr), vs = [.ref p] ∧ PotAt H p ∧ ∀ (n : Int) H', -(10 ^ 29) ≤ n → n ≤ 10 ^ 29 → But p H H' → PotAt H' p → Q (.int n) H'
theorem k__law_number (D : Df K mg "_law_number" s__law_number ["_law_pot_here"]) (D__law_take : Dn P w K mg base 1 "_law_take" ["_law_pot_here", "_law_many"] spTake) : Dn P w K mg base 2 "_law_number" ["_law_pot_here"] spNumber := by
  refine D.ok fun f fd F => F.ok sc__law_number (fun vs H Q E h => ?_) (fun cdv A outer s H vs Q E hr h => ⟨_, (pss_cons (ps_set (i := 1) sc__law_number.nd rfl (Or.inl rfl) (pe_cD D__law_take (hr.mono (by decide)) rfl (pa_cons (pv 0) (pa_cons pe_int pa_nil))))
    (pss_cons (ps_set (i := 2) sc__law_number.nd rfl (Or.inl rfl) (pe_cD D__law_take (hr.mono (by decide)) rfl (pa_cons (pv 0) (pa_cons (pe_ix (kk (K := K) (F := rIxL) (P := IxR _) ix_list) (pe_lst (pa_cons pe_int (pa_cons pe_int (pa_cons pe_int (pa_cons (pe_op op_pow pe_int pe_int) (pa_cons (pe_op op_pow pe_int pe_int) (pa_cons (pe_op op_pow pe_int pe_int) pa_nil))))))) (pv 1) (fun _ _ => rfl)) pa_nil))))
    (pss_cons (ps_if (pt_cmpR op_gt (pv 1) pe_int (nomark _))
      (pss_one (ps_set (i := 2) sc__law_number.nd rfl (Or.inl rfl) (pe_op op_mod (pe_op op_mulX (pv 2) (pe_op op_pow pe_int pe_int)) (pe_op op_pow pe_int pe_int))))
      pss_nil)
    (pss_one (ps_ret (pe_op op_mulX (pv 2) (pe_op op_sub pe_int (pe_op op_mulX pe_int (pe_cD D__law_take (hr.mono (by decide)) rfl (pa_cons (pv 0) (pa_cons pe_int pa_nil))))))))))), ?_⟩)
  · obtain ⟨p, rfl, _⟩ := h; rfl
  · obtain ⟨p, rfl, hp, q⟩ := h
    refine ⟨_, rfl, p, 6, rfl, hp, by decide, by decide, fun d H1 d0 d6 b1 p1 => ?_⟩
    obtain ⟨j, rfl⟩ : ∃ j : Nat, d = (j : Int) := ⟨d.toNat, by omega⟩
    obtain ⟨z, hz, z1, z2⟩ := menu6 j (by omega)
    refine ⟨_, rfl, ?_⟩
    refine ⟨_, _, rfl, rfl, ⟨by decide, by decide, by decide⟩, _, _, rfl, rfl, ⟨by decide, by decide, by decide⟩, _, _, rfl, rfl, ⟨by decide, by decide, by decide⟩, sz, fun l hl => ?_⟩
    refine ⟨_, rfl, l, _, _, _, rfl, rfl, SqL.of upd_same, at_of (j := j) rfl hz, p, z, rfl, p1.same (same_new hl _), z1, Int.lt_of_le_of_lt z2 (by decide), fun e H2 e0 e1 b2 p2 => ?_⟩
    have b12 : But p H H2 := b1.trans ((same_but (same_new hl _)).trans b2)
    have e2 : e < 10 ^ 29 := by omega
    have key : ∀ (e : Int), 0 ≤ e → e < 10 ^ 29 → ∀ r : Option V, tRet (tOp (rI CMulX fun i j => .int (i * j)) (tVar 2) (tOp (rI0 fun i j => .int (i - j)) (tC (.int 1)) (tOp (rI CMulX fun i j => .int (i * j)) (tC (.int 2)) (tCall spTake [] E0 (tCons (tVar 0) (tCons (tC (.int 2)) tNil))))))
        { nx := fun _ H' => Q .non H', rt := Q } [some (.ref p), r, some (.int e)] H2 := by
      intro e e0 e1 r
      refine ⟨_, rfl, _, rfl, p, 2, rfl, p2, by decide, by decide, fun c H3 c0 c2 b3 p3 => ⟨_, _, rfl, rfl, mulx 2 2 (by decide) (by omega), _, _, rfl, rfl, _, _, rfl, rfl, mulx 97 2 (by omega) (by omega), ?_⟩⟩
      refine q _ _ ?_ ?_ (b12.trans b3) p3
      · have : c = 0 ∨ c = 1 := by omega
        rcases this with rfl | rfl <;> omega
      · have : c = 0 ∨ c = 1 := by omega
        rcases this with rfl | rfl <;> omega
    refine ⟨_, rfl, _, _, rfl, rfl, _, rfl, ite2 (fun c => ?_) (fun c => ?_)⟩
    · refine ⟨_, rfl, _, _, rfl, rfl, ⟨by decide, by decide, by decide⟩, _, _, rfl, rfl, mulx 97 120 (by omega) (by decide), _, _, rfl, rfl, ⟨by decide, by decide, by decide⟩, _, _, rfl, rfl, pj, ?_⟩
      exact key _ (Int.emod_nonneg _ (by decide)) (Int.emod_lt_of_pos _ (by decide)) _
    · exact key _ e0 e2 _
def spDeed : Sp := fun vs H Q _ => ∃ (p : Addr), vs = [.ref p] ∧ PotAt H p ∧ ∀ (a : Addr) (d : Dd) H', But p H H' → PotAt H' p → H a = none → H' a = some (.tup d.vs) → d.In (10 ^ 29 + 3) → d.Ok → Q (.ref a) H'
theorem k__law_deed (D : Df K mg "_law_deed" s__law_deed ["_law_pot_here"]) (D__law_take : Dn P w K mg base 1 "_law_take" ["_law_pot_here", "_law_many"] spTake) (D__law_number : Dn P w K mg base 2 "_law_number" ["_law_pot_here"] spNumber) : Dn P w K mg base 3 "_law_deed" ["_law_pot_here"] spDeed := by
  refine D.ok fun f fd F => F.ok sc__law_deed (fun vs H Q E h => ?_) (fun cdv A outer s H vs Q E hr h => ⟨_, (pss_cons (ps_set (i := 1) sc__law_deed.nd rfl (Or.inl rfl) (pe_cD D__law_take (hr.mono (by decide)) rfl (pa_cons (pv 0) (pa_cons pe_int pa_nil))))
    (pss_cons (ps_set (i := 2) sc__law_deed.nd rfl (Or.inl rfl) (pe_op op_mulX (pe_cD D__law_number (hr.mono (by decide)) rfl (pa_cons (pv 0) pa_nil)) (pe_callTy call_int1 (by rfl) B.int_ (by decide +kernel) (pa_cons (pe_cmpR op_gt (pe_cD D__law_take (hr.mono (by decide)) rfl (pa_cons (pv 0) (pa_cons pe_int pa_nil))) pe_int (nomark _)) pa_nil))))
    (pss_cons (ps_set (i := 3) sc__law_deed.nd rfl (Or.inl rfl) (pe_cD D__law_number (hr.mono (by decide)) rfl (pa_cons (pv 0) pa_nil)))
    (pss_cons (ps_if (pt_cmpR op_eq (pv 1) pe_int (nomark _))
      (pss_one (ps_ret (pe_tup (pa_cons (pv 2) (pa_cons pe_non (pa_cons pe_non pa_nil))))))
      pss_nil)
    (pss_cons (ps_if (pt_cmpR op_lt (pv 1) pe_int (nomark _))
      (pss_one (ps_ret (pe_ix (kk (K := K) (F := rIxL) (P := IxR _) ix_list) (pe_lst (pa_cons (pe_tup (pa_cons (pv 2) (pa_cons (pv 3) (pa_cons pe_non pa_nil)))) (pa_cons (pe_tup (pa_cons (pv 2) (pa_cons pe_non (pa_cons (pv 3) pa_nil)))) pa_nil))) (pe_op op_sub (pv 1) pe_int) (fun _ _ => rfl))))
      pss_nil)
    (pss_cons (ps_set (i := 4) sc__law_deed.nd rfl (Or.inl rfl) (pe_op op_add (pv 3) (pe_cD D__law_take (hr.mono (by decide)) rfl (pa_cons (pv 0) (pa_cons pe_int pa_nil)))))
    (pss_cons (ps_if (pt_cmpR op_gt (pv 1) pe_int (nomark _))
      (pss_one (ps_set (i := 4) sc__law_deed.nd rfl (Or.inl rfl) (pe_cD D__law_number (hr.mono (by decide)) rfl (pa_cons (pv 0) pa_nil))))
      pss_nil)
    (pss_one (ps_ret (pe_tup (pa_cons (pe_op op_mulX (pv 2) (pe_callTy call_int1 (by rfl) B.int_ (by decide +kernel) (pa_cons (pe_cmpR op_ne (pv 3) (pv 4) (nomark _)) pa_nil))) (pa_cons (pe_callB (call_min2 rfl) (by rfl) B.min_ (by decide +kernel) (pa_cons (pv 3) (pa_cons (pv 4) pa_nil))) (pa_cons (pe_callB (call_max2 rfl) (by rfl) B.max_ (by decide +kernel) (pa_cons (pv 3) (pa_cons (pv 4) pa_nil))) pa_nil))))))))))))), ?_⟩)
  · obtain ⟨p, rfl, _⟩ := h; rfl
  · obtain ⟨p, rfl, hp, q⟩ := h
    refine ⟨_, rfl, p, 7, rfl, hp, by decide, by decide, fun road H1 d0 d7 b1 p1 => ?_⟩
    refine ⟨_, rfl, p, rfl, p1, fun n H2 n0 n1 b2 p2 => ⟨_, rfl, p, 4, rfl, p2, by decide, by decide, fun c H3 c0 c4 b3 p3 => ⟨_, _, rfl, rfl, .inr ⟨_, rfl, ?_⟩⟩⟩⟩
    refine ⟨_, _, rfl, rfl, mulx 97 2 (by omega) (by split <;> decide), ?_⟩
    have ha : -(10 ^ 29) ≤ n * (if decide (0 < c) = true then (1 : Int) else 0) ∧ n * (if decide (0 < c) = true then (1 : Int) else 0) ≤ 10 ^ 29 := by split <;> omega
    obtain ⟨ha1, ha2⟩ := ha
    refine ⟨_, rfl, p, rfl, p3, fun one H4 o0 o1 b4 p4 => ?_⟩
    have b14 : But p H H4 := b1.trans (b2.trans (b3.trans b4))
    refine ⟨_, rfl, rfl, _, rfl, ite2 (fun _ => ?_) (fun _ => ?_)⟩
    · refine ⟨_, rfl, sz, fun a ha => ?_⟩
      have np : a ≠ p := fun e => by obtain ⟨_, _, h1, _⟩ := p4; rw [← e, ha] at h1; cases h1
      exact q a ⟨_, none, none⟩ _ (b14.trans (same_but (same_new ha _))) (p4.same (same_new ha _)) (b14.free np ha) upd_same (in_mk (by omega) (by omega) in_none in_none) (fun _ _ h => nomatch h)
    refine ⟨_, rfl, _, _, rfl, rfl, _, rfl, ite2 (fun c3 => ?_) (fun c3 => ?_)⟩
    · have c3' : road < 3 := of_decide_eq_true c3
      refine ⟨_, rfl, _, rfl, sz, fun a1 ha1 => ⟨_, rfl, _, rfl, sz, fun a2 ha2 => ⟨sz, fun l hl => ⟨_, rfl, _, _, rfl, rfl, ?_⟩⟩⟩⟩
      have e12 : a1 ≠ a2 := ne_of_none upd_same ha2
      have e1l : a1 ≠ l := ne_of_none (by rw [upd_ne e12]; exact upd_same) hl
      have e2l : a2 ≠ l := ne_of_none upd_same hl
      have S2 := (same_new ha1 (.tup [.int (n * (if decide (0 < c) = true then (1 : Int) else 0)), .int one, .non])).trans (same_new ha2 (.tup [.int (n * (if decide (0 < c) = true then (1 : Int) else 0)), .non, .int one]))
      have S3 := S2.trans (same_new hl (.lst [.ref a1, .ref a2]))
      have hp' : ∀ a, H4 a = none → a ≠ p := fun a ha e => by obtain ⟨_, _, h1, _⟩ := p4; rw [← e, ha] at h1; cases h1
      have f2 : H4 a2 = none := (same_new ha1 _).free ha2
      by_cases r1 : road = 1
      · subst r1
        refine ⟨l, _, _, _, rfl, rfl, SqL.of upd_same, at_of (j := 0) rfl rfl, ?_⟩
        exact q a1 ⟨_, some one, none⟩ _ (b14.trans (same_but S3)) (p4.same S3) (b14.free (hp' a1 ha1) ha1) (by rw [upd_ne e1l, upd_ne e12, upd_same] <;> rfl) (in_mk (by omega) (by omega) (in_some (by omega) (by omega)) in_none) (fun _ _ _ h => nomatch h)
      · have r2 : road = 2 := by
          have : road ≠ 0 := by intro e; subst e; simp_all
          omega
        subst r2
        refine ⟨l, _, _, _, rfl, rfl, SqL.of upd_same, at_of (j := 1) rfl rfl, ?_⟩
        exact q a2 ⟨_, none, some one⟩ _ (b14.trans (same_but S3)) (p4.same S3) (b14.free (hp' a2 f2) f2) (by rw [upd_ne e2l, upd_same] <;> rfl) (in_mk (by omega) (by omega) in_none (in_some (by omega) (by omega))) (fun _ _ h => nomatch h)
    refine ⟨_, rfl, _, rfl, p, 3, rfl, p4, by decide, by decide, fun m H5 m0 m3 b5 p5 => ⟨_, _, rfl, rfl, ?_⟩⟩
    have b15 := b14.trans b5
    have key : ∀ (add other : Int) (H6 : Hp), -(10 ^ 29) ≤ add → add ≤ 10 ^ 29 → But p H H6 → PotAt H6 p → -(10 ^ 29 + 3) ≤ other → other ≤ 10 ^ 29 + 3 → tRet (tTup (tCons (tOp (rI CMulX fun i j => V.int (i * j)) (tVar 2) (tCB (fun xs H Q => (∃ i, xs = [V.int i] ∧ Q (V.int i) H) ∨ ∃ k, xs = [V.bl k] ∧ Q (V.int (if k = true then 1 else 0)) H) (tCons (tOp rNe (tVar 3) (tVar 4)) tNil)))
        (tCons (tCB (fun xs H Q => ∃ i j, xs = [V.int i, V.int j] ∧ Q (V.int (if j < i then j else i)) H) (tCons (tVar 3) (tCons (tVar 4) tNil))) (tCons (tCB (fun xs H Q => ∃ i j, xs = [V.int i, V.int j] ∧ Q (V.int (if j > i then j else i)) H) (tCons (tVar 3) (tCons (tVar 4) tNil))) tNil))))
        { nx := fun _ H' => Q .non H', rt := Q } [some (.ref p), some (.int road), some (.int add), some (.int one), some (.int other)] H6 := by
      intro add other H6 ad1 ad2 b6 p6 o2 o3
      refine ⟨_, rfl, _, rfl, _, rfl, rfl, .inr ⟨_, rfl, ⟨_, _, rfl, rfl, mulx 97 2 (by omega) (by split <;> decide), _, rfl, _, rfl, _, _, rfl, _, rfl, _, rfl, _, _, rfl, sz, fun a ha => ?_⟩⟩⟩
      have np : a ≠ p := fun e => by obtain ⟨_, _, h1, _⟩ := p6; rw [← e, ha] at h1; cases h1
      refine q a ⟨_, some _, some _⟩ _ (b6.trans (same_but (same_new ha _))) (p6.same (same_new ha _)) (b6.free np ha) upd_same (in_mk ?_ ?_ (in_some ?_ ?_) (in_some ?_ ?_)) ?_
      · by_cases e : one = other
        · rw [if_neg (by simp [e])]; omega
        · rw [if_pos (by simp [e])]; omega
      · by_cases e : one = other
        · rw [if_neg (by simp [e])]; omega
        · rw [if_pos (by simp [e])]; omega
      · split <;> omega
      · split <;> omega
      · split <;> omega
      · split <;> omega
      · intro l h e1 e2
        cases e1; cases e2
        by_cases e : one = other
        · refine .inr ⟨?_, ?_⟩
          · split <;> split <;> omega
          · show _ * _ = (0 : Int)
            rw [if_neg (by simp [e])]; omega
        · left
          split <;> split <;> omega
    refine ⟨_, rfl, _, _, rfl, rfl, _, rfl, ite2 (fun _ => ?_) (fun _ => ?_)⟩
    · exact ⟨_, rfl, p, rfl, p5, fun o H6 o2 o3 b6 p6 => key _ o H6 ha1 ha2 (b15.trans b6) p6 (by omega) (by omega)⟩
    · exact key _ _ H5 ha1 ha2 b15 p5 (by omega) (by omega)
def spMakes (K : PySem.W.Frag) : Sp := fun vs H Q _ => ∃ (a : Addr) (d : Dd) (v : Int), vs = [.ref a, .int v] ∧ SqT K H a d.vs ∧ d.Ok ∧ Q (.int (d.ap v)) H
theorem k__law_makes (D : Df K mg "_law_makes" s__law_makes ["_law_deed_here", "_law_value"]) : Dn P w K mg base 1 "_law_makes" ["_law_deed_here", "_law_value"] (spMakes K) := by
  refine D.ok fun f fd F => F.ok sc__law_makes (fun vs H Q E h => ?_) (fun cdv A outer s H vs Q E hr h => ⟨_, (pss_cons (ps_asg (pv 0) (kk (K := K) (F := fun K => gTup K _ _) (P := PG _ _) (pg_tup rfl (pgs_cons (pg_name (i := 2) sc__law_makes.nd rfl (Or.inl rfl)) (pgs_cons (pg_name (i := 3) sc__law_makes.nd rfl (Or.inl rfl)) (pgs_cons (pg_name (i := 4) sc__law_makes.nd rfl (Or.inl rfl)) pgs_nil))))))
    (pss_cons (ps_set (i := 5) sc__law_makes.nd rfl (Or.inl rfl) (pe_op op_add (pv 1) (pv 2)))
    (pss_cons (ps_if (PW.pt (pw_and (pt_cmpR op_notN (pv 3) pe_non (nomark _)) (pw_and1 (pt_cmpR op_lt (pv 5) (pv 3) (nomark _)))))
      (pss_one (ps_ret (pv 3)))
      pss_nil)
    (pss_one (ps_ret (pe_ifExp (PW.pt (pw_and (pt_cmpR op_notN (pv 4) pe_non (nomark _)) (pw_and1 (pt_cmpR op_gt (pv 5) (pv 4) (nomark _))))) (pv 4) (pv 5))))))), ?_⟩)
  · obtain ⟨a, d, v, rfl, _⟩ := h; rfl
  · obtain ⟨a, d, v, rfl, hx, ok, q⟩ := h
    refine ⟨_, rfl, a, _, rfl, hx, rfl, _, _, rfl, _, _, rfl, _, _, rfl, rfl, ?_⟩
    refine ⟨_, rfl, _, rfl, _, _, rfl, rfl, ?_⟩
    obtain ⟨add, low, high⟩ := d
    rw [← mk_eq ok] at q
    cases low with
    | none =>
      refine ⟨_, rfl, rfl, _, rfl, iteF (iteF ?_)⟩
      cases high with
      | none => exact ⟨_, rfl, rfl, _, rfl, iteF (iteF ⟨_, rfl, q⟩)⟩
      | some h =>
        refine ⟨_, rfl, rfl, _, rfl, iteT ⟨_, rfl, _, rfl, _, _, rfl, rfl, _, rfl, ite2 (fun c => ⟨_, rfl, ?_⟩) (fun c => ⟨_, rfl, ?_⟩)⟩⟩
        · have c' : v + add > h := of_decide_eq_true c
          exact qi q (by simp only [mk, hi]; rw [if_pos c'])
        · have c' : ¬ v + add > h := of_decide_eq_false (Bool.eq_false_iff.mpr c)
          exact qi q (by simp only [mk, hi]; rw [if_neg c'])
    | some l =>
      refine ⟨_, rfl, rfl, _, rfl, iteT ⟨_, rfl, _, rfl, _, _, rfl, rfl, _, rfl, ite2 (fun c => ⟨_, rfl, ?_⟩) (fun c => ?_)⟩⟩
      · have c' : v + add < l := of_decide_eq_true c
        exact qi q (by simp only [mk]; rw [if_pos c'])
      · have c' : ¬ v + add < l := of_decide_eq_false (Bool.eq_false_iff.mpr c)
        cases high with
        | none => exact ⟨_, rfl, rfl, _, rfl, iteF (iteF ⟨_, rfl, qi q (by simp only [mk, hi]; rw [if_neg c'])⟩)⟩
        | some h =>
          refine ⟨_, rfl, rfl, _, rfl, iteT ⟨_, rfl, _, rfl, _, _, rfl, rfl, _, rfl, ite2 (fun c2 => ⟨_, rfl, ?_⟩) (fun c2 => ⟨_, rfl, ?_⟩)⟩⟩
          · have c2' : v + add > h := of_decide_eq_true c2
            exact qi q (by simp only [mk, hi]; rw [if_neg c', if_pos c2'])
          · have c2' : ¬ v + add > h := of_decide_eq_false (Bool.eq_false_iff.mpr c2)
            exact qi q (by simp only [mk, hi]; rw [if_neg c', if_neg c2'])
/-- ints within b -/
def Ints (b : Int) (ws : List Int) : Prop := ∀ x ∈ ws, -b ≤ x ∧ x ≤ b
def spTurns (K : PySem.W.Frag) : Sp := fun vs H Q _ => ∃ (a : Addr) (d : Dd) (b : Int), vs = [.ref a] ∧ SqT K H a d.vs ∧ 0 ≤ b ∧ d.In b ∧ ∀ (l : Addr) (ws : List Int) H', Same H H' → H l = none → H' l = some (.lst (ws.map V.int)) → Ints (2 * b + 1) ws → ws.length ≤ 20 → Q (.ref l) H'
theorem k__law_turns (D : Df K mg "_law_turns" s__law_turns ["_law_deed_here"]) : Dn P w K mg base 1 "_law_turns" ["_law_deed_here"] (spTurns K) := by
  refine D.ok fun f fd F => F.ok sc__law_turns (fun vs H Q E h => ?_) (fun cdv A outer s H vs Q E hr h => ⟨_, (pss_cons (ps_set (i := 1) sc__law_turns.nd rfl (Or.inl rfl) (pe_lst (pa_cons pe_int pa_nil)))
    (pss_cons (ps_for PassesOwn.never rfl (kk (K := K) (F := fun K => iTup K _) (P := PI _ _ _) (pi_tup (pe_slice (kk (K := K) (F := rSlT) (P := L2.SlR _) sl_tup) (pv 0) (po_some pe_int) po_none))) (pg_name (i := 2) sc__law_turns.nd rfl (Or.inl rfl))
      (pss_one (ps_if (pt_cmpR op_notN (pv 2) pe_non (nomark _))
       (pss_one (ps_expr (kk (K := K) (F := fun K => tBM K "list" _ _ _) (P := PE _ _) (pe_bm PySem.F.plainAttrs_list PySem.F.slot_list_extend PySem.F.type_list_extend mt_extend (pv 1) (pa_cons (pe_lst (pa_cons (pe_op op_sub (pe_op op_sub (pv 2) (pe_ix (kk (K := K) (F := rIxT) (P := IxR _) ix_tup) (pv 0) pe_int (fun _ _ => rfl))) pe_int) (pa_cons (pe_op op_sub (pv 2) (pe_ix (kk (K := K) (F := rIxT) (P := IxR _) ix_tup) (pv 0) pe_int (fun _ _ => rfl))) (pa_cons (pe_op op_add (pe_op op_sub (pv 2) (pe_ix (kk (K := K) (F := rIxT) (P := IxR _) ix_tup) (pv 0) pe_int (fun _ _ => rfl))) pe_int) (pa_cons (pe_op op_sub (pv 2) pe_int) (pa_cons (pv 2) (pa_cons (pe_op op_add (pv 2) pe_int) pa_nil))))))) pa_nil)))))
       pss_nil)))
    (pss_one (ps_ret (pv 1))))), ?_⟩)
  · obtain ⟨a, d, b, rfl, _⟩ := h; rfl
  · obtain ⟨a, d, b, rfl, hx, b0, hb, q⟩ := h
    refine ⟨sz, fun l hl => ?_⟩
    have S1 := same_new hl (.lst [V.int 0])
    refine ⟨_, rfl, _, rfl, a, _, rfl, same_tup S1 hx, by simp [HT.sIx, Dd.vs], fun t ht => ?_⟩
    have S2 := S1.trans (same_new ht (.tup (cutV d.vs (some 1) none)))
    have elt : l ≠ t := ne_of_none upd_same ht
    have ecut : cutV d.vs (some 1) none = [oV d.low, oV d.high] := rfl
    rw [ecut]
    refine ⟨t, rfl, ⟨_, SqT.of upd_same⟩, for_tup (K := K) (a := t) (xs := [oV d.low, oV d.high]) (fun i σ H2 => ∃ (ws : List Int) (v : Option V), σ = [some (.ref a), some (.ref l), v] ∧ Same H H2 ∧ SqT K H2 a d.vs ∧ H2 t = some (.tup [oV d.low, oV d.high]) ∧ H2 l = some (.lst (ws.map V.int)) ∧ Ints (2 * b + 1) ws ∧ ws.length ≤ 1 + 6 * i)
      ⟨[0], none, rfl, by rw [← ecut]; exact S2, same_tup (by rw [← ecut]; exact S2) hx, upd_same, by rw [upd_ne elt, upd_same] <;> rfl, by intro x hx; simp at hx; omega, by simp⟩ (fun i σ H2 _ ⟨_, _, _, _, _, h, _⟩ => SqT.of h) ?_ ?_⟩
    · rintro i y σ H2 hi ⟨ws, v, rfl, s2, hx2, h2, hl2, hI, hn⟩
      have hy : ∃ o : Option Int, y = oV o ∧ ∀ e, o = some e → -b ≤ e ∧ e ≤ b := by
        match i, hi with
        | 0, hi => exact ⟨d.low, (Option.some.inj hi).symm, hb.2.2.1⟩
        | 1, hi => exact ⟨d.high, (Option.some.inj hi).symm, hb.2.2.2⟩
        | n + 2, hi => simp at hi
      have hi2 : i < 2 := by
        have := (List.getElem?_eq_some_iff.mp hi).1
        simpa using this
      obtain ⟨o, rfl, ho⟩ := hy
      cases o with
      | none =>
        refine ⟨_, rfl, rfl, _, rfl, iteF ?_⟩
        exact ⟨ws, _, rfl, s2, hx2, h2, hl2, hI, by omega⟩
      | some e =>
        obtain ⟨e1, e2⟩ := ho e rfl
        obtain ⟨a1, a2, _⟩ := hb
        refine ⟨_, rfl, rfl, _, rfl, iteT ?_⟩
        refine ⟨_, rfl, .inl ⟨rfl, _, SqL.of hl2⟩, ?_⟩
        refine ⟨_, rfl, _, rfl, a, _, _, _, rfl, rfl, hx2, at_of (j := 0) rfl rfl, _, _, rfl, rfl, _, _, rfl, rfl, ?_⟩
        refine ⟨_, rfl, _, rfl, a, _, _, _, rfl, rfl, hx2, at_of (j := 0) rfl rfl, _, _, rfl, rfl, ?_⟩
        refine ⟨_, rfl, _, rfl, a, _, _, _, rfl, rfl, hx2, at_of (j := 0) rfl rfl, _, _, rfl, rfl, _, _, rfl, rfl, ?_⟩
        refine ⟨_, rfl, _, _, rfl, rfl, _, rfl, _, rfl, _, _, rfl, rfl, sz, fun m hm => ?_⟩
        have elm : l ≠ m := ne_of_none hl2 hm
        refine ⟨l, m, _, _, rfl, rfl, by rw [upd_ne elm]; exact hl2, upd_same, ?_, ?_⟩
        · rw [List.length_map]; exact small (by show ws.length + 6 ≤ 1000; omega)
        · have S3 : Same H2 (upd H2 m (.lst [.int (e - d.add - 1), .int (e - d.add), .int (e - d.add + 1), .int (e - 1), .int e, .int (e + 1)])) := same_new hm _
          refine ⟨ws ++ [e - d.add - 1, e - d.add, e - d.add + 1, e - 1, e, e + 1], _, rfl, ?_, ?_, ?_, ?_, ?_, ?_⟩
          · exact but_same hl s2 ((same_but S3).trans But.upd)
          · exact but_tup ((same_but S3).trans But.upd) hl2 hx2
          · rw [upd_ne (ne_of h2 hl2 (by intro z; cases z))]; exact S3 _ _ h2
          · rw [upd_same, List.map_append] <;> rfl
          · intro x hx
            rcases List.mem_append.mp hx with h | h
            · exact hI x h
            · simp only [List.mem_cons, List.mem_nil_iff, or_false] at h
              rcases h with rfl | rfl | rfl | rfl | rfl | rfl <;> omega
          · rw [List.length_append]; show ws.length + 6 ≤ _; omega
    · rintro σ H2 ⟨ws, v, rfl, s2, hx2, h2, hl2, hI, hn⟩
      exact ⟨_, rfl, q l ws H2 s2 hl hl2 hI (by have : ws.length ≤ 1 + 6 * 2 := hn; omega)⟩
def spWholeDeed : Sp := fun vs H Q _ => ∃ (add : Int) (low high : Option Int), vs = [.int add, oV low, oV high] ∧ NewD H Q (wholeD add low high)
theorem k_whole_deed (D : Df K mg "whole_deed" s_whole_deed ["add", "low", "high"]) : Dn P w K mg base 1 "whole_deed" ["add", "low", "high"] spWholeDeed := by
  refine D.ok fun f fd F => F.ok sc_whole_deed (fun vs H Q E h => ?_) (fun cdv A outer s H vs Q E hr h => ⟨_, (pss_cons (ps_if (PW.pt (pw_and (pt_cmpR op_notN (pv 1) pe_non (nomark _)) (pw_and1 (pt_cmpR op_eq (pv 1) (pv 2) (nomark _)))))
      (pss_one (ps_ret (pe_tup (pa_cons pe_int (pa_cons (pv 1) (pa_cons (pv 2) pa_nil))))))
      pss_nil)
    (pss_one (ps_ret (pe_tup (pa_cons (pv 0) (pa_cons (pv 1) (pa_cons (pv 2) pa_nil))))))), ?_⟩)
  · obtain ⟨add, low, high, rfl, _⟩ := h; rfl
  · obtain ⟨add, low, high, rfl, q⟩ := h
    have key : ∀ d : Dd, wholeD add low high = d → tRet (tTup (tCons (tC (.int d.add)) (tCons (tC (oV d.low)) (tCons (tC (oV d.high)) tNil)))) { nx := fun _ H' => Q .non H', rt := Q } (start ["add", "low", "high"] [.int add, oV low, oV high]) H := by
      rintro d rfl
      exact ⟨sz, fun p hp => q p _ (same_new hp _) hp upd_same⟩
    cases low with
    | none =>
      refine ⟨_, rfl, rfl, _, rfl, iteF (iteF ?_)⟩
      have := key ⟨add, none, high⟩ (if_neg fun z => z.1 rfl)
      exact ⟨_, rfl, _, rfl, _, rfl, this⟩
    | some l =>
      refine ⟨_, rfl, rfl, _, rfl, iteT ⟨_, rfl, _, rfl, ?_⟩⟩
      cases high with
      | none =>
        have := key ⟨add, some l, none⟩ (if_neg fun z => nomatch z.2)
        exact ⟨rfl, _, rfl, iteF ⟨_, rfl, _, rfl, _, rfl, this⟩⟩
      | some h =>
        refine ⟨rfl, _, rfl, ite2 (fun c => ?_) (fun c => ?_)⟩
        · have c' : l = h := by have := of_decide_eq_true c; cases this; rfl
          have := key ⟨0, some l, some h⟩ (if_pos ⟨Option.some_ne_none l, by rw [c']⟩)
          exact ⟨_, rfl, _, rfl, this⟩
        · have c' : ¬ l = h := fun e => c (decide_eq_true (by rw [e]))
          have := key ⟨add, some l, some h⟩ (if_neg fun z => c' (Option.some.inj z.2))
          exact ⟨_, rfl, _, rfl, _, rfl, this⟩
def spBehind (K : PySem.W.Frag) : Sp := fun vs H Q _ => ∃ (a b : Addr) (d e : Dd), vs = [.ref a, .ref b] ∧ SqT K H a d.vs ∧ SqT K H b e.vs ∧ NewD H Q (beh d e)
theorem k_one_behind (D : Df K mg "one_behind" s_one_behind ["one", "other"]) (D_put_through : Dn P w K mg base 1 "put_through" ["deed", "value"] (spPut K)) (D_whole_deed : Dn P w K mg base 1 "whole_deed" ["add", "low", "high"] spWholeDeed) : Dn P w K mg base 2 "one_behind" ["one", "other"] (spBehind K) := by
  refine D.ok fun f fd F => F.ok sc_one_behind (fun vs H Q E h => ?_) (fun cdv A outer s H vs Q E hr h => ⟨_, (pss_cons (ps_par (i := 2) (j := 3) rfl sc_one_behind.nd rfl rfl (by decide) rfl rfl (pa_cons (pe_ix (kk (K := K) (F := rIxT) (P := IxR _) ix_tup) (pv 1) pe_int (fun _ _ => rfl)) (pa_cons (pe_ix (kk (K := K) (F := rIxT) (P := IxR _) ix_tup) (pv 1) pe_int (fun _ _ => rfl)) pa_nil)) (by rfl))
    (pss_cons (ps_if (pt_cmpR op_notN (pe_ix (kk (K := K) (F := rIxT) (P := IxR _) ix_tup) (pv 0) pe_int (fun _ _ => rfl)) pe_non (nomark _))
      (pss_one (ps_set (i := 2) sc_one_behind.nd rfl (Or.inl rfl) (pe_cD D_put_through (hr.mono (by decide)) rfl (pa_cons (pv 1) (pa_cons (pe_ix (kk (K := K) (F := rIxT) (P := IxR _) ix_tup) (pv 0) pe_int (fun _ _ => rfl)) pa_nil)))))
      pss_nil)
    (pss_cons (ps_if (pt_cmpR op_notN (pe_ix (kk (K := K) (F := rIxT) (P := IxR _) ix_tup) (pv 0) pe_int (fun _ _ => rfl)) pe_non (nomark _))
      (pss_one (ps_set (i := 3) sc_one_behind.nd rfl (Or.inl rfl) (pe_cD D_put_through (hr.mono (by decide)) rfl (pa_cons (pv 1) (pa_cons (pe_ix (kk (K := K) (F := rIxT) (P := IxR _) ix_tup) (pv 0) pe_int (fun _ _ => rfl)) pa_nil)))))
      pss_nil)
    (pss_one (ps_ret (pe_cD D_whole_deed (hr.mono (by decide)) rfl (pa_cons (pe_op op_add (pe_ix (kk (K := K) (F := rIxT) (P := IxR _) ix_tup) (pv 0) pe_int (fun _ _ => rfl)) (pe_ix (kk (K := K) (F := rIxT) (P := IxR _) ix_tup) (pv 1) pe_int (fun _ _ => rfl))) (pa_cons (pv 2) (pa_cons (pv 3) pa_nil))))))))), ?_⟩)
  · obtain ⟨a, b, d, e, rfl, _⟩ := h; rfl
  · obtain ⟨a, b, d, e, rfl, ha, hb, q⟩ := h
    refine ⟨_, rfl, b, _, _, _, rfl, rfl, hb, at_of (j := 1) rfl rfl, _, rfl, b, _, _, _, rfl, rfl, hb, at_of (j := 2) rfl rfl, _, _, rfl, ?_⟩
    refine ⟨_, rfl, a, _, _, _, rfl, rfl, ha, at_of (j := 1) rfl rfl, rfl, _, rfl, ?_⟩
    have fin : ∀ lo hi : Option Int, endBeh e d.low e.low = lo → endBeh e d.high e.high = hi → tRet (tCall spWholeDeed [] E0 (tCons (tOp (rI0 fun i j => V.int (i + j)) (tOp (rIxT K) (tVar 0) (tC (.int 0))) (tOp (rIxT K) (tVar 1) (tC (.int 0)))) (tCons (tVar 2) (tCons (tVar 3) tNil)))) { nx := fun _ H' => Q .non H', rt := Q }
        [some (.ref a), some (.ref b), some (oV lo), some (oV hi)] H := by
      rintro _ _ rfl rfl
      exact ⟨_, rfl, a, _, _, _, rfl, rfl, ha, at_of (j := 0) rfl rfl, _, rfl, b, _, _, _, rfl, rfl, hb, at_of (j := 0) rfl rfl, _, _, rfl, rfl, _, rfl, _, rfl, _, _, _, rfl, q⟩
    have hi : ∀ lo : Option Int, endBeh e d.low e.low = lo → tSeq (tIfS (tTest (tOp (fun x y H Q => y = V.non ∧ Q (V.bl (!decide (x = V.non))) H) (tOp (rIxT K) (tVar 0) (tC (.int 2))) (tC .non))) (tAsg (tCall (spPut K) [] E0 (tCons (tVar 1) (tCons (tOp (rIxT K) (tVar 0) (tC (.int 2))) tNil))) (gName 3)) tNext)
        (tRet (tCall spWholeDeed [] E0 (tCons (tOp (rI0 fun i j => V.int (i + j)) (tOp (rIxT K) (tVar 0) (tC (.int 0))) (tOp (rIxT K) (tVar 1) (tC (.int 0)))) (tCons (tVar 2) (tCons (tVar 3) tNil))))) { nx := fun _ H' => Q .non H', rt := Q }
        [some (.ref a), some (.ref b), some (oV lo), some (oV e.high)] H := by
      intro lo hlo
      refine ⟨_, rfl, a, _, _, _, rfl, rfl, ha, at_of (j := 2) rfl rfl, rfl, _, rfl, ?_⟩
      cases eh : d.high with
      | none => exact iteF (fin lo e.high hlo (by rw [eh] <;> rfl))
      | some k =>
        refine iteT ⟨_, rfl, _, rfl, a, _, _, _, rfl, rfl, ha, at_of (j := 2) rfl rfl, b, e, k, by rw [eh] <;> rfl, hb, ?_⟩
        exact fin lo (some _) hlo (by rw [eh] <;> rfl)
    cases el : d.low with
    | none => exact iteF (hi e.low (by rw [el] <;> rfl))
    | some k =>
      refine iteT ⟨_, rfl, _, rfl, a, _, _, _, rfl, rfl, ha, at_of (j := 1) rfl rfl, b, e, k, by rw [el] <;> rfl, hb, ?_⟩
      exact hi (some _) (by rw [el] <;> rfl)
def spThen (K : PySem.W.Frag) : Sp := fun vs H Q _ => ∃ (a b : Addr) (d e : Dd), vs = [.ref a, .ref b] ∧ DeedArg K H a d ∧ DeedArg K H b e ∧ NewD H Q (beh d e)
theorem k_then (D : Df K mg "then" s_then ["one", "other"]) (D_want_deed : Dn P w K mg base 4 "want_deed" ["thing"] (spWantDeed K)) (D_one_behind : Dn P w K mg base 2 "one_behind" ["one", "other"] (spBehind K)) : Dn P w K mg base 5 "then" ["one", "other"] (spThen K) := by
  refine D.ok fun f fd F => F.ok sc_then (fun vs H Q E h => ?_) (fun cdv A outer s H vs Q E hr h => ⟨_, (pss_cons (ps_expr (pe_cD D_want_deed (hr.mono (by decide)) rfl (pa_cons (pv 0) pa_nil)))
    (pss_cons (ps_expr (pe_cD D_want_deed (hr.mono (by decide)) rfl (pa_cons (pv 1) pa_nil)))
    (pss_one (ps_ret (pe_cD D_one_behind (hr.mono (by decide)) rfl (pa_cons (pv 0) (pa_cons (pv 1) pa_nil))))))), ?_⟩)
  · obtain ⟨a, b, d, e, rfl, _⟩ := h; rfl
  · obtain ⟨a, b, d, e, rfl, ha, hb, q⟩ := h
    exact ⟨_, rfl, a, d, rfl, ha, _, rfl, b, e, rfl, hb, _, rfl, _, rfl, a, b, d, e, rfl, ha.2.1, hb.2.1, q⟩
def spAfter (K : PySem.W.Frag) : Sp := fun vs H Q _ => ∃ (a b : Addr) (d e : Dd), vs = [.ref a, .ref b] ∧ SqT K H a d.vs ∧ SqT K H b e.vs ∧ d.Ok ∧ e.Ok ∧ (∃ x y : Int, d.In x ∧ e.In y ∧ 0 ≤ x ∧ 0 ≤ y ∧ 3 * (y + x) + 2 ≤ 10 ^ 90) ∧ NewD H Q (beh d e)
theorem k__law_after (D : Df K mg "_law_after" s__law_after ["_law_one", "_law_other"]) (D__law_makes : Dn P w K mg base 1 "_law_makes" ["_law_deed_here", "_law_value"] (spMakes K)) : Dn P w K mg base 2 "_law_after" ["_law_one", "_law_other"] (spAfter K) := by
  refine D.ok fun f fd F => F.ok sc__law_after (fun vs H Q E h => ?_) (fun cdv A outer s H vs Q E hr h => ⟨_, (pss_cons (ps_set (i := 2) sc__law_after.nd rfl (Or.inl rfl) (pe_op op_mulX (pe_op op_pow pe_int pe_int) (pe_op op_pow pe_int pe_int)))
    (pss_cons (ps_setLc (i := 3) (own := [("_law_value", 7)]) (g := gName 7) (tt := tYes) rfl sc__law_after.nd rfl rfl (sw_true rfl rfl rfl (by decide +kernel)) (kk (K := K) (F := fun K => iTup K _) (P := PI _ _ _) (pi_tup (pe_tup (pa_cons (pe_op op_sub (pe_un un_neg (pv 2)) pe_int) (pa_cons (pe_un un_neg (pv 2)) (pa_cons (pv 2) (pa_cons (pe_op op_add (pv 2) pe_int) pa_nil))))))) (blkOk_by (own := [("_law_value", 7)]) (N := ["_law_one", "_law_other", "_law_far", "_law_some", "_law_low", "_law_high", "_law_add", "_law_value"]) (sc := defScope s__law_after) (by decide +kernel)) (fun _ _ _ _ _ => (pg_name (i := 7) sc__law_after.nd rfl (Or.inl rfl))) (fun _ _ _ _ _ => pts_nil) (fun _ _ _ _ _ => (pe_cD D__law_makes (hr.mono (by decide)) rfl (pa_cons (pv 1) (pa_cons (pe_cD D__law_makes (hr.mono (by decide)) rfl (pa_cons (pv 0) (pa_cons (pv 7) pa_nil))) pa_nil)))))
    (pss_cons (ps_set (i := 4) sc__law_after.nd rfl (Or.inl rfl) (pe_ifExp (pt_cmpR op_eq (pe_ix (kk (K := K) (F := rIxL) (P := IxR _) ix_list) (pv 3) pe_int (fun _ _ => rfl)) (pe_ix (kk (K := K) (F := rIxL) (P := IxR _) ix_list) (pv 3) pe_int (fun _ _ => rfl)) (nomark _)) (pe_ix (kk (K := K) (F := rIxL) (P := IxR _) ix_list) (pv 3) pe_int (fun _ _ => rfl)) pe_non))
    (pss_cons (ps_set (i := 5) sc__law_after.nd rfl (Or.inl rfl) (pe_ifExp (pt_cmpR op_eq (pe_ix (kk (K := K) (F := rIxL) (P := IxR _) ix_list) (pv 3) pe_int (fun _ _ => rfl)) (pe_ix (kk (K := K) (F := rIxL) (P := IxR _) ix_list) (pv 3) pe_int (fun _ _ => rfl)) (nomark _)) (pe_ix (kk (K := K) (F := rIxL) (P := IxR _) ix_list) (pv 3) pe_int (fun _ _ => rfl)) pe_non))
    (pss_cons (ps_set (i := 6) sc__law_after.nd rfl (Or.inl rfl) (pe_op op_add (pe_ix (kk (K := K) (F := rIxT) (P := IxR _) ix_tup) (pv 0) pe_int (fun _ _ => rfl)) (pe_ix (kk (K := K) (F := rIxT) (P := IxR _) ix_tup) (pv 1) pe_int (fun _ _ => rfl))))
    (pss_one (ps_ret (pe_tup (pa_cons (pe_op op_mulX (pv 6) (pe_callTy call_int1 (by rfl) B.int_ (by decide +kernel) (pa_cons (pe_or (pe_cmpR op_isN (pv 4) pe_non (nomark _)) (pe_one (pe_cmpR op_ne (pv 4) (pv 5) (nomark _)))) pa_nil))) (pa_cons (pv 4) (pa_cons (pv 5) pa_nil))))))))))), ?_⟩)
  · obtain ⟨a, b, d, e, rfl, _⟩ := h; rfl
  · obtain ⟨a, b, d, e, rfl, ha, hb, od, oe, ⟨bx, bY, id, ie, bx0, bY0, bxy⟩, q⟩ := h
    refine ⟨_, _, rfl, rfl, ⟨by decide, by decide, by decide⟩, _, _, rfl, rfl, ⟨by decide, by decide, by decide⟩, _, _, rfl, rfl, mulx 250 100 (by decide) (by decide), ?_⟩
    refine ⟨_, rfl, _, rfl, _, _, rfl, rfl, _, rfl, _, rfl, _, rfl, _, rfl, _, _, rfl, rfl, sz, fun t ht => ?_⟩
    have S1 := same_new ht (.tup [.int (-Fx - 1), .int (-Fx), .int Fx, .int (Fx + 1)])
    refine ⟨t, rfl, ⟨_, SqT.of upd_same⟩, fun D hD => ?_⟩
    let gs : List Int := [-Fx - 1, -Fx, Fx, Fx + 1].map fun v => e.ap (d.ap v)
    refine lc_tup (K := K) (a := t) (xs := [.int (-Fx - 1), .int (-Fx), .int Fx, .int (Fx + 1)]) (fun i H2 => Same H H2 ∧ H2 t = some (.tup [.int (-Fx - 1), .int (-Fx), .int Fx, .int (Fx + 1)]) ∧ H2 D = some (.lst ((gs.take i).map V.int)))
      ⟨S1.trans (same_new hD _), by rw [upd_ne (ne_of_none upd_same hD)]; exact upd_same, upd_same⟩ (fun i H2 _ h => SqT.of h.2.1) ?_ ?_
    · rintro i y H2 hi ⟨s2, h2, h3⟩
      obtain ⟨v, rfl, hg⟩ : ∃ v : Int, y = .int v ∧ gs[i]? = some (e.ap (d.ap v)) := by
        match i, hi with
        | 0, hi => exact ⟨_, (Option.some.inj hi).symm, rfl⟩
        | 1, hi => exact ⟨_, (Option.some.inj hi).symm, rfl⟩
        | 2, hi => exact ⟨_, (Option.some.inj hi).symm, rfl⟩
        | 3, hi => exact ⟨_, (Option.some.inj hi).symm, rfl⟩
        | n + 4, hi => simp at hi
      refine ⟨rfl, ?_⟩
      refine ⟨_, rfl, _, rfl, _, rfl, a, d, v, rfl, same_tup s2 ha, od, b, e, _, rfl, same_tup s2 hb, oe, ?_⟩
      refine ⟨_, h3, ?_, but_same (S1.free hD) s2 But.upd, ?_, ?_⟩
      · rw [List.length_map, List.length_take]; exact small1000 (by have : gs.length = 4 := rfl; omega)
      · rw [upd_ne (ne_of h2 h3 (by intro z; cases z))]; exact h2
      · rw [upd_same, take_snoc hg, List.map_append] <;> rfl
    · rintro H2 ⟨s2, h2, h3⟩
      have h4 : H2 D = some (.lst [.int (e.ap (d.ap (-Fx - 1))), .int (e.ap (d.ap (-Fx))), .int (e.ap (d.ap Fx)), .int (e.ap (d.ap (Fx + 1)))]) := h3
      have ob := beh_ok od oe
      have ib := beh_in id ie bx0 bY0
      have f1 := far_low (F := Fx) ob ib (by rw [Fx_eq]; exact bxy) (by omega)
      have f2 := far_high (F := Fx) ob ib (by rw [Fx_eq]; exact bxy) (by omega)
      rw [beh_ap od oe, beh_ap od oe] at f1 f2
      have fin : ∀ lo hi : Option Int, lo = (beh d e).low → hi = (beh d e).high → tSeq (tAsg (tOp (rI0 fun i j => V.int (i + j)) (tOp (rIxT K) (tVar 0) (tC (.int 0))) (tOp (rIxT K) (tVar 1) (tC (.int 0)))) (gName 6))
          (tRet (tTup (tCons (tOp (rI CMulX fun i j => .int (i * j)) (tVar 6) (tCB (fun xs H Q => (∃ i, xs = [V.int i] ∧ Q (V.int i) H) ∨ ∃ k, xs = [V.bl k] ∧ Q (V.int (if k = true then 1 else 0)) H) (tCons (tOrV (tOp (fun x y H Q => y = V.non ∧ Q (V.bl (decide (x = V.non))) H) (tVar 4) (tC .non)) (tOp rNe (tVar 4) (tVar 5))) tNil))) (tCons (tVar 4) (tCons (tVar 5) tNil)))))
          { nx := fun _ H' => Q .non H', rt := Q } [some (.ref a), some (.ref b), some (.int Fx), some (.ref D), some (oV lo), some (oV hi), none, none] H2 := by
        rintro _ _ rfl rfl
        refine ⟨_, rfl, a, _, _, _, rfl, rfl, same_tup s2 ha, at_of (j := 0) rfl rfl, _, rfl, b, _, _, _, rfl, rfl, same_tup s2 hb, at_of (j := 0) rfl rfl, _, _, rfl, rfl, ?_⟩
        have i1 := id.1; have i2 := id.2.1; have i3 := ie.1; have i4 := ie.2.1
        have last : ∀ k : Bool, (d.add + e.add) * (if k = true then 1 else 0) = (beh d e).add → (fun (y : V) (H1 : Hp) => tCons (tVar 4) (tCons (tVar 5) tNil) [some (.ref a), some (.ref b), some (.int Fx), some (.ref D), some (oV (beh d e).low), some (oV (beh d e).high), some (.int (d.add + e.add)), none] H1 fun ys H1 => (y :: ys).length ≤ sizeLine ∧ ∀ p, H1 p = none → Q (.ref p) (upd H1 p (.tup (y :: ys)))) (.int ((d.add + e.add) * (if k = true then 1 else 0))) H2 := by
          intro k hk
          rw [hk]
          exact ⟨_, rfl, _, rfl, sz, fun p hp => q p _ (s2.trans (same_new hp _)) (s2.free hp) upd_same⟩
        have hadd : (beh d e).add = if (beh d e).low ≠ none ∧ (beh d e).low = (beh d e).high then 0 else d.add + e.add := by
          show (wholeD _ _ _).add = _
          rw [wholeD_add]
          show _ = if (wholeD _ _ _).low ≠ none ∧ (wholeD _ _ _).low = (wholeD _ _ _).high then 0 else d.add + e.add
          rw [wholeD_low, wholeD_high]
        refine ⟨_, rfl, _, rfl, rfl, _, rfl, ?_⟩
        cases el : (beh d e).low with
        | none =>
          refine iteT (.inr ⟨true, rfl, ⟨_, _, rfl, rfl, mulx 300 2 (by omega) (by decide), ?_⟩⟩)
          have := last true (by rw [hadd]; exact addT ⟨fun _ z => z.1 el, fun _ => rfl⟩)
          rw [el] at this
          exact this
        | some l =>
          refine iteF ⟨_, rfl, _, rfl, ?_⟩
          cases eh : (beh d e).high with
          | none =>
            refine ⟨rfl, .inr ⟨true, rfl, ⟨_, _, rfl, rfl, mulx 300 2 (by omega) (by decide), ?_⟩⟩⟩
            have := last true (by rw [hadd]; exact addT ⟨fun _ z => (by rw [el, eh] at z; exact (nomatch z.2)), fun _ => rfl⟩)
            rw [el, eh] at this
            exact this
          | some h =>
            refine ⟨rfl, .inr ⟨_, rfl, ⟨_, _, rfl, rfl, mulx 300 2 (by omega) (by split <;> decide), ?_⟩⟩⟩
            have := last (!decide (V.int l = V.int h)) (by
              rw [hadd]
              refine addT ⟨fun z w => ?_, fun z => ?_⟩
              · rw [el, eh] at w
                have := Option.some.inj w.2
                rw [decide_eq_true (by rw [this])] at z
                cases z
              · rw [decide_eq_false (fun w => z ⟨by rw [el]; exact Option.some_ne_none l, by rw [el, eh]; cases w; rfl⟩)] <;> rfl)
            rw [el, eh] at this
            exact this
      have mid : ∀ lo : Option Int, lo = (beh d e).low → tSeq (tAsg (tIf (tTest (tOp rEq (tOp (rIxL K) (tVar 3) (tC (.int 2))) (tOp (rIxL K) (tVar 3) (tC (.int 3))))) (tOp (rIxL K) (tVar 3) (tC (.int 2))) (tC .non)) (gName 5)) (tSeq (tAsg (tOp (rI0 fun i j => V.int (i + j)) (tOp (rIxT K) (tVar 0) (tC (.int 0))) (tOp (rIxT K) (tVar 1) (tC (.int 0)))) (gName 6))
          (tRet (tTup (tCons (tOp (rI CMulX fun i j => .int (i * j)) (tVar 6) (tCB (fun xs H Q => (∃ i, xs = [V.int i] ∧ Q (V.int i) H) ∨ ∃ k, xs = [V.bl k] ∧ Q (V.int (if k = true then 1 else 0)) H) (tCons (tOrV (tOp (fun x y H Q => y = V.non ∧ Q (V.bl (decide (x = V.non))) H) (tVar 4) (tC .non)) (tOp rNe (tVar 4) (tVar 5))) tNil))) (tCons (tVar 4) (tCons (tVar 5) tNil))))))
          { nx := fun _ H' => Q .non H', rt := Q } [some (.ref a), some (.ref b), some (.int Fx), some (.ref D), some (oV lo), none, none, none] H2 := by
        intro lo hlo
        refine ⟨_, rfl, D, _, _, _, rfl, rfl, SqL.of h4, at_of (j := 2) rfl rfl, _, rfl, D, _, _, _, rfl, rfl, SqL.of h4, at_of (j := 3) rfl rfl, rfl, _, rfl, ?_⟩
        by_cases c : e.ap (d.ap Fx) = e.ap (d.ap (Fx + 1))
        · refine ifT (decide_eq_true (by rw [c])) ⟨_, rfl, D, _, _, _, rfl, rfl, SqL.of h4, at_of (j := 2) rfl rfl, ?_⟩
          exact fin lo (some _) hlo (by rw [← f2, if_pos c])
        · exact ifF (decide_eq_false (fun z => c (V.int.inj z))) (fin lo none hlo (by rw [← f2, if_neg c]))
      refine ⟨_, rfl, D, _, _, _, rfl, rfl, SqL.of h4, at_of (j := 0) rfl rfl, _, rfl, D, _, _, _, rfl, rfl, SqL.of h4, at_of (j := 1) rfl rfl, rfl, _, rfl, ?_⟩
      by_cases c : e.ap (d.ap (-Fx - 1)) = e.ap (d.ap (-Fx))
      · refine ifT (decide_eq_true (by rw [c])) ⟨_, rfl, D, _, _, _, rfl, rfl, SqL.of h4, at_of (j := 1) rfl rfl, ?_⟩
        exact mid (some _) (by rw [← f1, if_pos c])
      · exact ifF (decide_eq_false (fun z => c (V.int.inj z))) (mid none (by rw [← f1, if_neg c]))
def spWantFrom : Sp := fun vs H Q _ => ∃ (i m : Int), vs = [.int i, .int m] ∧ m ≤ i ∧ Q .non H
theorem k_want_from (D : Df K mg "want_from" s_want_from ["thing", "least"]) (D_is_whole : Dn P w K mg base 1 "is_whole" ["thing"] spIsWhole) : Dn P w K mg base 2 "want_from" ["thing", "least"] spWantFrom := by
  refine D.ok fun f fd F => F.ok sc_want_from (fun vs H Q E h => ?_) (fun cdv A outer s H vs Q E hr h => ⟨_, (pss_one (ps_if (PW.pt (pw_or (pt_not (pt_val (pe_cD D_is_whole (hr.mono (by decide)) rfl (pa_cons (pv 0) pa_nil)))) (pw_or1 (pt_cmpR op_lt (pv 0) (pv 1) (nomark _)))))
     (pss_one ps_never)
     pss_nil)), ?_⟩)
  · obtain ⟨i, m, rfl, _⟩ := h; rfl
  · obtain ⟨i, m, rfl, hm, q⟩ := h
    exact ⟨_, rfl, i, rfl, _, rfl, iteF ⟨_, rfl, _, rfl, _, _, rfl, rfl, _, rfl, ifF (decide_eq_false (by omega)) q⟩⟩
def spAgain (K : PySem.W.Frag) : Sp := fun vs H Q _ => ∃ (a : Addr) (d : Dd) (n : Nat), vs = [.ref a, .int n] ∧ DeedArg K H a d ∧ d.add.natAbs < 2 ^ 10000 ∧ n < 2 ^ 10000 ∧ ∀ (r : Addr) H', Same H H' → TupAt K H' r (pw d n).vs → Q (.ref r) H'
theorem k_again (D : Df K mg "again" s_again ["deed", "many"]) (D_want_from : Dn P w K mg base 2 "want_from" ["thing", "least"] spWantFrom) (D_want_deed : Dn P w K mg base 4 "want_deed" ["thing"] (spWantDeed K)) (D_whole_deed : Dn P w K mg base 1 "whole_deed" ["add", "low", "high"] spWholeDeed) : Dn P w K mg base 5 "again" ["deed", "many"] (spAgain K) := by
  refine D.ok fun f fd F => F.ok sc_again (fun vs H Q E h => ?_) (fun cdv A outer s H vs Q E hr h => ⟨_, (pss_cons (ps_expr (pe_cD D_want_from (hr.mono (by decide)) rfl (pa_cons (pv 1) (pa_cons pe_int pa_nil))))
    (pss_cons (ps_expr (pe_cD D_want_deed (hr.mono (by decide)) rfl (pa_cons (pv 0) pa_nil)))
    (pss_cons (ps_if (pt_cmpR op_eq (pv 1) pe_int (nomark _))
      (pss_one (ps_ret (pe_glob (v := .ref B.LOOK_.choose) (by rfl) B.LOOK_.choose_spec.1 rfl)))
      pss_nil)
    (pss_cons (ps_asg (pv 0) (kk (K := K) (F := fun K => gTup K _ _) (P := PG _ _) (pg_tup rfl (pgs_cons (pg_name (i := 2) sc_again.nd rfl (Or.inl rfl)) (pgs_cons (pg_name (i := 3) sc_again.nd rfl (Or.inl rfl)) (pgs_cons (pg_name (i := 4) sc_again.nd rfl (Or.inl rfl)) pgs_nil))))))
    (pss_cons (ps_set (i := 5) sc_again.nd rfl (Or.inl rfl) (pe_op op_mulX (pe_op op_sub (pv 1) pe_int) (pv 2)))
    (C8.pss_cut (ps_if (PW.pt (pw_and (pt_cmpR op_notN (pv 3) pe_non (nomark _)) (pw_and1 (pt_cmpR op_gt (pv 5) pe_int (nomark _)))))
      (pss_one (ps_set (i := 3) sc_again.nd rfl (Or.inl rfl) (pe_ifExp (pt_cmpR op_isN (pv 4) pe_non (nomark _)) (pe_op op_add (pv 3) (pv 5)) (pe_callB (call_min2 rfl) (by rfl) B.min_ (by decide +kernel) (pa_cons (pv 4) (pa_cons (pe_op op_add (pv 3) (pv 5)) pa_nil))))))
      pss_nil)
    (C8.pss_cut (ps_if (PW.pt (pw_and (pt_cmpR op_notN (pv 4) pe_non (nomark _)) (pw_and1 (pt_cmpR op_lt (pv 5) pe_int (nomark _)))))
      (pss_one (ps_set (i := 4) sc_again.nd rfl (Or.inl rfl) (pe_ifExp (pt_cmpR op_isN (pv 3) pe_non (nomark _)) (pe_op op_add (pv 4) (pv 5)) (pe_callB (call_max2 rfl) (by rfl) B.max_ (by decide +kernel) (pa_cons (pv 3) (pa_cons (pe_op op_add (pv 4) (pv 5)) pa_nil))))))
      pss_nil)
    (pss_one (ps_ret (pe_cD D_whole_deed (hr.mono (by decide)) rfl (pa_cons (pe_op op_mulX (pv 1) (pv 2)) (pa_cons (pv 3) (pa_cons (pv 4) pa_nil))))))))))))), ?_⟩)
  · obtain ⟨a, d, n, rfl, _⟩ := h; rfl
  · obtain ⟨a, d, n, rfl, ha, hd, hn, q⟩ := h
    refine ⟨_, rfl, _, 0, rfl, by omega, _, rfl, a, d, rfl, ha, _, rfl, rfl, _, rfl, ite2 (fun c => ?_) (fun c => ?_)⟩
    · have c' : n = 0 := by have := V.int.inj (of_decide_eq_true c); omega
      subst c'
      exact q _ H (Same.refl H) (.inr B.LOOK_.choose_spec.2)
    have c' : 0 < n := by
      rcases Nat.eq_zero_or_pos n with e | e
      · exact absurd (by rw [e] <;> rfl) c
      · exact e
    obtain ⟨m, rfl⟩ : ∃ m, n = m + 1 := ⟨n - 1, by omega⟩
    have hfin : agn d (((m + 1 : Nat) : Int)) = pw d (m + 1) := agn_pw ha.2.2 m
    refine ⟨_, rfl, a, _, rfl, ha.2.1, rfl, _, _, rfl, _, _, rfl, _, _, rfl, rfl, ?_⟩
    refine ⟨_, rfl, _, _, rfl, rfl, _, rfl, _, _, rfl, rfl, mulx 10001 10000 (by omega) hd, ?_⟩
    have hfar : ∃ far : Int, far = (((m + 1 : Nat) : Int) - 1) * d.add := ⟨_, rfl⟩
    obtain ⟨far, efar⟩ := hfar
    have eA : agn d (((m + 1 : Nat) : Int)) = wholeD (((m + 1 : Nat) : Int) * d.add) (agL d far) (agH d far) := by rw [efar] <;> rfl
    rw [hfin] at eA
    refine ⟨fun σ H2 => H2 = H ∧ σ = [some (.ref a), some (.int ((m + 1 : Nat) : Int)), some (.int d.add), some (oV (agL d far)), some (oV d.high), some (.int far)], ?_, ?_⟩
    · subst efar
      cases e1 : d.low with
      | none => exact ⟨_, rfl, rfl, _, rfl, iteF (iteF ⟨rfl, by rw [agL_n e1] <;> rfl⟩)⟩
      | some l =>
        refine ⟨_, rfl, rfl, _, rfl, iteT ⟨_, rfl, _, _, rfl, rfl, _, rfl, ite2 (fun c => ?_) (fun c => ?_)⟩⟩
        · have c2 : (((m + 1 : Nat) : Int) - 1) * d.add > 0 := of_decide_eq_true c
          cases e2 : d.high with
          | none => exact ⟨_, rfl, rfl, _, rfl, iteT ⟨_, rfl, _, rfl, _, _, rfl, rfl, rfl, by rw [agL_p e1 e2 c2] <;> rfl⟩⟩
          | some h => exact ⟨_, rfl, rfl, _, rfl, iteF ⟨_, rfl, _, rfl, _, rfl, _, _, rfl, rfl, _, _, rfl, rfl, by rw [agL_q e1 e2 c2] <;> rfl⟩⟩
        · have c2 : ¬ (((m + 1 : Nat) : Int) - 1) * d.add > 0 := of_decide_eq_false (Bool.eq_false_iff.mpr c)
          exact ⟨rfl, by rw [agL_z e1 c2] <;> rfl⟩
    rintro _ H2 ⟨rfl, rfl⟩
    refine ⟨fun σ H3 => H3 = H2 ∧ σ = [some (.ref a), some (.int ((m + 1 : Nat) : Int)), some (.int d.add), some (oV (agL d far)), some (oV (agH d far)), some (.int far)], ?_, ?_⟩
    · cases e2 : d.high with
      | none => exact ⟨_, rfl, rfl, _, rfl, iteF (iteF ⟨rfl, by rw [agH_n e2] <;> rfl⟩)⟩
      | some h =>
        refine ⟨_, rfl, rfl, _, rfl, iteT ⟨_, rfl, _, _, rfl, rfl, _, rfl, ite2 (fun c => ?_) (fun c => ?_)⟩⟩
        · have c2 : far < 0 := of_decide_eq_true c
          cases e1 : d.low with
          | none =>
            rw [agL_n e1, agH_p e2 e1 c2]
            exact ⟨_, rfl, rfl, _, rfl, iteT ⟨_, rfl, _, rfl, _, _, rfl, rfl, rfl, rfl⟩⟩
          | some l =>
            rw [agL_z e1 (show ¬ far > 0 by omega), agH_q e2 e1 c2]
            exact ⟨_, rfl, rfl, _, rfl, iteF ⟨_, rfl, _, rfl, _, rfl, _, _, rfl, rfl, _, _, rfl, rfl, rfl⟩⟩
        · have c2 : ¬ far < 0 := of_decide_eq_false (Bool.eq_false_iff.mpr c)
          exact ⟨rfl, by rw [agH_z e2 c2] <;> rfl⟩
    rintro _ _ ⟨rfl, rfl⟩
    refine ⟨_, rfl, _, rfl, _, _, rfl, rfl, mulx 10001 10000 (by omega) hd, _, rfl, _, rfl, _, _, _, rfl, fun r H4 S4 n4 h4 => q r H4 S4 (.inl ?_)⟩
    rw [h4, eA]
def spPower (K : PySem.W.Frag) : Sp := fun vs H Q _ => ∃ (a : Addr) (d : Dd) (n : Nat) (b : Int), vs = [.ref a, .int n] ∧ Dq K H a d ∧ d.In b ∧ 0 ≤ b ∧ 6 * ((n : Int) * b) + 2 ≤ 10 ^ 90 ∧ ∀ (r : Addr) H', Same H H' → Dq K H' r (pw d n) → Q (.ref r) H'
theorem k__law_power (D : Df K mg "_law_power" s__law_power ["_law_deed_here", "_law_many"]) (D__law_after : Dn P w K mg base 2 "_law_after" ["_law_one", "_law_other"] (spAfter K)) : Dn P w K mg base 3 "_law_power" ["_law_deed_here", "_law_many"] (spPower K) := by
  refine D.ok fun f fd F => F.ok sc__law_power (fun vs H Q E h => ?_) (fun cdv A outer s H vs Q E hr h => ⟨_, (pss_cons (ps_set (i := 2) sc__law_power.nd rfl (Or.inl rfl) (pe_tup (pa_cons pe_int (pa_cons pe_non (pa_cons pe_non pa_nil)))))
    (pss_cons (ps_while PassesOwn.never (pt_cmpR op_gt (pv 1) pe_int (nomark _))
      (C8.pss_cut (ps_if (pt_cmpR op_eq (pe_op op_mod (pv 1) pe_int) pe_int (nomark _))
        (pss_one (ps_set (i := 2) sc__law_power.nd rfl (Or.inl rfl) (pe_cD D__law_after (hr.mono (by decide)) rfl (pa_cons (pv 2) (pa_cons (pv 0) pa_nil)))))
        pss_nil)
      (pss_cons (ps_set (i := 0) sc__law_power.nd rfl (Or.inl rfl) (pe_cD D__law_after (hr.mono (by decide)) rfl (pa_cons (pv 0) (pa_cons (pv 0) pa_nil))))
      (pss_one (ps_set (i := 1) sc__law_power.nd rfl (Or.inl rfl) (pe_op op_fdivW (pv 1) pe_int))))))
    (pss_one (ps_ret (pv 2))))), ?_⟩)
  · obtain ⟨a, d, n, b, rfl, _⟩ := h; rfl
  · obtain ⟨a, d, n, b, rfl, ha, ib, b0, hb, q⟩ := h
    refine ⟨sz, fun t0 n0 => ?_⟩
    have S0 := same_new n0 (.tup [.int 0, .non, .non])
    refine while_by (fun σ H1 => ∃ (x f : Addr) (t k r : Nat), σ = [some (.ref x), some (.int r), some (.ref f)] ∧ Same H H1 ∧ Dq K H1 x (pw d t) ∧ Dq K H1 f (pw d k) ∧ k + t * r = n)
      (fun σ H1 => match σ with | [_, some (.int r), _] => r.toNat | _ => 0) ⟨a, t0, 1, 0, n, rfl, S0, (by rw [pw_one ha.2]; exact ha.same S0), ⟨.inl upd_same, look_ok⟩, by omega⟩ ?_ ?_
    · rintro σ H1 ⟨x, f, t, k, r, rfl, S1, hx, hf, hn⟩
      refine ⟨_, rfl, _, _, rfl, rfl, _, rfl, ite2 (fun c => ?_) (fun c => ?_)⟩
      · have c' : 0 < r := by have := of_decide_eq_true c; omega
        have tn : t ≤ n := by have := Nat.le_mul_of_pos_right t c'; omega
        have hbt : ∀ m, m ≤ n → (pw d m).In ((n : Int) * b) := fun m hm => pw_in' ib b0 hm (Int.le_refl _)
        have hnb : 0 ≤ (n : Int) * b := Int.mul_nonneg (by omega) b0
        refine ⟨fun σ H2 => ∃ (f : Addr) (k : Nat), σ = [some (.ref x), some (.int r), some (.ref f)] ∧ Same H1 H2 ∧ Dq K H2 f (pw d k) ∧ k + 2 * t * (r / 2) = n, ?_, ?_⟩
        · refine ⟨_, rfl, _, _, rfl, rfl, pj, rfl, _, rfl, ite2 (fun c2 => ?_) (fun c2 => ?_)⟩
          · have c2' : r % 2 = 1 := by have := V.int.inj (of_decide_eq_true c2); omega
            have er : r = 2 * (r / 2) + 1 := by omega
            have e1 : t * r = 2 * t * (r / 2) + t := by rw [← two_t, ← er]
            refine ⟨_, rfl, _, rfl, f, x, pw d k, pw d t, rfl, hf.1.sq, hx.1.sq, hf.2, hx.2, ⟨_, _, hbt k (by omega), hbt t tn, hnb, hnb, by omega⟩, fun g H2 S2 ng hg => ?_⟩
            exact ⟨g, k + t, rfl, S2, ⟨.inl (by rw [pw_add ha.2]; exact hg), pw_ok ha.2 _⟩, by omega⟩
          · have c2' : ¬ r % 2 = 1 := fun z => c2 (decide_eq_true (congrArg V.int (by omega)))
            have er : r = 2 * (r / 2) := by omega
            have e1 : t * r = 2 * t * (r / 2) := by rw [← two_u, ← er]
            exact ⟨f, k, rfl, Same.refl _, hf, by omega⟩
        · rintro _ H2 ⟨f', k', rfl, S2, hf', hn'⟩
          refine ⟨_, rfl, _, rfl, x, x, pw d t, pw d t, rfl, (hx.same S2).1.sq, (hx.same S2).1.sq, hx.2, hx.2, ⟨_, _, hbt t tn, hbt t tn, hnb, hnb, by omega⟩, fun g H3 S3 ng hg => ?_⟩
          refine ⟨_, rfl, _, _, rfl, rfl, ⟨by decide, by decide⟩, ?_⟩
          refine ⟨⟨g, f', 2 * t, k', r / 2, by simp, S1.trans (S2.trans S3), ⟨.inl (by rw [Nat.two_mul, pw_add ha.2]; exact hg), pw_ok ha.2 _⟩, hf'.same S3, hn'⟩, ?_⟩
          show ((r : Int) / 2).toNat < (r : Int).toNat
          omega
      · have c' : r = 0 := by
          rcases Nat.eq_zero_or_pos r with e | e
          · exact e
          · exact absurd (decide_eq_true (show (r : Int) > 0 by omega)) c
        subst c'
        have : k = n := by simpa using hn
        subst this
        exact ⟨_, rfl, q f H1 S1 hf⟩
    · rintro σ H1 Q1 Q2 hQ ⟨v, h1, i, j, h2, h3, k, h4, h5⟩
      exact ⟨v, h1, i, j, h2, h3, k, h4, hQ _ _ h5⟩
def spByOne (K : PySem.W.Frag) : Sp := fun vs H Q _ => ∃ (a l : Addr) (d : Dd) (ws : List Int) (m : Nat), vs = [.ref a, .ref l, .int m] ∧ Dq K H a d ∧ d.add.natAbs < 2 ^ 10000 ∧ m ≤ 40 ∧ ws.length ≤ 100 ∧ H l = some (.lst (ws.map V.int)) ∧ ∀ H', Same H H' → Q (.bl true) H'
theorem k__law_by_one (D : Df K mg "_law_by_one" s__law_by_one ["_law_deed_here", "_law_values", "_law_many"]) (D_done : Dn P w K mg base 5 "done" ["deed", "value"] (spDone K)) (D_again : Dn P w K mg base 5 "again" ["deed", "many"] (spAgain K)) (D__law_makes : Dn P w K mg base 1 "_law_makes" ["_law_deed_here", "_law_value"] (spMakes K)) : Dn P w K mg base 6 "_law_by_one" ["_law_deed_here", "_law_values", "_law_many"] (spByOne K) := by
  refine D.ok fun f fd F => F.ok sc__law_by_one (fun vs H Q E h => ?_) (fun cdv A outer s H vs Q E hr h => ⟨_, (pss_cons (ps_set (i := 3) sc__law_by_one.nd rfl (Or.inl rfl) (pe_callTy (lstOfK (K := K)) (by rfl) B.list_ (by decide +kernel) (pa_cons (pv 1) pa_nil)))
    (pss_cons (ps_for PassesOwn.never rfl (pi_range1 (by rfl) B.range_ (pa_cons (pv 2) pa_nil)) (pg_name (i := 4) sc__law_by_one.nd rfl (Or.inr rfl))
      (pss_cons (ps_if (pt_cmpR (kk (K := K) (F := rNeD) (P := OpR _ _) (op_neD hr.units)) (pe_lc (own := [("_law_value", 5)]) (g := gName 5) (tt := tYes) rfl sc__law_by_one.nd (kk (K := K) (F := fun K => iList K _) (P := PI _ _ _) (pi_list (pv 1))) (blkOk_by (own := [("_law_value", 5)]) (N := ["_law_deed_here", "_law_values", "_law_many", "_law_row", "_law_turn", "_law_value"]) (sc := defScope s__law_by_one) (by decide +kernel)) (fun _ _ _ _ _ => (pg_name (i := 5) sc__law_by_one.nd rfl (Or.inl rfl))) (fun _ _ _ _ _ => pts_nil) (fun _ _ _ _ _ => (pe_cD D_done (hr.mono (by decide)) rfl (pa_cons (pe_cD D_again (hr.mono (by decide)) rfl (pa_cons (pv 0) (pa_cons (pv 4) pa_nil))) (pa_cons (pv 5) pa_nil))))) (pv 3) (nomark _))
        (pss_one (ps_ret pe_bl))
        pss_nil)
      (pss_one (ps_setLc (i := 3) (own := [("_law_value", 5)]) (g := gName 5) (tt := tYes) rfl sc__law_by_one.nd rfl rfl (sw_true rfl rfl rfl (by decide +kernel)) (kk (K := K) (F := fun K => iList K _) (P := PI _ _ _) (pi_list (pv 3))) (blkOk_by (own := [("_law_value", 5)]) (N := ["_law_deed_here", "_law_values", "_law_many", "_law_row", "_law_turn", "_law_value"]) (sc := defScope s__law_by_one) (by decide +kernel)) (fun _ _ _ _ _ => (pg_name (i := 5) sc__law_by_one.nd rfl (Or.inl rfl))) (fun _ _ _ _ _ => pts_nil) (fun _ _ _ _ _ => (pe_cD D__law_makes (hr.mono (by decide)) rfl (pa_cons (pv 0) (pa_cons (pv 5) pa_nil))))))))
    (pss_one (ps_ret pe_bl)))), ?_⟩)
  · obtain ⟨a, l, d, ws, m, rfl, _⟩ := h; rfl
  · obtain ⟨a, l, d, ws, m, rfl, ha, hadd, hm, hw, hl, q⟩ := h
    refine ⟨_, rfl, l, _, rfl, .inl (SqL.of hl), fun r0 nr0 => ?_⟩
    have S0 := same_new nr0 (.lst (ws.map V.int))
    refine ⟨_, rfl, _, rfl, by omega, by omega, ?_⟩
    refine for_range (lo := 0) (n := ((m : Int)).toNat) (fun i σ H1 => ∃ (r : Addr) (x4 x5 : Option V), σ = [some (.ref a), some (.ref l), some (.int m), some (.ref r), x4, x5] ∧ Same H H1 ∧ H1 r = some (.lst ((ws.map (pw d i).ap).map V.int)))
      ⟨r0, none, none, rfl, S0, by rw [upd_same, show ws.map (pw d 0).ap = ws by rw [show (pw d 0).ap = fun v => v from funext look_ap, List.map_id']]⟩ ?_ ?_
    · rintro i σ H1 hi ⟨r, x4, x5, rfl, S1, hr⟩
      -- what is made at once
      refine ⟨_, rfl, l, rfl, ⟨_, SqL.of (S1 _ _ hl)⟩, fun D hD => ?_⟩
      refine lc_list (K := K) (a := l) (xs := ws.map V.int) (fun j H2 => Same H1 H2 ∧ H2 D = some (.lst (((ws.map (pw d i).ap).take j).map V.int))) ⟨same_new hD _, upd_same⟩ (fun j H2 _ h => SqL.of (h.1 _ _ (S1 _ _ hl))) ?_ ?_
      · rintro j y H2 hj ⟨S2, h2⟩
        obtain ⟨v, rfl, hv⟩ := at_map hj
        refine ⟨rfl, ?_⟩
        refine ⟨_, rfl, _, rfl, a, d, i, by show [V.ref a, V.int (0 + (i : Int))] = _; rw [Int.zero_add], ((ha.same S1).same S2).arg, hadd, Nat.lt_of_le_of_lt (m := 40) (by omega) (by decide), fun b H3 S3 tb => ⟨_, rfl, b, pw d i, v, rfl, ⟨tb.ty, tb.sq, pw_ok ha.2 i⟩, ?_⟩⟩
        refine ⟨_, S3 _ _ h2, small1000 (by rw [List.length_map, List.length_take, List.length_map]; omega), but_same hD (S2.trans S3) But.upd, ?_⟩
        rw [upd_same, take_snoc (by rw [List.getElem?_map, hv] <;> rfl : (ws.map (pw d i).ap)[j]? = some ((pw d i).ap v)), List.map_append] <;> rfl
      · rintro H2 ⟨S2, h2⟩
        rw [List.take_of_length_le (by rw [List.length_map, List.length_map]; exact Nat.le_refl _)] at h2
        refine ⟨_, rfl, _, _, lst_dp (SqL.of h2), lst_dp (SqL.of (S2 _ _ hr)), ints_sh _, ints_sh _, _, rfl, ifF (by rw [ints_refl] <;> rfl) ?_⟩
        -- one by one
        refine ⟨_, rfl, r, rfl, ⟨_, SqL.of (S2 _ _ hr)⟩, fun E hE => ?_⟩
        refine lc_list (K := K) (a := r) (xs := (ws.map (pw d i).ap).map V.int) (fun j H3 => Same H2 H3 ∧ H3 E = some (.lst (((ws.map (pw d (i + 1)).ap).take j).map V.int))) ⟨same_new hE _, upd_same⟩ (fun j H3 _ h => SqL.of (h.1 _ _ (S2 _ _ hr))) ?_ ?_
        · rintro j y H3 hj ⟨S3, h3⟩
          obtain ⟨v, rfl, hv⟩ := at_map hj
          rw [List.getElem?_map] at hv
          obtain ⟨u, hu, rfl⟩ : ∃ u, ws[j]? = some u ∧ v = (pw d i).ap u := by
            cases e : ws[j]? with
            | none => rw [e] at hv; cases hv
            | some u => rw [e] at hv; exact ⟨u, rfl, (Option.some.inj hv).symm⟩
          have ha3 := ((ha.same S1).same S2).same S3
          refine ⟨rfl, ?_⟩
          refine ⟨_, rfl, _, rfl, a, d, _, rfl, ha3.1.sq, ha.2, ?_⟩
          refine ⟨_, h3, small1000 (by rw [List.length_map, List.length_take, List.length_map]; omega), but_same hE S3 But.upd, ?_⟩
          rw [upd_same, take_snoc (by rw [List.getElem?_map, hu]; exact congrArg some (beh_ap (pw_ok ha.2 i) ha.2 u) : (ws.map (pw d (i + 1)).ap)[j]? = some (d.ap ((pw d i).ap u))), List.map_append] <;> rfl
        · rintro H3 ⟨S3, h3⟩
          rw [List.take_of_length_le (by rw [List.length_map, List.length_map, List.length_map]; exact Nat.le_refl _)] at h3
          exact ⟨E, _, _, rfl, S1.trans (S2.trans S3), h3⟩
    · rintro σ H1 ⟨r, x4, x5, rfl, S1, hr⟩
      exact q H1 S1
def spLaw (K : PySem.W.Frag) : Sp := fun vs H Q _ => ∃ (a : Addr) (ns : List Int), vs = [.ref a] ∧ SqL K H a (ns.map V.int) ∧ ns.length ≤ 63 ∧ ∀ H', Q (.bl true) H'
theorem k_law {f : Addr} {fd : FuncData} (F : Fun K "law" "law" s_law f fd) (D__law_pot : Dn P w K mg base 1 "_law_pot" ["_law_script", "_law_k"] (spPot K)) (D__law_take : Dn P w K mg base 1 "_law_take" ["_law_pot_here", "_law_many"] spTake) (D__law_deed : Dn P w K mg base 3 "_law_deed" ["_law_pot_here"] spDeed) (D__law_number : Dn P w K mg base 2 "_law_number" ["_law_pot_here"] spNumber) (D_again : Dn P w K mg base 5 "again" ["deed", "many"] (spAgain K)) (D__law_power : Dn P w K mg base 3 "_law_power" ["_law_deed_here", "_law_many"] (spPower K)) (D_then : Dn P w K mg base 5 "then" ["one", "other"] (spThen K)) (D__law_after : Dn P w K mg base 2 "_law_after" ["_law_one", "_law_other"] (spAfter K)) (D__law_turns : Dn P w K mg base 1 "_law_turns" ["_law_deed_here"] (spTurns K)) (D__law_by_one : Dn P w K mg base 6 "_law_by_one" ["_law_deed_here", "_law_values", "_law_many"] (spByOne K)) : FnOk P w K mg base CX0 7 f fd ["_law_script"] (spLaw K) := by
  refine F.ok sc_law (fun vs H Q E h => ?_) (fun cdv A outer s H vs Q E hr h => ⟨_, (pss_cons (ps_for PassesOwn.never rfl (pi_range1 (by rfl) B.range_ (pa_cons (pe_op op_add (pe_callB (call_min2 rfl) (by rfl) B.min_ (by decide +kernel) (pa_cons (pe_callB (lenK (K := K)) (by rfl) B.len_ (by decide +kernel) (pa_cons (pv 0) pa_nil)) (pa_cons pe_int pa_nil))) pe_int) pa_nil)) (pg_name (i := 1) sc_law.nd rfl (Or.inl rfl))
      (pss_cons (ps_set (i := 2) sc_law.nd rfl (Or.inl rfl) (pe_cD D__law_pot (hr.mono (by decide)) rfl (pa_cons (pv 0) (pa_cons (pv 1) pa_nil))))
      (pss_cons (ps_set (i := 3) sc_law.nd rfl (Or.inl rfl) (pe_cD D__law_deed (hr.mono (by decide)) rfl (pa_cons (pv 2) pa_nil)))
      (pss_cons (ps_par (i := 4) (j := 5) rfl sc_law.nd rfl rfl (by decide) rfl rfl (pa_cons (pe_callB call_abs (by rfl) B.abs_ (by decide +kernel) (pa_cons (pe_cD D__law_number (hr.mono (by decide)) rfl (pa_cons (pv 2) pa_nil)) pa_nil)) (pa_cons (pe_callB call_abs (by rfl) B.abs_ (by decide +kernel) (pa_cons (pe_cD D__law_number (hr.mono (by decide)) rfl (pa_cons (pv 2) pa_nil)) pa_nil)) pa_nil)) (by rfl))
      (pss_cons (ps_set (i := 6) sc_law.nd rfl (Or.inl rfl) (pe_cD D_again (hr.mono (by decide)) rfl (pa_cons (pv 3) (pa_cons (pv 4) pa_nil))))
      (pss_cons (ps_if (PW.pt (pw_or (pt_cmpR (kk (K := K) (F := rNeD) (P := OpR _ _) (op_neD hr.units)) (pv 6) (pe_cD D__law_power (hr.mono (by decide)) rfl (pa_cons (pv 3) (pa_cons (pv 4) pa_nil))) (nomark _)) (pw_or (pt_cmpR (kk (K := K) (F := rNeD) (P := OpR _ _) (op_neD hr.units)) (pe_cD D_again (hr.mono (by decide)) rfl (pa_cons (pv 3) (pa_cons (pv 4) pa_nil))) (pv 6) (nomark _)) (pw_or1 (pt_not (pt_val (pe_callB (kk (K := K) (F := rIsi) (P := CallR _ _) call_isi) (by rfl) B.isinstance_ (by decide +kernel) (pa_cons (pv 6) (pa_cons (pe_bltn (v := .ty "tuple") (u := .type "tuple") (by rfl) B.tuple_ (by decide +kernel) rfl) pa_nil)))))))))
        (pss_one (ps_ret pe_bl))
        pss_nil)
      (pss_cons (ps_if (pt_cmpR (kk (K := K) (F := rNeD) (P := OpR _ _) (op_neD hr.units)) (pe_cD D_again (hr.mono (by decide)) rfl (pa_cons (pv 3) (pa_cons (pe_op op_add (pv 4) (pv 5)) pa_nil))) (pe_cD D_then (hr.mono (by decide)) rfl (pa_cons (pv 6) (pa_cons (pe_cD D_again (hr.mono (by decide)) rfl (pa_cons (pv 3) (pa_cons (pv 5) pa_nil))) pa_nil))) (nomark _))
        (pss_one (ps_ret pe_bl))
        pss_nil)
      (pss_cons (ps_par (i := 7) (j := 8) rfl sc_law.nd rfl rfl (by decide) rfl rfl (pa_cons (pe_cD D__law_power (hr.mono (by decide)) rfl (pa_cons (pv 6) (pa_cons (pv 5) pa_nil))) (pa_cons (pe_cD D__law_deed (hr.mono (by decide)) rfl (pa_cons (pv 2) pa_nil)) pa_nil)) (by rfl))
      (pss_cons (ps_if (PW.pt (pw_or (pt_cmpR (kk (K := K) (F := rNeD) (P := OpR _ _) (op_neD hr.units)) (pe_cD D_again (hr.mono (by decide)) rfl (pa_cons (pv 6) (pa_cons (pv 5) pa_nil))) (pv 7) (nomark _)) (pw_or1 (pt_cmpR (kk (K := K) (F := rNeD) (P := OpR _ _) (op_neD hr.units)) (pe_cD D_then (hr.mono (by decide)) rfl (pa_cons (pe_cD D_again (hr.mono (by decide)) rfl (pa_cons (pv 6) (pa_cons (pv 5) pa_nil))) (pa_cons (pv 8) pa_nil))) (pe_cD D__law_after (hr.mono (by decide)) rfl (pa_cons (pv 7) (pa_cons (pv 8) pa_nil))) (nomark _)))))
        (pss_one (ps_ret pe_bl))
        pss_nil)
      (pss_cons (ps_set (i := 9) sc_law.nd rfl (Or.inl rfl) (pe_op op_cat (pe_cD D__law_turns (hr.mono (by decide)) rfl (pa_cons (pv 3) pa_nil)) (pe_lst (pa_cons (pe_cD D__law_number (hr.mono (by decide)) rfl (pa_cons (pv 2) pa_nil)) pa_nil))))
      (pss_cons (ps_if (PW.pt (pw_or (pt_cmpR (kk (K := K) (F := rNeD) (P := OpR _ _) (op_neD hr.units)) (pe_cD D_again (hr.mono (by decide)) rfl (pa_cons (pv 3) (pa_cons pe_int pa_nil))) (pe_tup (pa_cons pe_int (pa_cons pe_non (pa_cons pe_non pa_nil)))) (nomark _)) (pw_or1 (pt_cmpR (kk (K := K) (F := rNeD) (P := OpR _ _) (op_neD hr.units)) (pe_cD D_again (hr.mono (by decide)) rfl (pa_cons (pv 3) (pa_cons pe_int pa_nil))) (pv 3) (nomark _)))))
        (pss_one (ps_ret pe_bl))
        pss_nil)
      (pss_one (ps_if (pt_not (pt_val (pe_cD D__law_by_one (hr.mono (by decide)) rfl (pa_cons (pv 3) (pa_cons (pe_slice (kk (K := K) (F := rSlL) (P := L2.SlR _) sl_list) (pv 9) (po_some (pe_un un_neg pe_int)) po_none) (pa_cons (pe_cD D__law_take (hr.mono (by decide)) rfl (pa_cons (pv 2) (pa_cons pe_int pa_nil))) pa_nil))))))
       (pss_one (ps_ret pe_bl))
       pss_nil)))))))))))))
    (pss_one (ps_ret pe_bl))), ?_⟩)
  · obtain ⟨a, ns, rfl, _⟩ := h; rfl
  · obtain ⟨a, ns, rfl, hs, hn, q⟩ := h
    refine ⟨_, rfl, a, _, rfl, .inl hs, _, _, rfl, _, _, rfl, rfl, _, rfl, ?_, ?_, ?_⟩
    · split <;> simp <;> omega
    · split <;> simp <;> omega
    have hN : ((if (6 : Int) < ((ns.map V.int).length : Nat) then (6 : Int) else ((ns.map V.int).length : Nat)) + 1).toNat ≤ 9 := by split <;> omega
    generalize ((if (6 : Int) < ((ns.map V.int).length : Nat) then (6 : Int) else ((ns.map V.int).length : Nat)) + 1).toNat = n at hN
    refine for_range (lo := 0) (n := n) (fun i σ H1 => ∃ (x1 x2 x3 x4 x5 x6 x7 x8 x9 : Option V), σ = [some (.ref a), x1, x2, x3, x4, x5, x6, x7, x8, x9] ∧ Same H H1)
      ⟨none, none, none, none, none, none, none, none, none, rfl, Same.refl H⟩ ?_ ?_
    · rintro i σ H1 hi ⟨x1, x2, x3, x4, x5, x6, x7, x8, x9, rfl, S1⟩
      refine ⟨_, rfl, _, rfl, a, ns, i, by show [V.ref a, V.int (0 + (i : Int))] = _; rw [Int.zero_add], S1.seq hs, by omega, fun p H2 np S2 p2 => ?_⟩
      refine ⟨_, rfl, p, rfl, p2, fun aA dA H3 b3 p3 nA hA iA oA => ?_⟩
      refine ⟨_, rfl, p, rfl, p3, fun u H4 u0 u1 b4 p4 => ⟨_, rfl, _, rfl, p, rfl, p4, fun v H5 v0 v1 b5 p5 => ⟨_, rfl, ?_⟩⟩⟩
      obtain ⟨m, hm, hm2⟩ : ∃ m : Nat, (if u < 0 then -u else u) = (m : Int) ∧ m ≤ 10 ^ 29 := ⟨(if u < 0 then -u else u).toNat, by split <;> omega, by split <;> omega⟩
      obtain ⟨k, hk, hk2⟩ : ∃ m : Nat, (if v < 0 then -v else v) = (m : Int) ∧ m ≤ 10 ^ 29 := ⟨(if v < 0 then -v else v).toNat, by split <;> omega, by split <;> omega⟩
      rw [hm, hk]
      have T5 : Same H1 H5 := but_same np S2 (b3.trans (b4.trans b5))
      have eA : Dq K H5 aA dA := ⟨.inl (b5 _ _ (pot_ne p2 nA) (b4 _ _ (pot_ne p2 nA) hA)), oA⟩
      refine ⟨_, _, rfl, ?_⟩
      have bits : ∀ {x : Int} {b : Int}, -b ≤ x → x ≤ b → b ≤ 10 ^ 200 → x.natAbs < 2 ^ 10000 := fun h1 h2 h3 => Nat.lt_of_le_of_lt (m := 10 ^ 200) (by omega) (by decide)
      have nat : ∀ {x : Nat}, x ≤ 2 * 10 ^ 29 → x < 2 ^ 10000 := fun h => Nat.lt_of_le_of_lt h (by decide)
      have hAd := bits iA.1 iA.2.1 (by decide)
      have B1 : (m : Int) * (10 ^ 29 + 3) ≤ 10 ^ 29 * (10 ^ 29 + 3) := Int.mul_le_mul_of_nonneg_right (by omega) (by decide)
      have iM : (pw dA m).In (10 ^ 29 * (10 ^ 29 + 3)) := pw_in' iA (by decide) (Nat.le_refl m) B1
      have B2 : (k : Int) * (10 ^ 29 * (10 ^ 29 + 3)) ≤ 10 ^ 29 * (10 ^ 29 * (10 ^ 29 + 3)) := Int.mul_le_mul_of_nonneg_right (by omega) (by decide)
      have iMK : (pw (pw dA m) k).In (10 ^ 29 * (10 ^ 29 * (10 ^ 29 + 3))) := pw_in' iM (by decide) (Nat.le_refl k) B2
      have oM := pw_ok oA m
      have oMK := pw_ok oM k
      refine ⟨_, rfl, _, rfl, aA, dA, m, rfl, eA.arg, hAd, nat (by omega), fun f H6 S6 tf => ?_⟩
      have qf : Dq K H6 f (pw dA m) := ⟨tf, oM⟩
      replace eA := eA.same S6
      refine ⟨_, rfl, _, rfl, _, rfl, aA, dA, m, _, rfl, eA, iA, by decide, by omega, fun g H7 S7 qg => ?_⟩
      refine ⟨_, _, (qf.same S7).dp, qg.dp, pd_sh _, pd_sh _, _, rfl, ifF ne_pd ?_⟩
      replace eA := eA.same S7
      replace qf := qf.same S7
      refine ⟨_, rfl, _, rfl, aA, dA, m, rfl, eA.arg, hAd, nat (by omega), fun f2 H8 S8 tf2 => ⟨_, rfl, ?_⟩⟩
      replace eA := eA.same S8
      replace qf := qf.same S8
      refine ⟨_, _, pd_dp tf2.sq, qf.dp, pd_sh _, pd_sh _, _, rfl, ifF ne_pd ?_⟩
      refine ⟨_, rfl, _, _, _, _, _, rfl, .ty _, qf.1.ty, kit_ty (b := "tuple") (r := true) (by decide +kernel), _, rfl, iteF ?_⟩
      -- both numbers together
      refine ⟨_, rfl, _, rfl, _, rfl, _, _, rfl, rfl, aA, dA, m + k, rfl, eA.arg, hAd, nat (by omega), fun f3 H9 S9 tf3 => ?_⟩
      replace eA := eA.same S9
      replace qf := qf.same S9
      refine ⟨_, rfl, _, rfl, _, rfl, aA, dA, k, rfl, eA.arg, hAd, nat (by omega), fun f4 H10 S10 tf4 => ?_⟩
      replace eA := eA.same S10
      replace qf := qf.same S10
      refine ⟨f, f4, _, pw dA k, rfl, qf.arg, ⟨tf4.ty, tf4.sq, pw_ok oA k⟩, fun f5 H11 S11 n5 h5 => ?_⟩
      replace eA := eA.same S11
      replace qf := qf.same S11
      refine ⟨_, _, pd_dp ((tf3.same S10).same S11).sq, pd_dp (SqT.of h5), pd_sh _, pd_sh _, _, rfl, ifF (by rw [pw_add oA]; exact ne_pd) ?_⟩
      -- so many times what was told, so many times
      refine ⟨_, rfl, _, rfl, f, _, k, _, rfl, qf, iM, by decide, by omega, fun w H12 S12 qw => ?_⟩
      have B512 : But p H5 H12 := same_but ((((((S6.trans S7).trans S8).trans S9).trans S10).trans S11).trans S12)
      have p12 : PotAt H12 p := p5.same ((((((S6.trans S7).trans S8).trans S9).trans S10).trans S11).trans S12)
      refine ⟨_, rfl, p, rfl, p12, fun aC dC H13 b13 p13 nC hC iC oC => ⟨_, _, rfl, ?_⟩⟩
      obtain ⟨_, _, hpl, _⟩ := p12
      replace eA : Dq K H13 aA dA := ⟨(eA.same S12).1.but b13 hpl, oA⟩
      replace qf : Dq K H13 f (pw dA m) := ⟨(qf.same S12).1.but b13 hpl, oM⟩
      replace qw : Dq K H13 w (pw (pw dA m) k) := ⟨qw.1.but b13 hpl, oMK⟩
      have qC : Dq K H13 aC dC := ⟨.inl hC, oC⟩
      have T13 : Same H1 H13 := but_same np S2 (b3.trans (b4.trans (b5.trans (B512.trans b13))))
      have hMd := bits iM.1 iM.2.1 (by decide)
      refine ⟨_, rfl, _, rfl, f, _, k, rfl, qf.arg, hMd, nat (by omega), fun y1 H14 S14 ty1 => ⟨_, rfl, ?_⟩⟩
      refine ⟨_, _, pd_dp ty1.sq, (qw.same S14).dp, pd_sh _, pd_sh _, _, rfl, ifF ne_pd ?_⟩
      refine ⟨_, rfl, _, rfl, f, _, k, rfl, (qf.same S14).arg, hMd, nat (by omega), fun y2 H15 S15 ty2 => ⟨_, rfl, y2, aC, _, dC, rfl, ⟨ty2.ty, ty2.sq, oMK⟩, (qC.same (S14.trans S15)).arg, fun y3 H16 S16 n16 h16 => ?_⟩⟩
      have S1416 := (S14.trans S15).trans S16
      refine ⟨_, rfl, _, rfl, w, aC, _, dC, rfl, (qw.same S1416).1.sq, (qC.same S1416).1.sq, oMK, oC, ⟨_, _, iMK, iC, by decide, by decide, by decide⟩, fun y4 H17 S17 n17 h17 => ?_⟩
      refine ⟨_, _, pd_dp (SqT.of (S17 _ _ h16)), pd_dp (SqT.of h17), pd_sh _, pd_sh _, _, rfl, ifF ne_pd ?_⟩
      have S1417 := S1416.trans S17
      replace eA := eA.same S1417
      -- values
      refine ⟨_, rfl, aA, dA, 10 ^ 29 + 3, rfl, eA.1.sq, by decide, iA, fun l ws H18 S18 nl hl _ hlen => ?_⟩
      have p18 := p13.same (S1417.trans S18)
      refine ⟨_, rfl, p, rfl, p18, fun v2 H19 _ _ b19 p19 => ⟨sz, fun l2 hl2 => ?_⟩⟩
      have nlp : l ≠ p := pot_ne (p13.same S1417) nl
      have hl19 : H19 l = some (.lst (ws.map V.int)) := b19 _ _ nlp hl
      have nll : l ≠ l2 := ne_of_none hl19 hl2
      refine ⟨l, l2, _, _, rfl, rfl, by rw [upd_ne nll]; exact hl19, upd_same, small (by rw [List.length_map]; show ws.length + 1 ≤ 1000; omega), fun l3 hl3 => ?_⟩
      have S1920 := (same_new hl2 (.lst [V.int v2])).trans (same_new hl3 (.lst (ws.map V.int ++ [V.int v2])))
      obtain ⟨_, _, hpl18, _⟩ := p18
      have T20 : But p H2 (upd (upd H19 l2 (.lst [V.int v2])) l3 (.lst (ws.map V.int ++ [V.int v2]))) := b3.trans (b4.trans (b5.trans (B512.trans (b13.trans ((same_but (S1417.trans S18)).trans (b19.trans (same_but S1920)))))))
      have e20 : Dq K (upd (upd H19 l2 (.lst [V.int v2])) l3 (.lst (ws.map V.int ++ [V.int v2]))) aA dA := ⟨((eA.same S18).1.but b19 hpl18).same S1920, oA⟩
      have p20 : PotAt (upd (upd H19 l2 (.lst [V.int v2])) l3 (.lst (ws.map V.int ++ [V.int v2]))) p := p19.same S1920
      have hl30 : (upd (upd H19 l2 (.lst [V.int v2])) l3 (.lst (ws.map V.int ++ [V.int v2]))) l3 = some (.lst ((ws ++ [v2]).map V.int)) := by rw [upd_same, List.map_append] <;> rfl
      have pl3 : l3 ≠ p := pot_ne (p19.same (same_new hl2 (.lst [V.int v2]))) hl3
      generalize upd (upd H19 l2 (.lst [V.int v2])) l3 (.lst (ws.map V.int ++ [V.int v2])) = H20 at T20 e20 p20 hl30
      -- no times, once
      refine ⟨_, rfl, aA, dA, 0, rfl, e20.arg, hAd, by decide, fun z0 H21 S21 tz0 => ⟨sz, fun z1 nz1 => ?_⟩⟩
      have S22 := S21.trans (same_new nz1 (.tup [.int 0, .non, .non]))
      refine ⟨pd look, pd look, pd_dp (tz0.same (same_new nz1 _)).sq, pd_dp (d := look) (SqT.of upd_same), pd_sh _, pd_sh _, _, rfl, ifF ne_pd ?_⟩
      refine ⟨_, rfl, aA, dA, 1, rfl, (e20.same S22).arg, hAd, by decide, fun z2 H23 S23 tz2 => ⟨_, rfl, ?_⟩⟩
      have S2023 := S22.trans S23
      refine ⟨_, _, pd_dp tz2.sq, (e20.same S2023).dp, pd_sh _, pd_sh _, _, rfl, ifF (by rw [pw_one oA]; exact ne_pd) ?_⟩
      -- one by one
      refine ⟨_, rfl, _, rfl, _, rfl, _, rfl, l3, _, rfl, SqL.of (S2023 _ _ hl30), fun l4 hl4 => ?_⟩
      obtain ⟨us, hus, hul⟩ := cut_map (ws ++ [v2]) (some (-4)) none
      have hul2 : us.length ≤ 100 := by rw [List.length_append] at hul; have : ([v2] : List Int).length = 1 := rfl; omega
      have S24 := S2023.trans (same_new hl4 (.lst (cutV ((ws ++ [v2]).map V.int) (some (-4)) none)))
      refine ⟨_, rfl, p, 31, rfl, p20.same S24, by decide, by decide, fun j H25 j0 j31 b25 p25 => ?_⟩
      obtain ⟨x, rfl⟩ : ∃ x : Nat, j = (x : Int) := ⟨j.toNat, by omega⟩
      obtain ⟨_, _, hpl24, _⟩ := p20.same S24
      refine ⟨aA, l4, dA, us, x, rfl, ⟨(e20.same S24).1.but b25 hpl24, oA⟩, hAd, by omega, hul2, ?_, fun H26 S26 => ⟨_, rfl, iteF ?_⟩⟩
      · rw [← hus]
        exact b25 _ _ (pot_ne (p20.same S2023) hl4) upd_same
      · refine ⟨_, _, _, _, _, _, _, _, _, rfl, S1.trans ?_⟩
        have : Same H1 H25 := but_same np S2 (T20.trans ((same_but S24).trans b25))
        exact this.trans S26
    · rintro σ H1 ⟨x1, x2, x3, x4, x5, x6, x7, x8, x9, rfl, S1⟩
      exact q _
end
structure AllD (K : PySem.W.Frag) (mg : Str → Option Value) : Prop where
  d_is_whole : Df K mg "is_whole" s_is_whole ["thing"]
  d_is_row_of : Df K mg "is_row_of" s_is_row_of ["thing", "many"]
  d_want_whole : Df K mg "want_whole" s_want_whole ["thing"]
  d_want_from : Df K mg "want_from" s_want_from ["thing", "least"]
  d_is_end : Df K mg "is_end" s_is_end ["thing"]
  d_is_deed : Df K mg "is_deed" s_is_deed ["thing"]
  d_want_deed : Df K mg "want_deed" s_want_deed ["thing"]
  d_put_through : Df K mg "put_through" s_put_through ["deed", "value"]
  d_done : Df K mg "done" s_done ["deed", "value"]
  d_whole_deed : Df K mg "whole_deed" s_whole_deed ["add", "low", "high"]
  d_one_behind : Df K mg "one_behind" s_one_behind ["one", "other"]
  d_then : Df K mg "then" s_then ["one", "other"]
  d_again : Df K mg "again" s_again ["deed", "many"]
  d__law_pot : Df K mg "_law_pot" s__law_pot ["_law_script", "_law_k"]
  d__law_take : Df K mg "_law_take" s__law_take ["_law_pot_here", "_law_many"]
  d__law_number : Df K mg "_law_number" s__law_number ["_law_pot_here"]
  d__law_deed : Df K mg "_law_deed" s__law_deed ["_law_pot_here"]
  d__law_makes : Df K mg "_law_makes" s__law_makes ["_law_deed_here", "_law_value"]
  d__law_turns : Df K mg "_law_turns" s__law_turns ["_law_deed_here"]
  d__law_after : Df K mg "_law_after" s__law_after ["_law_one", "_law_other"]
  d__law_power : Df K mg "_law_power" s__law_power ["_law_deed_here", "_law_many"]
  d__law_by_one : Df K mg "_law_by_one" s__law_by_one ["_law_deed_here", "_law_values", "_law_many"]
  d_law : Df K mg "law" s_law ["_law_script"]
  bl : Bl K mg
theorem all_mk {w : World} {K : PySem.W.Frag} {h : Heap} {mg : Str → Option Value} (X : K.In h) (G : h.Ns mainGlobals mg)
    {f1 f2 f3 f4 f5 f6 f7 f8 f9 f10 f11 f12 f13 f14 f15 f16 f17 f18 f19 f20 f21 f22 f23 : Addr} {od1 an1 od2 an2 od3 an3 od4 an4 od5 an5 od6 an6 od7 an7 od8 an8 od9 an9 od10 an10 od11 an11 od12 an12 od13 an13 od14 an14 od15 an15 od16 an16 od17 an17 od18 an18 od19 an19 od20 an20 od21 an21 od22 an22 od23 an23 : Option Addr} {sl1 sl2 sl3 sl4 sl5 sl6 sl7 sl8 sl9 sl10 sl11 sl12 sl13 sl14 sl15 sl16 sl17 sl18 sl19 sl20 sl21 sl22 sl23 : Array (Option Value)} {oc1 kV1 dc1 pm1 cd1 ct1 oc2 kV2 dc2 pm2 cd2 ct2 oc3 kV3 dc3 pm3 cd3 ct3 oc4 kV4 dc4 pm4 cd4 ct4 oc5 kV5 dc5 pm5 cd5 ct5 oc6 kV6 dc6 pm6 cd6 ct6 oc7 kV7 dc7 pm7 cd7 ct7 oc8 kV8 dc8 pm8 cd8 ct8 oc9 kV9 dc9 pm9 cd9 ct9 oc10 kV10 dc10 pm10 cd10 ct10 oc11 kV11 dc11 pm11 cd11 ct11 oc12 kV12 dc12 pm12 cd12 ct12 oc13 kV13 dc13 pm13 cd13 ct13 oc14 kV14 dc14 pm14 cd14 ct14 oc15 kV15 dc15 pm15 cd15 ct15 oc16 kV16 dc16 pm16 cd16 ct16 oc17 kV17 dc17 pm17 cd17 ct17 oc18 kV18 dc18 pm18 cd18 ct18 oc19 kV19 dc19 pm19 cd19 ct19 oc20 kV20 dc20 pm20 cd20 ct20 oc21 kV21 dc21 pm21 cd21 ct21 oc22 kV22 dc22 pm22 cd22 ct22 oc23 kV23 dc23 pm23 cd23 ct23 : Value}
    (a1 : PySem.W.nsIn K mainGlobals "is_whole" = some (some (.ref f1))) (l1 : K.lookup f1 = some ⟨oc1, od1, .func (PySem.W.fnOf "is_whole" "is_whole" (defArgs s_is_whole) (defBody s_is_whole) (defScope s_is_whole) .none kV1 dc1 pm1 an1 cd1 ct1), sl1⟩) (c1 : PySem.W.codeIn K cd1 "is_whole" = true) (k1 : PySem.W.keepIn K (.ref f1) = true)
    (a2 : PySem.W.nsIn K mainGlobals "is_row_of" = some (some (.ref f2))) (l2 : K.lookup f2 = some ⟨oc2, od2, .func (PySem.W.fnOf "is_row_of" "is_row_of" (defArgs s_is_row_of) (defBody s_is_row_of) (defScope s_is_row_of) .none kV2 dc2 pm2 an2 cd2 ct2), sl2⟩) (c2 : PySem.W.codeIn K cd2 "is_row_of" = true) (k2 : PySem.W.keepIn K (.ref f2) = true)
    (a3 : PySem.W.nsIn K mainGlobals "want_whole" = some (some (.ref f3))) (l3 : K.lookup f3 = some ⟨oc3, od3, .func (PySem.W.fnOf "want_whole" "want_whole" (defArgs s_want_whole) (defBody s_want_whole) (defScope s_want_whole) .none kV3 dc3 pm3 an3 cd3 ct3), sl3⟩) (c3 : PySem.W.codeIn K cd3 "want_whole" = true) (k3 : PySem.W.keepIn K (.ref f3) = true)
    (a4 : PySem.W.nsIn K mainGlobals "want_from" = some (some (.ref f4))) (l4 : K.lookup f4 = some ⟨oc4, od4, .func (PySem.W.fnOf "want_from" "want_from" (defArgs s_want_from) (defBody s_want_from) (defScope s_want_from) .none kV4 dc4 pm4 an4 cd4 ct4), sl4⟩) (c4 : PySem.W.codeIn K cd4 "want_from" = true) (k4 : PySem.W.keepIn K (.ref f4) = true)
    (a5 : PySem.W.nsIn K mainGlobals "is_end" = some (some (.ref f5))) (l5 : K.lookup f5 = some ⟨oc5, od5, .func (PySem.W.fnOf "is_end" "is_end" (defArgs s_is_end) (defBody s_is_end) (defScope s_is_end) .none kV5 dc5 pm5 an5 cd5 ct5), sl5⟩) (c5 : PySem.W.codeIn K cd5 "is_end" = true) (k5 : PySem.W.keepIn K (.ref f5) = true)
    (a6 : PySem.W.nsIn K mainGlobals "is_deed" = some (some (.ref f6))) (l6 : K.lookup f6 = some ⟨oc6, od6, .func (PySem.W.fnOf "is_deed" "is_deed" (defArgs s_is_deed) (defBody s_is_deed) (defScope s_is_deed) .none kV6 dc6 pm6 an6 cd6 ct6), sl6⟩) (c6 : PySem.W.codeIn K cd6 "is_deed" = true) (k6 : PySem.W.keepIn K (.ref f6) = true)
    (a7 : PySem.W.nsIn K mainGlobals "want_deed" = some (some (.ref f7))) (l7 : K.lookup f7 = some ⟨oc7, od7, .func (PySem.W.fnOf "want_deed" "want_deed" (defArgs s_want_deed) (defBody s_want_deed) (defScope s_want_deed) .none kV7 dc7 pm7 an7 cd7 ct7), sl7⟩) (c7 : PySem.W.codeIn K cd7 "want_deed" = true) (k7 : PySem.W.keepIn K (.ref f7) = true)
    (a8 : PySem.W.nsIn K mainGlobals "put_through" = some (some (.ref f8))) (l8 : K.lookup f8 = some ⟨oc8, od8, .func (PySem.W.fnOf "put_through" "put_through" (defArgs s_put_through) (defBody s_put_through) (defScope s_put_through) .none kV8 dc8 pm8 an8 cd8 ct8), sl8⟩) (c8 : PySem.W.codeIn K cd8 "put_through" = true) (k8 : PySem.W.keepIn K (.ref f8) = true)
    (a9 : PySem.W.nsIn K mainGlobals "done" = some (some (.ref f9))) (l9 : K.lookup f9 = some ⟨oc9, od9, .func (PySem.W.fnOf "done" "done" (defArgs s_done) (defBody s_done) (defScope s_done) .none kV9 dc9 pm9 an9 cd9 ct9), sl9⟩) (c9 : PySem.W.codeIn K cd9 "done" = true) (k9 : PySem.W.keepIn K (.ref f9) = true)
    (a10 : PySem.W.nsIn K mainGlobals "whole_deed" = some (some (.ref f10))) (l10 : K.lookup f10 = some ⟨oc10, od10, .func (PySem.W.fnOf "whole_deed" "whole_deed" (defArgs s_whole_deed) (defBody s_whole_deed) (defScope s_whole_deed) .none kV10 dc10 pm10 an10 cd10 ct10), sl10⟩) (c10 : PySem.W.codeIn K cd10 "whole_deed" = true) (k10 : PySem.W.keepIn K (.ref f10) = true)
    (a11 : PySem.W.nsIn K mainGlobals "one_behind" = some (some (.ref f11))) (l11 : K.lookup f11 = some ⟨oc11, od11, .func (PySem.W.fnOf "one_behind" "one_behind" (defArgs s_one_behind) (defBody s_one_behind) (defScope s_one_behind) .none kV11 dc11 pm11 an11 cd11 ct11), sl11⟩) (c11 : PySem.W.codeIn K cd11 "one_behind" = true) (k11 : PySem.W.keepIn K (.ref f11) = true)
    (a12 : PySem.W.nsIn K mainGlobals "then" = some (some (.ref f12))) (l12 : K.lookup f12 = some ⟨oc12, od12, .func (PySem.W.fnOf "then" "then" (defArgs s_then) (defBody s_then) (defScope s_then) .none kV12 dc12 pm12 an12 cd12 ct12), sl12⟩) (c12 : PySem.W.codeIn K cd12 "then" = true) (k12 : PySem.W.keepIn K (.ref f12) = true)
    (a13 : PySem.W.nsIn K mainGlobals "again" = some (some (.ref f13))) (l13 : K.lookup f13 = some ⟨oc13, od13, .func (PySem.W.fnOf "again" "again" (defArgs s_again) (defBody s_again) (defScope s_again) .none kV13 dc13 pm13 an13 cd13 ct13), sl13⟩) (c13 : PySem.W.codeIn K cd13 "again" = true) (k13 : PySem.W.keepIn K (.ref f13) = true)
    (a14 : PySem.W.nsIn K mainGlobals "_law_pot" = some (some (.ref f14))) (l14 : K.lookup f14 = some ⟨oc14, od14, .func (PySem.W.fnOf "_law_pot" "_law_pot" (defArgs s__law_pot) (defBody s__law_pot) (defScope s__law_pot) .none kV14 dc14 pm14 an14 cd14 ct14), sl14⟩) (c14 : PySem.W.codeIn K cd14 "_law_pot" = true) (k14 : PySem.W.keepIn K (.ref f14) = true)
    (a15 : PySem.W.nsIn K mainGlobals "_law_take" = some (some (.ref f15))) (l15 : K.lookup f15 = some ⟨oc15, od15, .func (PySem.W.fnOf "_law_take" "_law_take" (defArgs s__law_take) (defBody s__law_take) (defScope s__law_take) .none kV15 dc15 pm15 an15 cd15 ct15), sl15⟩) (c15 : PySem.W.codeIn K cd15 "_law_take" = true) (k15 : PySem.W.keepIn K (.ref f15) = true)
    (a16 : PySem.W.nsIn K mainGlobals "_law_number" = some (some (.ref f16))) (l16 : K.lookup f16 = some ⟨oc16, od16, .func (PySem.W.fnOf "_law_number" "_law_number" (defArgs s__law_number) (defBody s__law_number) (defScope s__law_number) .none kV16 dc16 pm16 an16 cd16 ct16), sl16⟩) (c16 : PySem.W.codeIn K cd16 "_law_number" = true) (k16 : PySem.W.keepIn K (.ref f16) = true)
    (a17 : PySem.W.nsIn K mainGlobals "_law_deed" = some (some (.ref f17))) (l17 : K.lookup f17 = some ⟨oc17, od17, .func (PySem.W.fnOf "_law_deed" "_law_deed" (defArgs s__law_deed) (defBody s__law_deed) (defScope s__law_deed) .none kV17 dc17 pm17 an17 cd17 ct17), sl17⟩) (c17 : PySem.W.codeIn K cd17 "_law_deed" = true) (k17 : PySem.W.keepIn K (.ref f17) = true)
    (a18 : PySem.W.nsIn K mainGlobals "_law_makes" = some (some (.ref f18))) (l18 : K.lookup f18 = some ⟨oc18, od18, .func (PySem.W.fnOf "_law_makes" "_law_makes" (defArgs s__law_makes) (defBody s__law_makes) (defScope s__law_makes) .none kV18 dc18 pm18 an18 cd18 ct18), sl18⟩) (c18 : PySem.W.codeIn K cd18 "_law_makes" = true) (k18 : PySem.W.keepIn K (.ref f18) = true)
    (a19 : PySem.W.nsIn K mainGlobals "_law_turns" = some (some (.ref f19))) (l19 : K.lookup f19 = some ⟨oc19, od19, .func (PySem.W.fnOf "_law_turns" "_law_turns" (defArgs s__law_turns) (defBody s__law_turns) (defScope s__law_turns) .none kV19 dc19 pm19 an19 cd19 ct19), sl19⟩) (c19 : PySem.W.codeIn K cd19 "_law_turns" = true) (k19 : PySem.W.keepIn K (.ref f19) = true)
    (a20 : PySem.W.nsIn K mainGlobals "_law_after" = some (some (.ref f20))) (l20 : K.lookup f20 = some ⟨oc20, od20, .func (PySem.W.fnOf "_law_after" "_law_after" (defArgs s__law_after) (defBody s__law_after) (defScope s__law_after) .none kV20 dc20 pm20 an20 cd20 ct20), sl20⟩) (c20 : PySem.W.codeIn K cd20 "_law_after" = true) (k20 : PySem.W.keepIn K (.ref f20) = true)
    (a21 : PySem.W.nsIn K mainGlobals "_law_power" = some (some (.ref f21))) (l21 : K.lookup f21 = some ⟨oc21, od21, .func (PySem.W.fnOf "_law_power" "_law_power" (defArgs s__law_power) (defBody s__law_power) (defScope s__law_power) .none kV21 dc21 pm21 an21 cd21 ct21), sl21⟩) (c21 : PySem.W.codeIn K cd21 "_law_power" = true) (k21 : PySem.W.keepIn K (.ref f21) = true)
    (a22 : PySem.W.nsIn K mainGlobals "_law_by_one" = some (some (.ref f22))) (l22 : K.lookup f22 = some ⟨oc22, od22, .func (PySem.W.fnOf "_law_by_one" "_law_by_one" (defArgs s__law_by_one) (defBody s__law_by_one) (defScope s__law_by_one) .none kV22 dc22 pm22 an22 cd22 ct22), sl22⟩) (c22 : PySem.W.codeIn K cd22 "_law_by_one" = true) (k22 : PySem.W.keepIn K (.ref f22) = true)
    (a23 : PySem.W.nsIn K mainGlobals "law" = some (some (.ref f23))) (l23 : K.lookup f23 = some ⟨oc23, od23, .func (PySem.W.fnOf "law" "law" (defArgs s_law) (defBody s_law) (defScope s_law) .none kV23 dc23 pm23 an23 cd23 ct23), sl23⟩) (c23 : PySem.W.codeIn K cd23 "law" = true) (k23 : PySem.W.keepIn K (.ref f23) = true)
    (z0 : PySem.W.nsIn K mainGlobals "abs" = some none)
    (z1 : PySem.W.nsIn K mainGlobals "bool" = some none)
    (z2 : PySem.W.nsIn K mainGlobals "divmod" = some none)
    (z3 : PySem.W.nsIn K mainGlobals "int" = some none)
    (z4 : PySem.W.nsIn K mainGlobals "isinstance" = some none)
    (z5 : PySem.W.nsIn K mainGlobals "len" = some none)
    (z6 : PySem.W.nsIn K mainGlobals "list" = some none)
    (z7 : PySem.W.nsIn K mainGlobals "max" = some none)
    (z8 : PySem.W.nsIn K mainGlobals "min" = some none)
    (z9 : PySem.W.nsIn K mainGlobals "range" = some none)
    (z10 : PySem.W.nsIn K mainGlobals "tuple" = some none)
    {tc0_0 : Tok} {ga0 : Addr} {gd0 : Option Addr} {gn0 : Nat} {gs0 : Array (Option Value)} (cst0 : PySem.W.nsIn K mainGlobals "LOOK" = some (some (.ref ga0))) (cstl0 : K.lookup ga0 = some ⟨.type "tuple", gd0, .seq #[.int 0 tc0_0, .none, .none] gn0, gs0⟩)
    : AllD K mg := by
  exact ⟨Df.of l1 c1 k1 (PySem.W.mg_of X G a1) (fun _ _ _ _ _ _ us hl => match us, hl with | [_], _ => rfl), Df.of l2 c2 k2 (PySem.W.mg_of X G a2) (fun _ _ _ _ _ _ us hl => match us, hl with | [_, _], _ => rfl), Df.of l3 c3 k3 (PySem.W.mg_of X G a3) (fun _ _ _ _ _ _ us hl => match us, hl with | [_], _ => rfl), Df.of l4 c4 k4 (PySem.W.mg_of X G a4) (fun _ _ _ _ _ _ us hl => match us, hl with | [_, _], _ => rfl), Df.of l5 c5 k5 (PySem.W.mg_of X G a5) (fun _ _ _ _ _ _ us hl => match us, hl with | [_], _ => rfl), Df.of l6 c6 k6 (PySem.W.mg_of X G a6) (fun _ _ _ _ _ _ us hl => match us, hl with | [_], _ => rfl), Df.of l7 c7 k7 (PySem.W.mg_of X G a7) (fun _ _ _ _ _ _ us hl => match us, hl with | [_], _ => rfl), Df.of l8 c8 k8 (PySem.W.mg_of X G a8) (fun _ _ _ _ _ _ us hl => match us, hl with | [_, _], _ => rfl), Df.of l9 c9 k9 (PySem.W.mg_of X G a9) (fun _ _ _ _ _ _ us hl => match us, hl with | [_, _], _ => rfl), Df.of l10 c10 k10 (PySem.W.mg_of X G a10) (fun _ _ _ _ _ _ us hl => match us, hl with | [_, _, _], _ => rfl), Df.of l11 c11 k11 (PySem.W.mg_of X G a11) (fun _ _ _ _ _ _ us hl => match us, hl with | [_, _], _ => rfl), Df.of l12 c12 k12 (PySem.W.mg_of X G a12) (fun _ _ _ _ _ _ us hl => match us, hl with | [_, _], _ => rfl), Df.of l13 c13 k13 (PySem.W.mg_of X G a13) (fun _ _ _ _ _ _ us hl => match us, hl with | [_, _], _ => rfl), Df.of l14 c14 k14 (PySem.W.mg_of X G a14) (fun _ _ _ _ _ _ us hl => match us, hl with | [_, _], _ => rfl), Df.of l15 c15 k15 (PySem.W.mg_of X G a15) (fun _ _ _ _ _ _ us hl => match us, hl with | [_, _], _ => rfl), Df.of l16 c16 k16 (PySem.W.mg_of X G a16) (fun _ _ _ _ _ _ us hl => match us, hl with | [_], _ => rfl), Df.of l17 c17 k17 (PySem.W.mg_of X G a17) (fun _ _ _ _ _ _ us hl => match us, hl with | [_], _ => rfl), Df.of l18 c18 k18 (PySem.W.mg_of X G a18) (fun _ _ _ _ _ _ us hl => match us, hl with | [_, _], _ => rfl), Df.of l19 c19 k19 (PySem.W.mg_of X G a19) (fun _ _ _ _ _ _ us hl => match us, hl with | [_], _ => rfl), Df.of l20 c20 k20 (PySem.W.mg_of X G a20) (fun _ _ _ _ _ _ us hl => match us, hl with | [_, _], _ => rfl), Df.of l21 c21 k21 (PySem.W.mg_of X G a21) (fun _ _ _ _ _ _ us hl => match us, hl with | [_, _], _ => rfl), Df.of l22 c22 k22 (PySem.W.mg_of X G a22) (fun _ _ _ _ _ _ us hl => match us, hl with | [_, _, _], _ => rfl), Df.of l23 c23 k23 (PySem.W.mg_of X G a23) (fun _ _ _ _ _ _ us hl => match us, hl with | [_], _ => rfl), ⟨PySem.W.mg_none_of X G z0, PySem.W.mg_none_of X G z1, PySem.W.mg_none_of X G z2, PySem.W.mg_none_of X G z3, PySem.W.mg_none_of X G z4, PySem.W.mg_none_of X G z5, PySem.W.mg_none_of X G z6, PySem.W.mg_none_of X G z7, PySem.W.mg_none_of X G z8, PySem.W.mg_none_of X G z9, PySem.W.mg_none_of X G z10, ⟨_, PySem.W.mg_of X G cst0, _, _, _, cstl0, rfl, rfl, by show 3 ≤ sizeLine; decide, (.cons ⟨_, rfl⟩ (.cons rfl (.cons rfl .nil)))⟩⟩⟩

theorem law_fd {P : Program} {w : World} {K : PySem.W.Frag} {mg : Str → Option Value} {fa : Addr} (A : AllD K mg) (hfa : mg "law" = some (.ref fa)) :
    ∃ fd : FuncData, (∀ (s : Shared) (v : Value), BindsTo s fd ⟨[v], []⟩ [("_law_script", v)]) ∧ ∀ base : Heap, K.In base → base.Ns mainGlobals mg → FnOk P w K mg base CX0 7 fa fd ["_law_script"] (spLaw K) := by
  obtain ⟨f, fd, F, m, b⟩ := A.d_law.ex
  have e := hfa.symm.trans m
  cases e
  refine ⟨fd, fun s v => by obtain ⟨oc, od, kV, doc, pm, an, cdv, ct, osl, rfl, lk, hcd⟩ := F.ex; exact .of_eq rfl, fun base _ _ => ?_⟩
  have B := A.bl
  have D_is_whole : Dn P w K mg base 1 "is_whole" ["thing"] spIsWhole := k_is_whole B A.d_is_whole 
  have D_is_row_of : Dn P w K mg base 1 "is_row_of" ["thing", "many"] (spIsRow K) := k_is_row_of B A.d_is_row_of 
  have D_want_whole : Dn P w K mg base 2 "want_whole" ["thing"] spWantWhole := k_want_whole B A.d_want_whole D_is_whole
  have D_is_end : Dn P w K mg base 2 "is_end" ["thing"] spIsEnd := k_is_end B A.d_is_end D_is_whole
  have D_is_deed : Dn P w K mg base 3 "is_deed" ["thing"] (spIsDeed K) := k_is_deed B A.d_is_deed D_is_whole D_is_row_of D_is_end
  have D_want_deed : Dn P w K mg base 4 "want_deed" ["thing"] (spWantDeed K) := k_want_deed B A.d_want_deed D_is_deed
  have D_put_through : Dn P w K mg base 1 "put_through" ["deed", "value"] (spPut K) := k_put_through B A.d_put_through 
  have D_done : Dn P w K mg base 5 "done" ["deed", "value"] (spDone K) := k_done B A.d_done D_want_whole D_want_deed D_put_through
  have D__law_pot : Dn P w K mg base 1 "_law_pot" ["_law_script", "_law_k"] (spPot K) := k__law_pot B A.d__law_pot 
  have D__law_take : Dn P w K mg base 1 "_law_take" ["_law_pot_here", "_law_many"] spTake := k__law_take B A.d__law_take 
  have D__law_number : Dn P w K mg base 2 "_law_number" ["_law_pot_here"] spNumber := k__law_number B A.d__law_number D__law_take
  have D__law_deed : Dn P w K mg base 3 "_law_deed" ["_law_pot_here"] spDeed := k__law_deed B A.d__law_deed D__law_take D__law_number
  have D__law_makes : Dn P w K mg base 1 "_law_makes" ["_law_deed_here", "_law_value"] (spMakes K) := k__law_makes B A.d__law_makes 
  have D__law_turns : Dn P w K mg base 1 "_law_turns" ["_law_deed_here"] (spTurns K) := k__law_turns B A.d__law_turns 
  have D_whole_deed : Dn P w K mg base 1 "whole_deed" ["add", "low", "high"] spWholeDeed := k_whole_deed B A.d_whole_deed 
  have D_one_behind : Dn P w K mg base 2 "one_behind" ["one", "other"] (spBehind K) := k_one_behind B A.d_one_behind D_put_through D_whole_deed
  have D_then : Dn P w K mg base 5 "then" ["one", "other"] (spThen K) := k_then B A.d_then D_want_deed D_one_behind
  have D__law_after : Dn P w K mg base 2 "_law_after" ["_law_one", "_law_other"] (spAfter K) := k__law_after B A.d__law_after D__law_makes
  have D_want_from : Dn P w K mg base 2 "want_from" ["thing", "least"] spWantFrom := k_want_from B A.d_want_from D_is_whole
  have D_again : Dn P w K mg base 5 "again" ["deed", "many"] (spAgain K) := k_again B A.d_again D_want_from D_want_deed D_whole_deed
  have D__law_power : Dn P w K mg base 3 "_law_power" ["_law_deed_here", "_law_many"] (spPower K) := k__law_power B A.d__law_power D__law_after
  have D__law_by_one : Dn P w K mg base 6 "_law_by_one" ["_law_deed_here", "_law_values", "_law_many"] (spByOne K) := k__law_by_one B A.d__law_by_one D_done D_again D__law_makes
  exact k_law B F D__law_pot D__law_take D__law_deed D__law_number D_again D__law_power D_then D__law_after D__law_turns D__law_by_one

theorem walk {l : PySem.W.OpenLaw} {q : Program} {loose : List Str} {XP : (Str → Option Value) → Heap → Prop} {YP : World → Heap → Prop} {d : DefRec} {K : Params → PySem.W.Frag} (hn : l.most = some 63) (hdf : d.params.defaults = [])
    (hY : ∀ (w : World) (h : Heap), YP w h → (K w.params).In h) (hname : d.name = "law")
    (F : ∀ (w : World) (mg : Str → Option Value) (h : Heap), (K w.params).In h → h.Ns mainGlobals mg → AllD (K w.params) mg) :
    PySem.W.WalkO q loose XP YP l.row.toRowW d [] (fun f vs => PySem.call f vs) :=
  L2.walk_of (n := 63) (k := 7) (x := "_law_script") (CX := fun _ => CX0) (sp := fun w => spLaw (K w.params)) hn (by decide) hdf ⟨rfl, by decide, by decide⟩ hY
    (fun w mg fa h KX G hfa => by
      have A := F w mg h KX G
      exact law_fd A (by rw [hname] at hfa; exact hfa)) (fun _ _ a ns hl _ hS => ⟨a, ns, rfl, hS, hl, fun _ => rfl⟩) fun _ _ _ _ _ z => z
end Toy
open PySem PySem.W PyProof.Rows
set_option maxRecDepth 100000 in
set_option maxHeartbeats 0 in
theorem PySem.Challenge.cw_joinedasks_k15_whole_again_holds : PySem.Challenge.rw_joinedasks_k15_whole_again.Holds := by
  w_on; o_law; k_head; (case hw => w_witness2)
  k_fill
  refine Toy.walk (l := PySem.Challenge.rw_joinedasks_k15_whole_again) rfl rfl (fun w h Y => PySem.W.kIn_of Y) rfl ?F
  case F =>
    intro w mg h KX G
    refine' Toy.all_mk (w := w) KX G ?a1 ?l1 ?c1 ?k1 ?a2 ?l2 ?c2 ?k2 ?a3 ?l3 ?c3 ?k3 ?a4 ?l4 ?c4 ?k4 ?a5 ?l5 ?c5 ?k5 ?a6 ?l6 ?c6 ?k6 ?a7 ?l7 ?c7 ?k7 ?a8 ?l8 ?c8 ?k8 ?a9 ?l9 ?c9 ?k9 ?a10 ?l10 ?c10 ?k10 ?a11 ?l11 ?c11 ?k11 ?a12 ?l12 ?c12 ?k12 ?a13 ?l13 ?c13 ?k13 ?a14 ?l14 ?c14 ?k14 ?a15 ?l15 ?c15 ?k15 ?a16 ?l16 ?c16 ?k16 ?a17 ?l17 ?c17 ?k17 ?a18 ?l18 ?c18 ?k18 ?a19 ?l19 ?c19 ?k19 ?a20 ?l20 ?c20 ?k20 ?a21 ?l21 ?c21 ?k21 ?a22 ?l22 ?c22 ?k22 ?a23 ?l23 ?c23 ?k23 ?z0 ?z1 ?z2 ?z3 ?z4 ?z5 ?z6 ?z7 ?z8 ?z9 ?z10 ?cst0 ?cstl0
    (case a1 => k_is)
    (case l1 => k_is)
    (case c1 => k_is)
    (case k1 => k_is)
    (case a2 => k_is)
    (case l2 => k_is)
    (case c2 => k_is)
    (case k2 => k_is)
    (case a3 => k_is)
    (case l3 => k_is)
    (case c3 => k_is)
    (case k3 => k_is)
    (case a4 => k_is)
    (case l4 => k_is)
    (case c4 => k_is)
    (case k4 => k_is)
    (case a5 => k_is)
    (case l5 => k_is)
    (case c5 => k_is)
    (case k5 => k_is)
    (case a6 => k_is)
    (case l6 => k_is)
    (case c6 => k_is)
    (case k6 => k_is)
    (case a7 => k_is)
    (case l7 => k_is)
    (case c7 => k_is)
    (case k7 => k_is)
    (case a8 => k_is)
    (case l8 => k_is)
    (case c8 => k_is)
    (case k8 => k_is)
    (case a9 => k_is)
    (case l9 => k_is)
    (case c9 => k_is)
    (case k9 => k_is)
    (case a10 => k_is)
    (case l10 => k_is)
    (case c10 => k_is)
    (case k10 => k_is)
    (case a11 => k_is)
    (case l11 => k_is)
    (case c11 => k_is)
    (case k11 => k_is)
    (case a12 => k_is)
    (case l12 => k_is)
    (case c12 => k_is)
    (case k12 => k_is)
    (case a13 => k_is)
    (case l13 => k_is)
    (case c13 => k_is)
    (case k13 => k_is)
    (case a14 => k_is)
    (case l14 => k_is)
    (case c14 => k_is)
    (case k14 => k_is)
    (case a15 => k_is)
    (case l15 => k_is)
    (case c15 => k_is)
    (case k15 => k_is)
    (case a16 => k_is)
    (case l16 => k_is)
    (case c16 => k_is)
    (case k16 => k_is)
    (case a17 => k_is)
    (case l17 => k_is)
    (case c17 => k_is)
    (case k17 => k_is)
    (case a18 => k_is)
    (case l18 => k_is)
    (case c18 => k_is)
    (case k18 => k_is)
    (case a19 => k_is)
    (case l19 => k_is)
    (case c19 => k_is)
    (case k19 => k_is)
    (case a20 => k_is)
    (case l20 => k_is)
    (case c20 => k_is)
    (case k20 => k_is)
    (case a21 => k_is)
    (case l21 => k_is)
    (case c21 => k_is)
    (case k21 => k_is)
    (case a22 => k_is)
    (case l22 => k_is)
    (case c22 => k_is)
    (case k22 => k_is)
    (case a23 => k_is)
    (case l23 => k_is)
    (case c23 => k_is)
    (case k23 => k_is)
    (case z0 => k_is)
    (case z1 => k_is)
    (case z2 => k_is)
    (case z3 => k_is)
    (case z4 => k_is)
    (case z5 => k_is)
    (case z6 => k_is)
    (case z7 => k_is)
    (case z8 => k_is)
    (case z9 => k_is)
    (case z10 => k_is)
    (case cst0 => k_is)
    (case cstl0 => k_is)
#print axioms PySem.Challenge.cw_joinedasks_k15_whole_again_holds

