import PyProof.Rows.All
import Wide.All
import OpenK.AllK
import Wide.FinOn
import HandS.ForMost
import HandS.WideBits
import HandS.Conv
import HandS.IsInst
import HandS.RaiseMore
import HandS.SortInts
import HandS.Style
import HandS.Codes
import HandS.ForExc
import HandS.TryMany
import HandS.Flow
import KE.KEqSeq
import PyProof.ReprRoads
import KE.GoesMore
import PySem.Challenge.RW_joinedasks_k23_whole_all_and_ahead
set_option Elab.async false
set_option linter.all false
set_option maxRecDepth 100000
set_option maxHeartbeats 4000000
set_option exponentiation.threshold 100000
namespace Toy
open PySem PySem.Spec PyProof.Rows L2
/-- a def of the text stands behind its name -/
structure Df (K : PySem.W.Frag) (mg : Str → Option Value) (x : Str) (st : Stmt) (ps : List Str) : Prop where
  ex : ∃ f fd, Fun K x x st f fd ∧ mg x = some (.ref f) ∧ Binds K fd ps []
theorem Df.of {K : PySem.W.Frag} {mg : Str → Option Value} {x : Str} {st : Stmt} {ps : List Str} {f : Addr} {oc : Value} {od an : Option Addr} {osl : Array (Option Value)} {kV doc pm cdv ct : Value}
    (l : K.lookup f = some ⟨oc, od, .func (PySem.W.fnOf x x (defArgs st) (defBody st) (defScope st) .none kV doc pm an cdv ct), osl⟩) (c : PySem.W.codeIn K cdv x = true) (k : PySem.W.keepIn K (.ref f) = true) (m : mg x = some (.ref f))
    (h : ∀ (kV doc pm : Value) (an : Option Addr) (cdv ct : Value) (us : List Value), us.length = ps.length → bindArgs (PySem.W.fnOf x x (defArgs st) (defBody st) (defScope st) .none kV doc pm an cdv ct) ⟨us, []⟩ = pure (ps.zip us)) : Df K mg x st ps :=
  ⟨_, _, fun_mk l c k, m, (fun_mk l c k).binds h⟩
end Toy
namespace Toy
open PySem PySem.Spec PyProof.Rows L2
/-- room for calls, and nothing is being shown (repr, str of containers ask that) -/
structure RoomG (k : Nat) (A : Around) : Prop where
  room : Room k A
  idle : A.guards = some []
theorem RoomG.less {j k : Nat} {A : Around} (r : RoomG k A) (h : j ≤ k) : RoomG j A := ⟨r.room.mono h, r.idle⟩
theorem RoomG.units {k : Nat} {A : Around} (r : RoomG k A) : A.units + 64 < cLine := r.room.units
theorem RoomG.in_ {k : Nat} {A : Around} (r : RoomG (k + 1) A) (env : Env) : RoomG k (A.deeper env) := ⟨r.room.deeper env, r.idle⟩
/-- a def's promise under such a call -/
structure FnG (P : Program) (w : World) (K : PySem.W.Frag) (mg : Str → Option Value) (base : Heap) (CX : CXT) (k : Nat) (f : Addr) (fd : FuncData) (ps : List Str) (sp : Sp) : Prop where
  arity : ∀ vs H Q E, sp vs H Q E → vs.length = ps.length
  go : ∀ {A : Around} {outer : List Env} {s : Shared} {H : Hp} {args : Args} {us : List Value} {vs : List V} {Q : VK} {E : XK}, RoomG k A → Env0 P w K mg base A outer s H →
    BindsTo s fd args (ps.zip us) → Vals vs us → sp vs H Q E → codeAny (model P w) A (.call (.ref f) args) (CR CX outer P w H s Q E) s
section
variable {P : Program} {w : World} {K : PySem.W.Frag} {mg : Str → Option Value} {base : Heap} {CX : CXT}
/-- a body that ends well ends the call well -/
theorem flow_end {N : List Str} {qual : Str} {scope : Scope} {f : Addr} {cd : Value} {A : Around} {outer : List Env} {s : Shared} {H : Hp} {Q : VK} {E : XK} {fl : Flow} {s' : Shared}
    (h : SP (cxOf CX P w K mg base N qual scope f cd A outer s H E) [] { nx := fun _ H' => Q .non H', rt := Q } fl s') :
    ∃ u, (fl = .next ∧ u = Value.none ∨ fl = .ret u) ∧ CE outer P w H s Q u s' := by
  cases fl with
  | next =>
    obtain ⟨σ, H1, J, q⟩ := h
    exact ⟨_, .inl ⟨rfl, rfl⟩, .non, H1, J.os, J.bare, J.base, J.hok, rfl, q⟩
  | ret u =>
    obtain ⟨v, σ, H1, J, r, q⟩ := h
    exact ⟨u, .inr rfl, v, H1, J.os, J.bare, J.base, J.hok, r, q⟩
  | brk =>
    obtain ⟨_, _, _, q⟩ := h
    cases q
  | cont =>
    obtain ⟨_, _, _, q⟩ := h
    cases q
theorem okG {x qual : Str} {st : Stmt} {f : Addr} {fd : FuncData} {N ps : List Str} {k : Nat} {sp : Sp} (F : Fun K x qual st f fd) (S : FnScope N ps (defScope st)) (ar : ∀ vs H Q E, sp vs H Q E → vs.length = ps.length)
    (body : ∀ (cdv : Value) (A : Around) (outer : List Env) (s : Shared) (H : Hp) (vs : List V) (Q : VK) (E : XK), RoomG k (A.deeper (envOfC qual (defScope st) s.heap.objs.size f cdv)) → sp vs H Q E →
      ∃ t, PSs (cxOf CX P w K mg base N qual (defScope st) f cdv A outer s H E) (defBody st) t ∧ t { nx := fun _ H' => Q .non H', rt := Q } (start N vs) H) : FnG P w K mg base CX (k + 1) f fd ps sp := by
  obtain ⟨oc, od, kV, doc, pm, an, cdv, ct, osl, rfl, lk, hcd⟩ := F.ex
  refine ⟨ar, ?_⟩
  intro A outer s H args us vs Q E room e0 hb rv hsp
  have kin : K.In s.heap := e0.mod.kin.keeps fun b o z => (e0.bs b o z).1
  have nolim : s.heap.NoLimit := e0.mod.nolimit.keeps fun b o z => (e0.bs b o z).1
  have kinds : ∀ y ∈ ps.zip us, (defScope st).names.lookup y.1 = some .local ∨ ((defScope st).names.lookup y.1 = some .cell ∧ ((cellsFrom (s.heap.objs.size + 1) (defScope st).names []).lookup y.1).isSome = true) := by
    rintro ⟨n, v⟩ hy
    exact (S.par n (List.of_mem_zip hy).1).imp _root_.id fun q => ⟨q, PySem.W.cellsFrom_some _ _ _ (.inl q)⟩
  refine codeAny_call_function room.room.depth (kin _ _ lk) rfl S.co S.gen rfl (PySem.W.codeRec_of kin hcd) (hb _ _ _ _ (wpAny_newFunctionEnv_cells S.kind kinds fun env he s1 inC => ?_))
  subst he
  obtain ⟨t, ht, hq⟩ := body cdv A outer s H vs Q E (room.in_ _) hsp
  refine ⟨nolim.keeps inC.toInCall.keep, codeAny_func (wpAny_mono (ht.run [] s1 (start N vs) H _ (inv_start S room.room.hd e0 (ar _ _ _ _ hsp) rv inC) hq) (fun fl s' z => ?_) fun e s' z => z)⟩
  obtain ⟨u, c, q⟩ := flow_end z
  rcases c with ⟨rfl, rfl⟩ | rfl
  · exact q
  · exact q
theorem okG0 {x qual : Str} {st : Stmt} {f : Addr} {fd : FuncData} {N ps : List Str} {k : Nat} {sp : Sp} (F : Fun K x qual st f fd) (S : FnScope N ps (defScope st)) (ar : ∀ vs H Q E, sp vs H Q E → vs.length = ps.length)
    (body : ∀ (cdv : Value) (A : Around) (outer : List Env) (s : Shared) (H : Hp) (vs : List V) (Q : VK) (E : XK), RoomG k (A.deeper (envOfC qual (defScope st) s.heap.objs.size f cdv)) → sp vs H Q E →
      ∃ t, PSs (cxOf CX0 P w K mg base N qual (defScope st) f cdv A outer s H E).nox (defBody st) t ∧ t { nx := fun _ H' => Q .non H', rt := Q } (start N vs) H) : FnG P w K mg base CX0 (k + 1) f fd ps sp :=
  okG F S ar fun cdv A outer s H vs Q E hr hsp => (body cdv A outer s H vs Q E hr hsp).imp fun _ z => ⟨z.1.nox, z.2⟩
end
section
variable {X : Cx} {CX : CXT} {k : Nat} {f : Addr} {fd : FuncData} {ps : List Str} {sp : Sp}
theorem run_G {pins : List (Addr × Obj)} {σ : L2.St} {H : Hp} {s : Shared} {Q : VK} {E : XK} {us : List Value} {vs : List V} (F : FnG X.prog X.w X.K X.mg X.base CX k f fd ps sp) (hr : RoomG k X.A) (hb : Binds X.K fd ps [])
    (out : ∀ e s', CX X.stack H s E e s' → X.xe e s') (I : Inv X pins σ H s) (r : Vals vs us) (h : sp vs H Q E) : wpAny (model X.prog X.w) X.A (call (.ref f) us) (EP X pins σ Q) X.xe s := by
  have n := (r.length).symm.trans (F.arity _ _ _ _ h)
  have b := hb s us I.kIn (by rw [List.append_nil, n])
  rw [List.append_nil] at b
  refine wpAny_call (codeAny_mono (F.go hr I.env0 b r h) ?_)
  rintro (e | fl) s' q
  · exact out e s' q
  · match fl, q with
    | .ret u, q => exact I.after q
/-- a def and its promise, by its name -/
structure Dn (P : Program) (w : World) (K : PySem.W.Frag) (mg : Str → Option Value) (base : Heap) (k : Nat) (x : Str) (ps : List Str) (sp : Sp) : Prop where
  ex : ∃ f fd, FnG P w K mg base CX0 k f fd ps sp ∧ PySem.W.keepIn K (.ref f) = true ∧ mg x = some (.ref f) ∧ Binds K fd ps []
/-- .. that may raise -/
structure Dx (P : Program) (w : World) (K : PySem.W.Frag) (mg : Str → Option Value) (base : Heap) (k : Nat) (x : Str) (ps : List Str) (sp : Sp) : Prop where
  ex : ∃ f fd, FnG P w K mg base (L2.CX P w) k f fd ps sp ∧ PySem.W.keepIn K (.ref f) = true ∧ mg x = some (.ref f) ∧ Binds K fd ps []
theorem Df.ok {P : Program} {w : World} {K : PySem.W.Frag} {mg : Str → Option Value} {base : Heap} {x : Str} {st : Stmt} (D : Df K mg x st ps)
    (h : ∀ f fd, Fun K x x st f fd → FnG P w K mg base CX0 k f fd ps sp) : Dn P w K mg base k x ps sp := by
  obtain ⟨f, fd, F, m, b⟩ := D.ex
  exact ⟨f, fd, h f fd F, F.kp, m, b⟩
theorem Df.okX {P : Program} {w : World} {K : PySem.W.Frag} {mg : Str → Option Value} {base : Heap} {x : Str} {st : Stmt} (D : Df K mg x st ps)
    (h : ∀ f fd, Fun K x x st f fd → FnG P w K mg base (L2.CX P w) k f fd ps sp) : Dx P w K mg base k x ps sp := by
  obtain ⟨f, fd, F, m, b⟩ := D.ex
  exact ⟨f, fd, h f fd F, F.kp, m, b⟩
variable {x : Str} {p pos : Pos} {e : Expr} {es : List Expr} {t : TA}
theorem pe_cD (D : Dn X.prog X.w X.K X.mg X.base k x ps sp) (hr : RoomG k X.A) (hg : Gl X x) (ha : PA X (e :: es) t) (hdb : (x == ("__debug__" : Str)) = false := by decide)
    (he : starEach (e :: es) X.env = (false, eval e X.env) :: starEach es X.env := by rfl) (hpl : (backTo pos (starEach es X.env)).any (·.1) = false := by rfl) : PE X (.Call (.Name x p) (e :: es) [] pos) (tCall sp [] E0 t) := by
  obtain ⟨f, fd, F, hk, hm, hb⟩ := D.ex
  refine ⟨fun pins s σ H Q I h => wpAny_Call_Name_kw (ld_glob I hg hm (PySem.W.callWith_K (h₀ := X.base) I.ok.mod.kin hk (thn (ha.run pos pins s σ H _ I h) fun us s1 ⟨vs, H1, I1, r, q⟩ => ⟨I1.kIn, ?_⟩) he hpl) hdb)⟩
  have q' : sp vs H1 Q E0 := by
    have z : sp (vs ++ []) H1 Q E0 := q
    rw [List.append_nil] at z
    exact z
  exact run_G F hr hb (fun _ _ z => z.elim) I1 r q'
theorem pe_cD0 (D : Dn X.prog X.w X.K X.mg X.base k x ps sp) (hr : RoomG k X.A) (hg : Gl X x) (hdb : (x == ("__debug__" : Str)) = false := by decide) : PE X (.Call (.Name x p) [] [] pos) (tCall sp [] E0 tNil) := by
  obtain ⟨f, fd, F, hk, hm, hb⟩ := D.ex
  refine ⟨fun pins s σ H Q I h => wpAny_Call_Name_kw (ld_glob I hg hm (PySem.W.callWith_K0 I.kIn hk (run_G (us := []) F hr hb (fun _ _ z => z.elim) I .nil h)) hdb)⟩
/-- a call within a try: what is raised is wished at the slots -/
theorem pe_cX {E : L2.St → XK} (D : Dx X.prog X.w X.K X.mg X.base k x ps sp) (hr : RoomG k X.A) (hg : Gl X x) (hx : ∀ σ, PassesAt (L2.CX X.prog X.w) X σ (E σ)) (ha : PA X (e :: es) t) (hdb : (x == ("__debug__" : Str)) = false := by decide)
    (he : starEach (e :: es) X.env = (false, eval e X.env) :: starEach es X.env := by rfl) (hpl : (backTo pos (starEach es X.env)).any (·.1) = false := by rfl) : PE X (.Call (.Name x p) (e :: es) [] pos) (tCallS sp E t) := by
  obtain ⟨f, fd, F, hk, hm, hb⟩ := D.ex
  exact ⟨fun pins s σ H Q I h => wpAny_Call_Name_kw (ld_glob I hg hm (PySem.W.callWith_K (h₀ := X.base) I.ok.mod.kin hk (thn (ha.run pos pins s σ H _ I h) fun us s1 ⟨vs, H1, I1, r, q⟩ =>
    ⟨I1.kIn, run_G F hr hb (fun e s' z => hx σ pins H1 s1 e s' I1 z) I1 r q⟩) he hpl) hdb)⟩
/-- repr of what is data -/
def rRepr (K : PySem.W.Frag) : List V → Hp → VK → Prop := fun xs H Q => ∃ (x : V) (d : PyData), xs = [x] ∧ Dp K H x d ∧ d.showable = true ∧ d.depth ≤ 60 ∧ d.shown.length ≤ sizeLine ∧ Q (.str d.shown) H
mutual
theorem dp_noDict {K : PySem.W.Frag} {H : Hp} : ∀ (d : PyData) (x : V), Dp K H x d → d.hasDict = false
  | .none, _, _ => rfl
  | .bool _, _, _ => rfl
  | .int _, _, _ => rfl
  | .str _, _, _ => rfl
  | .list ds, _, h => by
    cases h with
    | lst _ ha => simpa [PyData.hasDict] using dp_noDicts ds _ ha
  | .tuple ds, _, h => by
    cases h with
    | tup _ ha => simpa [PyData.hasDict] using dp_noDicts ds _ ha
  | .dict _, _, h => by cases h
theorem dp_noDicts {K : PySem.W.Frag} {H : Hp} : ∀ (ds : List PyData) (xs : List V), DpAll K H xs ds → PyData.hasDictAll ds = false
  | [], _, _ => by simp [PyData.hasDictAll]
  | d :: ds, _, h => by
    cases h with
    | cons a b => simp [PyData.hasDictAll, dp_noDict d _ a, dp_noDicts ds _ b]
end
theorem reprK {K : PySem.W.Frag} (hr : RoomG k X.A) (eK : X.K = K := by rfl) : CallR X (.builtin "repr") (rRepr K) := by
  cases eK
  intro pins s σ H xs us Q I r h
  obtain ⟨x, d, rfl, hd, hs, hdep, hz, q⟩ := h
  obtain ⟨u, rfl, rx⟩ := vals1 r
  obtain ⟨as, rd⟩ := Dp.reads I d x u hd rx
  have hu := hr.units
  have nd := dp_noDict d x hd
  cases hd with
  | non => cases rx; exact PySem.P.repr_of_none ⟨.str _, H, I.tok _, ⟨_, rfl⟩, q⟩
  | bl b => cases rx; exact PySem.P.repr_of_bool ⟨.str _, H, I.tok _, ⟨_, rfl⟩, q⟩
  | int i => obtain ⟨t, rfl⟩ := rx; exact PySem.P.repr_of_int (of_decide_eq_true (by simpa [PyData.showable] using hs)) ⟨.str _, H, I.tok _, ⟨_, rfl⟩, q⟩
  | str z => obtain ⟨t, rfl⟩ := rx; exact PySem.P.repr_of_str ⟨.str _, H, I.tok _, ⟨_, rfl⟩, q⟩ hz
  | lst hq ha =>
    cases rx
    refine repr_of_reads' rd hs (PyData.noDict_hsm nd) hr.idle (by omega) (fun _ _ z => z) (fun h' u tk hk => ⟨.str _, H, I.kept hk, ⟨_, rfl⟩, q⟩) hz
  | tup hq ha =>
    cases rx
    refine repr_of_reads' rd hs (PyData.noDict_hsm nd) hr.idle (by omega) (fun _ _ z => z) (fun h' u tk hk => ⟨.str _, H, I.kept hk, ⟨_, rfl⟩, q⟩) hz
end
end Toy
namespace Toy
open PySem PySem.Spec PyProof.Rows L2
/-- what was tracked stays, but for one object -/
def But (p : Addr) (H H' : Hp) : Prop := ∀ b o, b ≠ p → H b = some o → H' b = some o
theorem But.refl {p : Addr} {H : Hp} : But p H H := fun _ _ _ h => h
theorem But.trans {p : Addr} {H H1 H2 : Hp} (a : But p H H1) (b : But p H1 H2) : But p H H2 := fun c o n h => b c o n (a c o n h)
theorem But.free {p : Addr} {H H' : Hp} (e : But p H H') {l : Addr} (n : l ≠ p) (h : H' l = Option.none) : H l = Option.none := by
  cases q : H l with
  | none => rfl
  | some o =>
    rw [e l o n q] at h
    cases h
theorem same_but {p : Addr} {H H' : Hp} (a : Same H H') : But p H H' := fun c o _ h => a c o h
theorem But.upd {p : Addr} {H : Hp} {o : HO} : But p H (upd H p o) := fun b u n h => by rw [upd_ne n]; exact h
theorem same_new {H : Hp} {p : Addr} (h : H p = none) (o : HO) : Same H (upd H p o) := fun b u q => by rw [upd_ne (ne_of_none q h)]; exact q
theorem but_tup {p : Addr} {K : PySem.W.Frag} {H H' : Hp} {a : Addr} {xs ys : List V} (e : But p H H') (hp : H p = some (.lst ys)) (h : SqT K H a xs) : SqT K H' a xs := by
  rcases h with (h | ⟨o, h⟩) | h
  · exact .inl (.inl (e _ _ (ne_of h hp (by intro z; cases z)) h))
  · exact .inl (.inr ⟨o, e _ _ (ne_of h hp (by intro z; cases z)) h⟩)
  · exact .inr h
theorem same_tup {K : PySem.W.Frag} {H H' : Hp} {a : Addr} {xs : List V} (e : Same H H') (h : SqT K H a xs) : SqT K H' a xs := by
  rcases h with (h | ⟨o, h⟩) | h
  · exact .inl (.inl (e _ _ h))
  · exact .inl (.inr ⟨o, e _ _ h⟩)
  · exact .inr h
/-- the script stays -/
theorem but_seq {p : Addr} {K : PySem.W.Frag} {H H' : Hp} {a : Addr} {xs : List V} (e : But p H H') (n : a ≠ p) (h : SqL K H a xs) : SqL K H' a xs := by
  rcases h with (h | ⟨o, h⟩) | h
  · exact .inl (.inl (e _ _ n h))
  · exact .inl (.inr ⟨o, e _ _ n h⟩)
  · exact .inr h
theorem small {n : Nat} (h : n ≤ 1000) : n ≤ sizeLine := Nat.le_of_lt (small1000 h)
theorem log_lt {i : Int} {n : Nat} (h0 : 0 < n) (h : i.natAbs < 2 ^ n) : i.natAbs.log2 < n := PySem.Flt.log2_lt_of h0 h
theorem divp_small {i j : Int} (hj : 0 < j) (h : j < 2 ^ 8000) : CDivP i j := by
  refine ⟨hj, PyProof.noPylong_of_log2 ?_⟩
  exact Nat.lt_trans (log_lt (n := 8000) (by decide) (by omega)) (by decide)
end Toy
namespace Toy
open PySem PySem.Spec PyProof.Rows L2
theorem ifT {c : Bool} {A B : Prop} (hc : c = true) (h : A) : if c = true then A else B := by rw [if_pos hc]; exact h
theorem ifF {c : Bool} {A B : Prop} (hc : c = false) (h : B) : if c = true then A else B := by rw [hc]; exact iteF h
theorem pj {j : Int} (h : decide ((0 : Int) < j) = true := by decide) : 0 < j := of_decide_eq_true h
theorem sz {xs : List V} (h : Nat.ble xs.length 1000 = true := by rfl) : xs.length ≤ sizeLine := small (Nat.le_of_ble_eq_true h)
theorem but_same {p : Addr} {H H1 H2 : Hp} (n : H p = none) (a : Same H H1) (b : But p H1 H2) : Same H H2 := fun c o h => b c o (ne_of_none h n) (a c o h)
/-- two ways of a value meet -/
theorem ifE {ta tb : TE} {σ : L2.St} {H : Hp} {Q : VK} {b : Bool} (R : V → Hp → Prop) (h : ∀ v H', R v H' → Q v H') (h1 : b = true → ∀ Q' : VK, (∀ v H', R v H' → Q' v H') → ta σ H Q') (h2 : b = false → ∀ Q' : VK, (∀ v H', R v H' → Q' v H') → tb σ H Q') :
    if b = true then ta σ H Q else tb σ H Q := by
  cases b with
  | true => exact iteT (h1 rfl Q h)
  | false => exact iteF (h2 rfl Q h)
theorem mulx {i j : Int} (a b : Nat) (ha : i.natAbs < 2 ^ a) (hb : j.natAbs < 2 ^ b) (h : a + b ≤ 134217728 := by decide) : CMulX i j := mulx_ok ha hb h
end Toy
namespace Toy
open PySem PySem.Spec PyProof.Rows L2
theorem qi {Q : VK} {H : Hp} {a b : Int} (q : Q (.int a) H) (e : a = b) : Q (.int b) H := e ▸ q
end Toy
namespace Toy
open PySem PySem.Spec PyProof.Rows L2
/-- the written part by its letter -/
theorem kk {α : Sort _} {P : α → Prop} {F : PySem.W.Frag → α} {K0 K : PySem.W.Frag} (h : P (F K0)) (e : K0 = K := by rfl) : P (F K) := e ▸ h
def rLen (K : PySem.W.Frag) : List V → Hp → VK → Prop := fun xs H Q => ∃ p ys, xs = [.ref p] ∧ (SqL K H p ys ∨ SqT K H p ys) ∧ Q (.int ys.length) H
theorem lenK {X : Cx} {K : PySem.W.Frag} (e : X.K = K := by rfl) : CallR X (.builtin "len") (rLen K) := by cases e; exact call_len_seq
def rLstOf (K : PySem.W.Frag) : List V → Hp → VK → Prop := fun xs H Q => ∃ p ys, xs = [.ref p] ∧ (SqL K H p ys ∨ SqT K H p ys) ∧ ∀ l, H l = none → Q (.ref l) (upd H l (.lst ys))
theorem lstOfK {X : Cx} {K : PySem.W.Frag} (e : X.K = K := by rfl) : CallR X (.type "list") (rLstOf K) := by cases e; exact call_list_of
def rTupOf (K : PySem.W.Frag) : List V → Hp → VK → Prop := fun xs H Q => ∃ p ys, xs = [.ref p] ∧ ((SqL K H p ys ∧ ∀ l, H l = none → Q (.ref l) (upd H l (.tup ys))) ∨ (SqT K H p ys ∧ Q (.ref p) H))
theorem tupOfK {X : Cx} {K : PySem.W.Frag} (e : X.K = K := by rfl) : CallR X (.type "tuple") (rTupOf K) := by cases e; exact call_tuple_of
theorem dec_ne {α : Type} [DecidableEq α] {a b : α} (h : a = b) : (!decide (a = b)) = false := by rw [decide_eq_true h] <;> rfl
end Toy
namespace Toy
open PySem PySem.Spec PyProof.Rows L2
/-- a tuple of the written part; a tuple that never changes -/
def KTup (K : PySem.W.Frag) (a : Addr) (xs : List V) : Prop := ∃ (o : Obj) (its : Array Value) (n : Nat), K.lookup a = some o ∧ o.cls = .type "tuple" ∧ o.data = .seq its n ∧ its.size ≤ sizeLine ∧ Vals xs its.toList
def TupAt (K : PySem.W.Frag) (H : Hp) (a : Addr) (xs : List V) : Prop := H a = some (.tup xs) ∨ KTup K a xs
theorem TupAt.sq {K : PySem.W.Frag} {H : Hp} {a : Addr} {xs : List V} (h : TupAt K H a xs) : SqT K H a xs := by
  rcases h with h | h
  · exact SqT.of h
  · exact .inr h
theorem TupAt.ty {K : PySem.W.Frag} {H : Hp} {a : Addr} {xs : List V} (h : TupAt K H a xs) : TyX K H (.ref a) (.type "tuple") := by
  rcases h with h | ⟨o, its, n, h1, h2, _⟩
  · exact .base (.tup h)
  · exact .kTuple h1 h2
theorem TupAt.same {K : PySem.W.Frag} {H H' : Hp} {a : Addr} {xs : List V} (e : Same H H') (h : TupAt K H a xs) : TupAt K H' a xs := h.imp (e _ _) id
theorem TupAt.but {K : PySem.W.Frag} {H H' : Hp} {a p : Addr} {xs ys : List V} (e : But p H H') (hp : H p = some (.lst ys)) (h : TupAt K H a xs) : TupAt K H' a xs := h.imp (fun h => e _ _ (ne_of h hp (by intro z; cases z)) h) id
end Toy
namespace Toy
open PySem PySem.Spec PyProof.Rows L2
theorem ints_dp {K : PySem.W.Frag} {H : Hp} : ∀ ns : List Int, DpAll K H (ns.map V.int) (ns.map PyData.int)
  | [] => .nil
  | n :: r => .cons (.int n) (ints_dp r)
theorem ints_sh (ns : List Int) : SeqAt.shaped (.list (ns.map PyData.int)) = true := PySem.W.ke_shaped_ints ns
theorem ints_refl (ns : List Int) : PyData.eqv (.list (ns.map PyData.int)) (.list (ns.map PyData.int)) = true := SeqAt.eqv_refl _ (SeqAt.canLay_of_shaped (ints_sh ns))
theorem lst_dp {K : PySem.W.Frag} {H : Hp} {a : Addr} {ns : List Int} (h : SqL K H a (ns.map V.int)) : Dp K H (.ref a) (.list (ns.map PyData.int)) := .lst h (ints_dp ns)
theorem tupI_dp {K : PySem.W.Frag} {H : Hp} {a : Addr} {ns : List Int} (h : SqT K H a (ns.map V.int)) : Dp K H (.ref a) (.tuple (ns.map PyData.int)) := .tup h (ints_dp ns)
theorem tupI_sh (ns : List Int) : SeqAt.shaped (.tuple (ns.map PyData.int)) = true := ints_sh ns
theorem tupI_refl (ns : List Int) : PyData.eqv (.tuple (ns.map PyData.int)) (.tuple (ns.map PyData.int)) = true := SeqAt.eqv_refl _ (SeqAt.canLay_of_shaped (tupI_sh ns))
theorem cut_map (us : List Int) (lo hi : Option Int) : ∃ ws : List Int, cutV (us.map V.int) lo hi = ws.map V.int ∧ ws.length ≤ us.length ∧ ∀ x ∈ ws, x ∈ us := by
  refine ⟨(us.drop (HT.sIx (us.map V.int).length 0 lo)).take (HT.sIx (us.map V.int).length (us.map V.int).length hi - HT.sIx (us.map V.int).length 0 lo), ?_, ?_, fun x hx => List.mem_of_mem_drop (List.mem_of_mem_take hx)⟩
  · unfold cutV; rw [List.map_take, List.map_drop]
  · rw [List.length_take, List.length_drop]; omega
theorem at_map {us : List Int} {i : Nat} {y : V} (h : (us.map V.int)[i]? = some y) : ∃ x : Int, y = .int x ∧ us[i]? = some x := by
  rw [List.getElem?_map] at h
  cases e : us[i]? with
  | none => rw [e] at h; cases h
  | some x => rw [e] at h; exact ⟨x, (Option.some.inj h).symm, rfl⟩
end Toy
namespace Toy
open PySem PySem.Spec PyProof.Rows L2
/-- the heap in which the script alone stands, unless the text's own part holds it -/
def scriptH (K : PySem.W.Frag) (a : Addr) (o : Obj) (ns : List Int) : Hp := fun c => if (K.lookup a).isNone = true ∧ c = a then some (.frz o (.lst (ns.map V.int))) else none
theorem scriptH_none {K : PySem.W.Frag} {a b : Addr} {o : Obj} {ns : List Int} : scriptH K a o ns b = none ∨ (b = a ∧ K.lookup a = none ∧ scriptH K a o ns b = some (.frz o (.lst (ns.map V.int)))) := by
  unfold scriptH
  by_cases c : (K.lookup a).isNone = true ∧ b = a
  · exact .inr ⟨c.2, Option.isNone_iff_eq_none.mp c.1, if_pos c⟩
  · exact .inl (if_neg c)
theorem law_G {P : Program} {w : World} {K : PySem.W.Frag} {mg mb : Str → Option Value} {k : Nat} {fa a : Addr} {fd : FuncData} {x : Str} {sp : Sp} {s : Shared} {vs : List Value} {ns : List Int}
    (KX : K.In s.heap) (hns : s.heap.Ns mainGlobals mg) (hb : s.heap.Ns builtinsNs mb) (hbb : ∀ x : Str, x ≠ "__name__" → mb x = bootBuiltins x) (hlim : s.heap.NoLimit) (hg : s.gens = #[])
    (ha : s.heap.get? a = some { cls := .type "list", data := .seq vs.toArray }) (hi : IntsAre vs ns) (hl : ns.length ≤ sizeLine) (hr : Room k PySem.callerA)
    (F : ∀ base : Heap, K.In base → base.Ns mainGlobals mg → FnG P w K mg base CX0 k fa fd [x] sp) (hbind : ∀ (s : Shared) (u : Value), BindsTo s fd ⟨[u], []⟩ [(x, u)])
    (hsp : ∀ H : Hp, SqL K H a (ns.map V.int) → sp [.ref a] H (fun v _ => v = .bl true) fun _ _ _ => False) :
    codeAny (model P w) PySem.callerA (.call (.ref fa) ⟨[.ref a], []⟩) (fun r s' => r = .ok (.ret (.bool true)) ∧ OldK s.heap s'.heap ∧ s'.os = s.os ∧ AllBare s'.gens) s := by
  let H : Hp := scriptH K a { cls := .type "list", data := .seq vs.toArray } ns
  have hH : ∀ b, H b = none ∨ (b = a ∧ K.lookup a = none ∧ H b = some (.frz { cls := .type "list", data := .seq vs.toArray } (.lst (ns.map V.int)))) := fun b => scriptH_none
  have rv := vals_ints hi
  have hok : HOk P w H s.heap := by
    intro b u e
    rcases hH b with z | ⟨rfl, _, z⟩
    · rw [z] at e; cases e
    · rw [z] at e
      cases e
      exact ⟨ha, by rw [List.length_map]; exact hl, vs, _, rv, ha⟩
  have hS : SqL K H a (ns.map V.int) := by
    cases q : K.lookup a with
    | none => exact .inl (.inr ⟨_, show scriptH K a _ ns a = _ from if_pos ⟨by rw [q] <;> rfl, rfl⟩⟩)
    | some o =>
      have e := KX a o q
      rw [ha] at e
      cases e
      exact .inr ⟨_, vs.toArray, _, q, rfl, rfl, rfl, by rw [List.size_toArray, hi.length]; exact hl, by simpa using rv⟩
  -- what is no list is not the script
  have notA : ∀ {b : Addr} {o : Obj} {es : Array DictEntry} {ep : Nat}, s.heap.get? b = some o → o.data = .dict es ep → H b = none := by
    intro b o es ep e d
    rcases hH b with z | ⟨rfl, _, _⟩
    · exact z
    · rw [ha] at e
      cases e
      cases (show Data.seq vs.toArray _ = Data.dict es ep from d)
  have ns' : ∀ {b : Addr} {m : Str → Option Value}, s.heap.Ns b m → (hidT s.heap H).Ns b m := by
    rintro b m ⟨o, es, ep, e, d, r⟩
    exact ⟨o, es, ep, hidT_get e (notA e d), d, r⟩
  have kin' : K.In (hidT s.heap H) := by
    intro b o e
    refine hidT_get (KX b o e) ?_
    rcases hH b with z | ⟨rfl, q, _⟩
    · exact z
    · rw [q] at e; cases e
  have md : Mod K mg (hidT s.heap H) := ⟨kin', ns' hns, ⟨mb, ns' hb, hbb⟩, hlim.imp fun _ z => ⟨ns' z.1, z.2⟩⟩
  have e0 : Env0 P w K mg (hidT s.heap H) PySem.callerA [] s H := ⟨rfl, md, fun _ _ z => of_hidT z, Nat.le_of_eq (hidT_size _ _), trivial, (by intro b z; cases z), hok, .of_eq hg⟩
  refine codeAny_mono ((F _ kin' (ns' hns)).go (us := [.ref a]) (vs := [.ref a]) ⟨hr, rfl⟩ e0 (hbind s (.ref a)) (.cons rfl .nil) (hsp H hS)) ?_
  rintro (e | fl) s' q
  · exact q.elim
  match fl, q with
  | .ret u, ⟨v, H', os, bare, un, ok', r', q⟩ =>
    have q' : v = .bl true := q
    subst q'
    obtain rfl : u = Value.bool true := r'
    refine ⟨rfl, OldK.of_keep fun b o e => ?_, os, bare⟩
    rcases hH b with z | ⟨_, _, z⟩
    · exact un.keep b o e z (by intro y; cases y) (by intro y; cases y)
    · have z1 := (hok b _ z).1
      have z2 := (ok' b _ (un.frzs b _ _ z)).1
      rw [e] at z1
      cases z1
      exact z2
theorem walk_G {l : PySem.W.OpenLaw} {n k : Nat} {q : Program} {loose : List Str} {XP : (Str → Option Value) → Heap → Prop} {YP : World → Heap → Prop} {d : DefRec} {K : Params → PySem.W.Frag} {sp : PySem.W.Frag → Sp} {x : Str}
    (hn : l.most = some n) (hn2 : n ≤ sizeLine) (hdf : d.params.defaults = []) (hr : Room k PySem.callerA) (hY : ∀ (w : World) (h : Heap), YP w h → (K w.params).In h)
    (F : ∀ (w : World) (mg : Str → Option Value) (fa : Addr) (h : Heap), (K w.params).In h → h.Ns mainGlobals mg → mg d.name = some (.ref fa) →
      ∃ fd : FuncData, (∀ (s : Shared) (u : Value), BindsTo s fd ⟨[u], []⟩ [(x, u)]) ∧ ∀ base : Heap, (K w.params).In base → base.Ns mainGlobals mg → FnG l.prog w (K w.params) mg base CX0 k fa fd [x] (sp (K w.params)))
    (hsp : ∀ (K : PySem.W.Frag) (H : Hp) (a : Addr) (ns : List Int), ns.length ≤ n → SqL K H a (ns.map V.int) → sp K [.ref a] H (fun v _ => v = .bl true) fun _ _ _ => False) :
    PySem.W.WalkO q loose XP YP l.row.toRowW d [] (fun f vs => PySem.call f vs) :=
  Att.attach_call hn hdf fun w s0 s1 mg mb fa o pm cd doc a vs ns G Y ho hd hcd hmg hobj hints hlen hg => by
    have KX := hY w _ Y
    obtain ⟨fd, hbd, hF⟩ := F w mg fa _ KX G.T.g hmg
    exact law_G KX G.T.g G.T.b G.T.builtins G.T.nolimit hg hobj hints (Nat.le_trans hlen hn2) hr hF hbd fun H hS => hsp _ H a ns hlen hS
end Toy
namespace Toy
open PySem PySem.Spec PyProof.Rows L2
/-! ### how long a shown datum is -/
mutual
def cst : PyData → Nat
  | .none => 5
  | .bool _ => 5
  | .int _ => 1921
  | .str x => (reprText x).length
  | .list xs => csts xs + 4
  | .tuple xs => csts xs + 4
  | .dict _ => 0
def csts : List PyData → Nat
  | [] => 0
  | x :: xs => cst x + 4 + csts xs
end
theorem tupT_len (ts : List Str) : (tupleText ts).length ≤ piled ts + 4 := by
  unfold tupleText
  rw [strLen_append, strLen_append]
  have e1 : ((("(" : String) : Str)).length = 1 := rfl
  have e3 : (((if ts.length == 1 then ",)" else ")" : String) : Str)).length ≤ 2 := by split <;> decide +kernel
  by_cases h : ts = []
  · subst h; decide +kernel
  · have := join_length_add ts h; omega
theorem txtFrom_len : ∀ (ts : List Str) (k : Nat) (acc : Str), (textFrom k acc ts).length ≤ acc.length + piled ts
  | [], k, acc => Nat.le_add_right _ _
  | t :: r, k, acc => by
    have h := txtFrom_len r (k + 1) (acc ++ (if k > 0 then ", " else "" : String) ++ t)
    have e : (acc ++ (if k > 0 then ", " else "" : String) ++ t).length = acc.length + (if k > 0 then 2 else 0) + t.length := by
      rw [strLen_append, strLen_append]
      split <;> rfl
    rw [e] at h
    rw [piled_cons]
    have h2 : (textFrom k acc (t :: r)).length = (textFrom (k + 1) (acc ++ (if k > 0 then ", " else "" : String) ++ t) r).length := rfl
    rw [h2]
    have e2 : (if k > 0 then 2 else 0) ≤ 2 := by split <;> omega
    omega
theorem lstT_len (ts : List Str) : (listText ts).length ≤ piled ts + 4 := by
  unfold listText
  rw [strLen_append]
  have h := txtFrom_len ts 0 "["
  have e1 : ((("[" : String) : Str)).length = 1 := rfl
  have e2 : ((("]" : String) : Str)).length = 1 := rfl
  omega
mutual
theorem shown_le : ∀ d : PyData, d.showable = true → d.hasDict = false → d.shown.length ≤ cst d
  | .none, _, _ => by show (("None" : String) : Str).length ≤ 5; decide +kernel
  | .bool b, _, _ => by cases b <;> (show _ ≤ 5; decide +kernel)
  | .int i, h, _ => PyProof.Rows.int_text_len_1921 (of_decide_eq_true (by simpa [PyData.showable] using h))
  | .str x, _, _ => Nat.le_refl _
  | .list ds, h, g => by
    have h1 := showns_le ds (by simpa [PyData.showable] using h) (by simpa [PyData.hasDict] using g)
    have h2 := lstT_len (PyData.shownAll ds)
    show (listText (PyData.shownAll ds)).length ≤ csts ds + 4
    omega
  | .tuple ds, h, g => by
    have h1 := showns_le ds (by simpa [PyData.showable] using h) (by simpa [PyData.hasDict] using g)
    have h2 := tupT_len (PyData.shownAll ds)
    show (tupleText (PyData.shownAll ds)).length ≤ csts ds + 4
    omega
  | .dict _, _, g => by simp [PyData.hasDict] at g
theorem showns_le : ∀ ds : List PyData, PyData.showableAll ds = true → PyData.hasDictAll ds = false → piled (PyData.shownAll ds) ≤ csts ds
  | [], _, _ => Nat.le_refl _
  | d :: ds, h, g => by
    have h1 := shown_le d (by simp [PyData.showableAll] at h; exact h.1) (by simp [PyData.hasDictAll] at g; exact g.1)
    have h2 := showns_le ds (by simp [PyData.showableAll] at h; exact h.2) (by simp [PyData.hasDictAll] at g; exact g.2)
    show piled (d.shown :: PyData.shownAll ds) ≤ _
    rw [piled_cons]
    show _ ≤ cst d + 4 + csts ds
    omega
end
theorem shown_sz {d : PyData} (h : d.showable = true) (g : d.hasDict = false) (c : cst d ≤ 10000000) : d.shown.length ≤ sizeLine :=
  Nat.le_trans (shown_le d h g) (Nat.le_trans c (by decide))
end Toy
namespace Toy
open PySem PySem.Spec PyProof.Rows L2
/-- a list of ints grown by a part of another one -/
theorem ext_cut {L z : Addr} {ws es : List Int} {lo hi : Option Int} {H : Hp} {R : VK} (hL : H L = some (.lst (ws.map V.int))) (hz : H z = some (.lst (cutV (es.map V.int) lo hi))) (hs : ws.length + es.length ≤ 1000)
    (q : ∀ us : List Int, us.length ≤ es.length → (∀ x ∈ us, x ∈ es) → R .non (upd H L (.lst ((ws ++ us).map V.int)))) : rExtend (.ref L) [.ref z] H R := by
  obtain ⟨us, e, h1, h2⟩ := cut_map es lo hi
  rw [e] at hz
  refine ⟨L, z, _, _, rfl, rfl, hL, hz, small (by rw [List.length_map, List.length_map]; omega), ?_⟩
  have := q us h1 h2
  rw [List.map_append] at this
  exact this
theorem rep_len {n : Nat} : ((List.replicate n true).map V.bl).length = n := by rw [List.length_map, List.length_replicate]
theorem rep_snoc {n : Nat} : (List.replicate n true).map V.bl ++ [V.bl true] = (List.replicate (n + 1) true).map V.bl := by rw [List.replicate_succ', List.map_append] <;> rfl
theorem rep_all (n : Nat) : (List.replicate n true).all id = true := by rw [List.all_eq_true]; intro x hx; rw [List.mem_replicate] at hx; exact hx.2
theorem ixn {n j : Nat} (hj : j < n) : ixN n (j : Int) = some j := by
  unfold ixN
  rw [if_pos (by omega), if_pos (by omega)]
  exact congrArg some (Int.toNat_natCast j)
theorem dec_self (a : V) : decide (a = a) = true := decide_eq_true rfl
end Toy
namespace Toy
open PySem L2
def top (i : Nat) : Stmt := PySem.Challenge.pw_joinedasks_k23_whole_all_and_ahead.main.body.getD i (.Pass ⟨0, 0, 0, 0⟩)
abbrev s_is_whole : Stmt := top 5
theorem sc_is_whole : FnScope ["thing"] ["thing"] (defScope s_is_whole) := ⟨rfl, rfl, rfl, by decide +kernel, rfl, by decide +kernel, by decide +kernel⟩
abbrev s_is_row_of : Stmt := top 6
theorem sc_is_row_of : FnScope ["thing", "many"] ["thing", "many"] (defScope s_is_row_of) := ⟨rfl, rfl, rfl, by decide +kernel, rfl, by decide +kernel, by decide +kernel⟩
abbrev s_is_end : Stmt := top 9
theorem sc_is_end : FnScope ["thing"] ["thing"] (defScope s_is_end) := ⟨rfl, rfl, rfl, by decide +kernel, rfl, by decide +kernel, by decide +kernel⟩
abbrev s_is_deed : Stmt := top 10
theorem sc_is_deed : FnScope ["thing", "add", "low", "high"] ["thing"] (defScope s_is_deed) := ⟨rfl, rfl, rfl, by decide +kernel, rfl, by decide +kernel, by decide +kernel⟩
abbrev s_put_through : Stmt := top 11
theorem sc_put_through : FnScope ["deed", "value", "add", "low", "high", "found"] ["deed", "value"] (defScope s_put_through) := ⟨rfl, rfl, rfl, by decide +kernel, rfl, by decide +kernel, by decide +kernel⟩
abbrev s_whole_deed : Stmt := top 12
theorem sc_whole_deed : FnScope ["add", "low", "high"] ["add", "low", "high"] (defScope s_whole_deed) := ⟨rfl, rfl, rfl, by decide +kernel, rfl, by decide +kernel, by decide +kernel⟩
abbrev s_one_behind : Stmt := top 13
theorem sc_one_behind : FnScope ["one", "other", "low", "high"] ["one", "other"] (defScope s_one_behind) := ⟨rfl, rfl, rfl, by decide +kernel, rfl, by decide +kernel, by decide +kernel⟩
abbrev s_is_board : Stmt := top 17
theorem sc_is_board : FnScope ["thing", "value"] ["thing"] (defScope s_is_board) := ⟨rfl, rfl, rfl, by decide +kernel, rfl, by decide +kernel, by decide +kernel⟩
abbrev s_want_board : Stmt := top 18
theorem sc_want_board : FnScope ["board"] ["board"] (defScope s_want_board) := ⟨rfl, rfl, rfl, by decide +kernel, rfl, by decide +kernel, by decide +kernel⟩
abbrev s_is_ask : Stmt := top 19
theorem sc_is_ask : FnScope ["board", "thing"] ["board", "thing"] (defScope s_is_ask) := ⟨rfl, rfl, rfl, by decide +kernel, rfl, by decide +kernel, by decide +kernel⟩
abbrev s_are_asks : Stmt := top 20
theorem sc_are_asks : FnScope ["board", "thing", "one"] ["board", "thing"] (defScope s_are_asks) := ⟨rfl, rfl, rfl, by decide +kernel, rfl, by decide +kernel, by decide +kernel⟩
abbrev s_want_asks : Stmt := top 21
theorem sc_want_asks : FnScope ["board", "asks"] ["board", "asks"] (defScope s_want_asks) := ⟨rfl, rfl, rfl, by decide +kernel, rfl, by decide +kernel, by decide +kernel⟩
abbrev s_played : Stmt := top 22
theorem sc_played : FnScope ["board", "asks", "values", "answers", "hand", "box", "deed"] ["board", "asks"] (defScope s_played) := ⟨rfl, rfl, rfl, by decide +kernel, rfl, by decide +kernel, by decide +kernel⟩
abbrev s_all_of : Stmt := top 23
theorem sc_all_of : FnScope ["board", "asks", "found", "hand", "box", "deed"] ["board", "asks"] (defScope s_all_of) := ⟨rfl, rfl, rfl, by decide +kernel, rfl, by decide +kernel, by decide +kernel⟩
abbrev s_ahead_of : Stmt := top 24
theorem sc_ahead_of : FnScope ["board", "asks", "made", "found", "hand", "box", "deed"] ["board", "asks"] (defScope s_ahead_of) := ⟨rfl, rfl, rfl, by decide +kernel, rfl, by decide +kernel, by decide +kernel⟩
abbrev s__law_pot : Stmt := top 26
theorem sc__law_pot : FnScope ["_law_script", "_law_k", "_law_primes", "_law_cell"] ["_law_script", "_law_k"] (defScope s__law_pot) := ⟨rfl, rfl, rfl, by decide +kernel, rfl, by decide +kernel, by decide +kernel⟩
abbrev s__law_draw : Stmt := top 27
theorem sc__law_draw : FnScope ["_law_pot_here", "_law_many", "_law_digit"] ["_law_pot_here", "_law_many"] (defScope s__law_draw) := ⟨rfl, rfl, rfl, by decide +kernel, rfl, by decide +kernel, by decide +kernel⟩
abbrev s__law_number : Stmt := top 28
theorem sc__law_number : FnScope ["_law_pot_here", "_law_choice", "_law_far", "_law_k"] ["_law_pot_here"] (defScope s__law_number) := ⟨rfl, rfl, rfl, by decide +kernel, rfl, by decide +kernel, by decide +kernel⟩
abbrev s__law_deed : Stmt := top 29
theorem sc__law_deed : FnScope ["_law_pot_here", "_law_choice", "_law_add", "_law_one", "_law_other"] ["_law_pot_here"] (defScope s__law_deed) := ⟨rfl, rfl, rfl, by decide +kernel, rfl, by decide +kernel, by decide +kernel⟩
abbrev s__law_board : Stmt := top 30
theorem sc__law_board : FnScope ["_law_pot_here", "_law_k"] ["_law_pot_here"] (defScope s__law_board) := ⟨rfl, rfl, rfl, by decide +kernel, rfl, by decide +kernel, by decide +kernel⟩
abbrev s__law_asks : Stmt := top 31
theorem sc__law_asks : FnScope ["_law_pot_here", "_law_board_here", "_law_most", "_law_many", "_law_near", "_law_found", "_law_k"] ["_law_pot_here", "_law_board_here", "_law_most"] (defScope s__law_asks) := ⟨rfl, rfl, rfl, by decide +kernel, rfl, by decide +kernel, by decide +kernel⟩
abbrev s__law_done : Stmt := top 32
theorem sc__law_done : FnScope ["_law_deed_here", "_law_value", "_law_add", "_law_low", "_law_high"] ["_law_deed_here", "_law_value"] (defScope s__law_done) := ⟨rfl, rfl, rfl, by decide +kernel, rfl, by decide +kernel, by decide +kernel⟩
abbrev s__law_behind : Stmt := top 33
theorem sc__law_behind : FnScope ["_law_one", "_law_other", "_law_low", "_law_high"] ["_law_one", "_law_other"] (defScope s__law_behind) := ⟨rfl, rfl, rfl, by decide +kernel, rfl, by decide +kernel, by decide +kernel⟩
abbrev s__law_values : Stmt := top 34
theorem sc__law_values : FnScope ["_law_pot_here", "_law_deeds", "_law_found", "_law_add", "_law_low", "_law_high", "_law_end"] ["_law_pot_here", "_law_deeds"] (defScope s__law_values) := ⟨rfl, rfl, rfl, by decide +kernel, rfl, by decide +kernel, by decide +kernel⟩
abbrev s__law_one_by_one : Stmt := top 35
theorem sc__law_one_by_one : FnScope ["_law_deeds", "_law_value", "_law_deed_here"] ["_law_deeds", "_law_value"] (defScope s__law_one_by_one) := ⟨rfl, rfl, rfl, by decide +kernel, rfl, by decide +kernel, by decide +kernel⟩
abbrev s__law_makes : Stmt := top 36
theorem sc__law_makes : FnScope ["_law_pot_here", "_law_told", "_law_deeds", "_law_value"] ["_law_pot_here", "_law_told", "_law_deeds"] (defScope s__law_makes) := ⟨rfl, rfl, rfl, by decide +kernel, rfl, by decide +kernel, by decide +kernel⟩
abbrev s__law_right : Stmt := top 37
theorem sc__law_right : FnScope ["_law_pot_here", "_law_board_here", "_law_asks_here", "_law_kept", "_law_together", "_law_ahead", "_law_made", "_law_due", "_law_hand", "_law_box", "_law_deed_here", "_law_ask", "_law_k", "_law_value"] ["_law_pot_here"] (defScope s__law_right) := ⟨rfl, rfl, rfl, by decide +kernel, rfl, by decide +kernel, by decide +kernel⟩
abbrev s_law : Stmt := top 38
theorem sc_law : FnScope ["_law_script", "_law_k"] ["_law_script"] (defScope s_law) := ⟨rfl, rfl, rfl, by decide +kernel, rfl, by decide +kernel, by decide +kernel⟩
structure Bl (K : PySem.W.Frag) (mg : Str → Option Value) : Prop where
  all_ : mg "all" = none
  bool_ : mg "bool" = none
  enumerate_ : mg "enumerate" = none
  int_ : mg "int" = none
  isinstance_ : mg "isinstance" = none
  len_ : mg "len" = none
  list_ : mg "list" = none
  max_ : mg "max" = none
  min_ : mg "min" = none
  range_ : mg "range" = none
  repr_ : mg "repr" = none
  tuple_ : mg "tuple" = none
  LOOK_ : ∃ a, mg "LOOK" = some (.ref a) ∧ KTup K a [.int 0, .non, .non]
  MOST_BOXES_ : ∃ t, mg "MOST_BOXES" = some (.int 16 t)
  HANDS_ : ∃ t, mg "HANDS" = some (.int 16 t)

end Toy
/-! ### enumerate of a tuple -/
namespace PySem
open Sem (wp)
open AutoSeq1 (wpAny_loadPart')
theorem meets_enumerate_newTu (l : Addr) (items : Array Value) (n : Nat) (dct : Option Addr) (sl : Array (Option Value)) :
    Meets (Builtin.«enumerate.__new__» ⟨[.type "enumerate", .ref l], []⟩) (fun _ R s => s.heap.get? l = some { cls := .type "tuple", dict := dct, data := .seq items n, slots := sl } ∧
      R (.ok (.ret (.ref (s.heap.push { cls := .type "tuple_iterator", data := .fields #[.ref l, .int 0 0] }).objs.size)))
        { s with heap := (s.heap.push { cls := .type "tuple_iterator", data := .fields #[.ref l, .int 0 0] }).push { cls := .type "enumerate", data := .fields #[.none, .bool false, .ref s.heap.objs.size, rawInt 0, .none, .none] } }) :=
  .of_wp fun prog w A R s h => by
    obtain ⟨hp, g, d, tk, os⟩ := s; obtain ⟨hl, h⟩ := h
    have hsub := sub_enumerate
    have hL : Heap.IsTuple (Shared.heap ⟨hp, g, d, tk, os⟩) l items := ⟨_, hl, rfl, n, rfl⟩
    wp_walk using wpAny_loadPart' hl
    refine wpAny_stack_any fun st => wpAny_pure ?_
    split
    · rename_i c _ _ _ _ _
      cases (c == Value.type "enumerate")
      · wp_walk using wpAny_loadPart' hl, wpAny_pyIter_tuple hL
        exact ⟨_, rfl, h⟩
      · wp_walk using wpAny_loadPart' hl, wpAny_pyIter_tuple hL
        exact ⟨_, rfl, h⟩
    · wp_walk using wpAny_loadPart' hl, wpAny_pyIter_tuple hL
      exact ⟨_, rfl, h⟩
theorem call_enumerate_tup {prog : Program} {w : World} {A : Around} {E : Value → Shared → Prop} {s : Shared} {l : Addr} {items : Array Value} {Q : Value → Shared → Prop} (hL : s.heap.IsTuple l items)
    (h : ∀ h', IsEnum h' (s.heap.objs.size + 1) s.heap.objs.size 0 .none → h'.IsTupleIter s.heap.objs.size l 0 → h'.objs.size = s.heap.objs.size + 2 →
      (∀ b o, s.heap.get? b = some o → h'.get? b = some o) → Q (.ref (s.heap.objs.size + 1)) { s with heap := h' }) :
    wpAny (model prog w) A (call (.type "enumerate") [.ref l]) Q E s := by
  obtain ⟨⟨c, dct, dt, sl⟩, hl, hc, n, hd⟩ := hL
  replace hc : c = .type "tuple" := hc
  replace hd : dt = .seq items n := hd
  subst hc hd
  refine callType_new F.called_enumerate (by decide) (F.typeCall_enumerate_1 _) (F.newCall_enumerate_1 _) (fun obj => F.args_object_init_2 obj _) F.entry_enumerate_new
    (meets_enumerate_newTu l items n dct sl) ⟨hl, ?_⟩
  have hz : (s.heap.push { cls := .type "tuple_iterator", data := .fields #[.ref l, .int 0 0] }).objs.size = s.heap.objs.size + 1 := Heap.size_push ..
  show _ ∧ _
  rw [hz]
  have he : IsEnum ((s.heap.push { cls := .type "tuple_iterator", data := .fields #[.ref l, .int 0 0] }).push
      { cls := .type "enumerate", data := .fields #[.none, .bool false, .ref s.heap.objs.size, rawInt 0, .none, .none] }) (s.heap.objs.size + 1) s.heap.objs.size 0 .none := by
    have := Heap.get?_push_size (s.heap.push { cls := .type "tuple_iterator", data := .fields #[.ref l, .int 0 0] })
      (o := { cls := .type "enumerate", data := .fields #[.none, .bool false, .ref s.heap.objs.size, rawInt 0, .none, .none] }) rfl
    rw [hz] at this; exact this
  refine ⟨⟨_, he, rfl⟩, h _ he ⟨_, Heap.get?_push_of_some _ (Heap.get?_push_size _ rfl), rfl, rfl⟩ (by rw [Heap.size_push, hz]) fun b o x => Heap.get?_push_of_some _ (Heap.get?_push_of_some _ x)⟩
end PySem
namespace Toy
open PySem PySem.Spec PyProof.Rows L2
theorem tup_is {h : Heap} {a : Addr} {its : Array Value} (p : IsTup h a its) : h.IsTuple a its := p
/-- the tuple at a as it stands at each turn, each item in a new pair -/
def IteT (K : PySem.W.Frag) (a : Addr) : It :=
  ⟨fun i H => ∃ (xs : List V) (x : V), SqT K H a xs ∧ xs[i]? = some x, fun i H v H' => ∃ T x, v = .ref T ∧ H T = none ∧ H' = upd H T (.tup [.int (i : Nat), x]) ∧ ∀ xs, SqT K H a xs → xs[i]? = some x, fun i H => ∃ xs : List V, SqT K H a xs ∧ xs.length = i⟩
theorem turn_enumTu {P : Program} {w : World} {K : PySem.W.Frag} {elts : List Expr} {kk : Nat} {tpos : Pos} (a e it : Addr) (hai : a ≠ it) :
    Turn P w K (.Tuple elts kk tpos) (IteT K a) [e, it] e (fun i h => (∃ old, IsEnum h e it ((i : Nat) : Int) old) ∧ h.IsTupleIter it a i ∧ e ≠ it ∧ e ≠ a) where
  mem := by simp
  obj := fun i h st b hb => by
    obtain ⟨⟨old, he⟩, ⟨o, ho, hc, hd⟩, _⟩ := st
    have e' : b = e ∨ b = it := by simpa using hb
    rcases e' with z | z
    · rw [z]; exact ⟨_, he, fun v q => nomatch q⟩
    · rw [z]; exact ⟨o, ho, fun v q => by rw [hd] at q; cases q⟩
  keep := fun i h h' st k => let ⟨⟨old, he⟩, hi, hne⟩ := st; ⟨⟨old, k e (by simp) _ he⟩, hi.at fun o q => k it (by simp) o q, hne⟩
  item := by
    intro X hP hw hK hc i pins s σ H E I hf st hg
    subst hP hw hK
    obtain ⟨⟨old, he⟩, hit, hne, hea⟩ := st
    obtain ⟨xs, x, hq, hx⟩ := hg
    obtain ⟨its, rv, p, hz⟩ := I.tuple hq
    obtain ⟨u, hu, ru⟩ := rv.get hx
    have hel : e < s.heap.objs.size := Heap.lt_size he
    have hil : it < s.heap.objs.size := by obtain ⟨_, q, _⟩ := hit; exact Heap.lt_size q
    refine wpAny_pyNext_enum_itemD (Draws.tuple (show X.A.in1.handled = none from I.ok.hd hc) it a hai its.toArray) he ⟨hit, tup_is p⟩ (by have h1 := rv.length; have h2 := (List.getElem?_eq_some_iff.mp hx).1; rw [List.size_toArray]; omega) hne (by simp [hne, hea]) fun x' h' tk hP ho hst' hT hsz hk => ?_
    obtain ⟨hit', ht'⟩ := hst'
    have ex : x' = u := by
      have h1 : its[i]? = some x' := by simpa using hP
      rw [hu] at h1
      exact (Option.some.inj h1).symm
    subst ex
    refine ⟨_, rfl, wpAny_letOwnedTupleGo_enum (s := { s with heap := h', toks := tk + 1 }) ho fun h'' he' sb => ?_⟩
    have hT2 : h''.get? s.heap.objs.size = some { cls := .type "tuple", data := .seq #[.int i tk, x'] } := (sb.2 _ (Nat.ne_of_gt hel)).trans hT
    have new : ObjOk X.prog X.w (upd H s.heap.objs.size (.tup [.int (i : Nat), x])) h'' s.heap.objs.size (.tup [.int (i : Nat), x]) :=
      ⟨by show 2 ≤ sizeLine; decide, [.int i tk, x'], .cons ⟨_, rfl⟩ (.cons ru .nil), ⟨_, hT2, rfl, _, rfl⟩⟩
    have I1 : Inv X pins σ (upd H s.heap.objs.size (.tup [.int (i : Nat), x])) { s with heap := h'', toks := tk + 1 } :=
      I.turnedNew (ch := [e, it]) (fun b ob hb q => (sb.2 b (fun z => hb (by simp [z]))).trans (hk b ob (fun z => hb (by simp [z])) (fun z => hb (by simp [z])) q)) hf (Nat.le_refl _) new
    refine ⟨.ref s.heap.objs.size, _, I1, rfl, ⟨_, x, rfl, I.hok.fresh (Nat.le_refl _), rfl, fun ys hy => by rw [I.tuple_inj hy hq]; exact hx⟩, ⟨⟨x', ?_⟩, hit'.at fun o q => (sb.2 it (Ne.symm hne)).trans q, hne, hea⟩, fun b hb => ?_⟩
    · have e1 : ((i + 1 : Nat) : Int) = (i : Int) + 1 := by omega
      rw [e1]; exact he'
    · have hb' : b < s.heap.objs.size := by
        have e' : b = e ∨ b = it := by simpa using hb
        rcases e' with z | z
        · rw [z]; exact hel
        · rw [z]; exact hil
      rw [upd_ne (Nat.ne_of_lt hb')]
      exact (hf b hb).1
  done := by
    intro X hP hw hK hc i pins s σ H E I hf st hg
    subst hP hw hK
    obtain ⟨⟨old, he⟩, hit, hne, hea⟩ := st
    obtain ⟨xs, hq, hx⟩ := hg
    obtain ⟨its, rv, p, hz⟩ := I.tuple hq
    obtain ⟨f0, f1, f2, f3, f4, f5⟩ := hf it (by simp)
    have hl := rv.length
    have e2 : i = its.toArray.size := by rw [List.size_toArray]; omega
    rw [e2] at hit he
    exact wpAny_pyNext_enum_endD (Draws.tuple (show X.A.in1.handled = none from I.ok.hd hc) it a hai its.toArray) he ⟨hit, tup_is p⟩ fun h' eb => ⟨rfl, I.turned (t' := s.toks) (fun b o hb q => eb b o hb q) f0 f1 f3 f4 f5⟩
  self := fun A i s Q E st h => let ⟨⟨_, he⟩, _⟩ := st; wpAny_pyIter_enum he h
def iEnumT (K : PySem.W.Frag) (ta : TA) : TI := fun σ H R => ta σ H fun vs H1 => ∃ a xs, vs = [.ref a] ∧ SqT K H1 a xs ∧ R (IteT K a) H1
theorem pi_enumT {X : Cx} {e : Expr} {ta : TA} {p pos tpos : Pos} {elts : List Expr} {kk : Nat} (hg : Gl X "enumerate") (hm : X.mg "enumerate" = none) (ha : PA X [e] ta) (hs : starEach [e] X.env = [(false, eval e X.env)] := by rfl) :
    PI X (.Tuple elts kk tpos) (.Call (.Name "enumerate" p) [e] [] pos) (iEnumT X.K ta) := by
  refine ⟨fun pins s σ H R I h => ?_⟩
  refine Call_ (ld_blt I hg hm boot_enumerate (PyProof.Rows.callWith_type1 (thn (ha.run pos pins s σ H _ I h) fun us s1 ⟨vs, H1, I1, r1, q1⟩ => ?_) hs rfl))
  obtain ⟨a, xs, ex, hq, q⟩ := q1
  subst ex
  cases r1 with
  | cons r rr =>
    cases rr
    cases r
    obtain ⟨its, rv, p', hz⟩ := I1.tuple hq
    have hal : a < s1.heap.objs.size := by obtain ⟨o, ho, _⟩ := p'; exact Heap.lt_size ho
    refine call_enumerate_tup (tup_is p') fun h' he hit hsz hk => wpAny_pyIter_enum he ?_
    have I2 : Inv X pins σ H1 { s1 with heap := h' } := I1.kept (t' := s1.toks) hk
    refine ⟨s1.heap.objs.size + 1, [s1.heap.objs.size + 1, s1.heap.objs.size], _, _, H1, rfl, I2, turn_enumTu a (s1.heap.objs.size + 1) s1.heap.objs.size (Nat.ne_of_lt hal), ⟨⟨.none, he⟩, hit, Nat.succ_ne_self _, Nat.ne_of_gt (Nat.lt_succ_of_lt hal)⟩, fun b hb => ?_, q⟩
    have e' : b = s1.heap.objs.size + 1 ∨ b = s1.heap.objs.size := by simpa using hb
    have hle : s1.heap.objs.size ≤ b := by
      rcases e' with z | z
      · rw [z]; exact Nat.le_add_right _ _
      · rw [z]; exact Nat.le_refl _
    exact I1.fpOk hle (I1.hok.fresh hle)
theorem for_enumT {K : PySem.W.Frag} {a : Addr} {xs : List V} {g : TG} {tb : TS} {D : Ends} {σ : L2.St} {H : Hp} (Pv : Nat → L2.St → Hp → Prop) (h0 : Pv 0 σ H) (hl : ∀ i σ H, i ≤ xs.length → Pv i σ H → SqT K H a xs)
    (hs : ∀ (i : Nat) x (T : Addr) σ H, xs[i]? = some x → Pv i σ H → H T = none → g (.ref T) σ (upd H T (.tup [.int i, x])) fun σ2 H2 => tb { D with nx := Pv (i + 1), ct := Pv (i + 1), bk := D.nx } σ2 H2) (hd : ∀ σ H, Pv xs.length σ H → D.nx σ H) :
    ∃ W : Nat → Nat → L2.St → Hp → Prop, (∃ m, W 0 m σ H) ∧ ∀ i m σ H, W i m σ H →
      ((IteT K a).stop i H ∧ D.nx σ H) ∨ ((IteT K a).go i H ∧ ∃ N : L2.St → Hp → Prop, (∀ σ' H', N σ' H' → ∃ m', m' < m ∧ W (i + 1) m' σ' H') ∧ ∀ x H', (IteT K a).yld i H x H' → g x σ H' fun σ2 H2 => tb { D with nx := N, ct := N, bk := D.nx } σ2 H2) := by
  refine ⟨fun i m σ H => m = xs.length - i ∧ i ≤ xs.length ∧ Pv i σ H, ⟨xs.length, by simp, Nat.zero_le _, h0⟩, ?_⟩
  rintro i m σ H ⟨rfl, hi, p⟩
  have q := hl i σ H hi p
  by_cases hlt : i < xs.length
  · refine .inr ⟨⟨xs, xs[i], q, List.getElem?_eq_getElem hlt⟩, Pv (i + 1), fun σ' H' p' => ⟨xs.length - (i + 1), by omega, rfl, hlt, p'⟩, fun x H' y => ?_⟩
    obtain ⟨T, z, rfl, hT, rfl, hz⟩ := y
    exact hs i z T σ H (hz xs q) p hT
  · have e : i = xs.length := by omega
    subst e
    exact .inl ⟨⟨xs, q, rfl⟩, hd σ H p⟩
/-! ### data: a deed -/
structure Dd where
  add : Int
  low : Option Int
  high : Option Int
def oV : Option Int → V
  | none => .non
  | some i => .int i
def Dd.vs (d : Dd) : List V := [.int d.add, oV d.low, oV d.high]
def Dd.at_ (K : PySem.W.Frag) (H : Hp) (a : Addr) (d : Dd) : Prop := SqT K H a d.vs
/-- the ends stand right -/
def Dd.Ok (d : Dd) : Prop := ∀ l h, d.low = some l → d.high = some h → l < h ∨ (l = h ∧ d.add = 0)
def up (o : Option Int) (f : Int) : Int := match o with | none => f | some l => if f > l then f else l
def dn (o : Option Int) (f : Int) : Int := match o with | none => f | some h => if f < h then f else h
def Dd.ap (d : Dd) (v : Int) : Int := dn d.high (up d.low (v + d.add))
def hi (o : Option Int) (f : Int) : Int := match o with | none => f | some h => if f > h then h else f
def mk (d : Dd) (v : Int) : Int := match d.low with | none => hi d.high (v + d.add) | some l => if v + d.add < l then l else hi d.high (v + d.add)
theorem mk_eq {d : Dd} (ok : d.Ok) (v : Int) : mk d v = d.ap v := by
  obtain ⟨add, low, high⟩ := d
  have ok' := ok
  unfold Dd.Ok at ok'
  cases low with
  | none =>
    cases high with
    | none => rfl
    | some h =>
      show (if v + add > h then h else v + add) = if v + add < h then v + add else h
      by_cases c : v + add > h
      · rw [if_pos c, if_neg (by omega)]
      · rw [if_neg c]
        by_cases c2 : v + add < h
        · rw [if_pos c2]
        · rw [if_neg c2]; omega
  | some l =>
    cases high with
    | none =>
      show (if v + add < l then l else v + add) = if v + add > l then v + add else l
      by_cases c : v + add < l
      · rw [if_pos c, if_neg (by omega)]
      · rw [if_neg c]
        by_cases c2 : v + add > l
        · rw [if_pos c2]
        · rw [if_neg c2]; omega
    | some h =>
      have := ok' l h rfl rfl
      show (if v + add < l then l else if v + add > h then h else v + add) = if (if v + add > l then v + add else l) < h then (if v + add > l then v + add else l) else h
      by_cases c : v + add < l
      · rw [if_pos c, if_neg (show ¬ v + add > l by omega)]
        by_cases c2 : l < h
        · rw [if_pos c2]
        · rw [if_neg c2]; omega
      · rw [if_neg c]
        have e : (if v + add > l then v + add else l) = v + add := by
          by_cases c2 : v + add > l
          · rw [if_pos c2]
          · rw [if_neg c2]; omega
        rw [e]
        by_cases c2 : v + add > h
        · rw [if_pos c2, if_neg (by omega)]
        · rw [if_neg c2]
          by_cases c3 : v + add < h
          · rw [if_pos c3]
          · rw [if_neg c3]; omega
/-- all numbers of a deed are within b -/
def Dd.In (b : Int) (d : Dd) : Prop := -b ≤ d.add ∧ d.add ≤ b ∧ (∀ l, d.low = some l → -b ≤ l ∧ l ≤ b) ∧ ∀ l, d.high = some l → -b ≤ l ∧ l ≤ b
theorem in_mk {b add : Int} {low high : Option Int} (h1 : -b ≤ add) (h2 : add ≤ b) (hl : ∀ l, low = some l → -b ≤ l ∧ l ≤ b) (hh : ∀ l, high = some l → -b ≤ l ∧ l ≤ b) : Dd.In b ⟨add, low, high⟩ := ⟨h1, h2, hl, hh⟩
theorem in_none {b : Int} : ∀ l, (none : Option Int) = some l → -b ≤ l ∧ l ≤ b := fun _ h => nomatch h
theorem in_some {b x : Int} (h1 : -b ≤ x) (h2 : x ≤ b) : ∀ l, some x = some l → -b ≤ l ∧ l ≤ b := fun l h => by cases h; exact ⟨h1, h2⟩
theorem ap_in {b c : Int} {d : Dd} {v : Int} (h : d.In b) (h1 : -c ≤ v) (h2 : v ≤ c) (h0 : 0 ≤ c) : -(b + c) ≤ d.ap v ∧ d.ap v ≤ b + c := by
  obtain ⟨a1, a2, hl, hh⟩ := h
  unfold Dd.ap dn up
  cases el : d.low with
  | none =>
    cases eh : d.high with
    | none => dsimp only; omega
    | some k => have := hh k eh; dsimp only; split <;> omega
  | some l =>
    have := hl l el
    cases eh : d.high with
    | none => dsimp only; split <;> omega
    | some k => have := hh k eh; dsimp only; split <;> split <;> omega
theorem fits {i : Int} (h1 : -(10 ^ 40) ≤ i) (h2 : i ≤ 10 ^ 40) : i.natAbs.log2 < 1920 := by
  refine log_lt (by decide) (Nat.lt_of_le_of_lt (m := 10 ^ 40) (by omega) (by decide))
theorem menu7 : ∀ j : Nat, j < 7 → ∃ z : Int, ([.int 3, .int 5, .int 11, .int 17, .int 29, .int 37, .int 41] : List V)[j]? = some (.int z) ∧ 0 < z ∧ z ≤ 41
  | 0, _ => ⟨_, rfl, by decide, by decide⟩
  | 1, _ => ⟨_, rfl, by decide, by decide⟩
  | 2, _ => ⟨_, rfl, by decide, by decide⟩
  | 3, _ => ⟨_, rfl, by decide, by decide⟩
  | 4, _ => ⟨_, rfl, by decide, by decide⟩
  | 5, _ => ⟨_, rfl, by decide, by decide⟩
  | 6, _ => ⟨_, rfl, by decide, by decide⟩
  | n + 7, h => absurd h (by omega)
theorem menu6 : ∀ j : Nat, j < 6 → ∃ z : Int, ([.int 4, .int 12, .int 1000, .int (10 ^ Int.toNat 9), .int (10 ^ Int.toNat 29), .int (10 ^ Int.toNat 29)] : List V)[j]? = some (.int z) ∧ 1 ≤ z ∧ z ≤ 10 ^ 29
  | 0, _ => ⟨_, rfl, by decide, by decide⟩
  | 1, _ => ⟨_, rfl, by decide, by decide⟩
  | 2, _ => ⟨_, rfl, by decide, by decide⟩
  | 3, _ => ⟨_, rfl, by decide, by decide⟩
  | 4, _ => ⟨_, rfl, by decide, by decide⟩
  | 5, _ => ⟨_, rfl, by decide, by decide⟩
  | n + 6, h => absurd h (by omega)
def PotAt (H : Hp) (p : Addr) : Prop := ∃ a b : Int, H p = some (.lst [.int a, .int b]) ∧ 0 ≤ a ∧ 0 ≤ b ∧ b < 2 ^ 40
theorem PotAt.same {H H' : Hp} {p : Addr} (e : Same H H') (h : PotAt H p) : PotAt H' p := by
  obtain ⟨a, b, h1, h2⟩ := h
  exact ⟨a, b, e _ _ h1, h2⟩
def DeedArg (K : PySem.W.Frag) (H : Hp) (a : Addr) (d : Dd) : Prop := TyX K H (.ref a) (.type "tuple") ∧ SqT K H a d.vs ∧ d.Ok
def Dz (H : Hp) (a : Addr) (d : Dd) : Prop := H a = some (.tup d.vs) ∧ d.In (10 ^ 29 + 3) ∧ d.Ok
theorem Dz.arg {K : PySem.W.Frag} {H : Hp} {a : Addr} {d : Dd} (h : Dz H a d) : DeedArg K H a d := ⟨.base (.tup h.1), SqT.of h.1, h.2.2⟩
theorem Dz.same {H H' : Hp} {a : Addr} {d : Dd} (e : Same H H') (h : Dz H a d) : Dz H' a d := ⟨e _ _ h.1, h.2⟩
def look : Dd := ⟨0, none, none⟩
theorem look_ok : look.Ok := fun _ _ h => nomatch h
theorem look_in {b : Int} (h : 0 ≤ b) : look.In b := in_mk (by omega) (by omega) in_none in_none
theorem pot_ne {H : Hp} {p a : Addr} (h : PotAt H p) (n : H a = none) : a ≠ p := fun z => by obtain ⟨_, _, h1, _⟩ := h; rw [← z, n] at h1; cases h1
/-! ### two deeds as one -/
def wholeD (add : Int) (low high : Option Int) : Dd := if low ≠ none ∧ low = high then ⟨0, low, high⟩ else ⟨add, low, high⟩
theorem wholeD_low {add : Int} {low high : Option Int} : (wholeD add low high).low = low := by unfold wholeD; split <;> rfl
theorem wholeD_high {add : Int} {low high : Option Int} : (wholeD add low high).high = high := by unfold wholeD; split <;> rfl
theorem wholeD_add {add : Int} {low high : Option Int} : (wholeD add low high).add = if low ≠ none ∧ low = high then 0 else add := by unfold wholeD; split <;> rfl
def endBeh (b : Dd) (o p : Option Int) : Option Int := match o with | none => p | some l => some (b.ap l)
def beh (a b : Dd) : Dd := wholeD (a.add + b.add) (endBeh b a.low b.low) (endBeh b a.high b.high)
theorem up_mono {o : Option Int} {x y : Int} (h : x ≤ y) : up o x ≤ up o y := by
  cases o with
  | none => exact h
  | some l =>
    show (if x > l then x else l) ≤ (if y > l then y else l)
    split <;> split <;> omega
theorem dn_mono {o : Option Int} {x y : Int} (h : x ≤ y) : dn o x ≤ dn o y := by
  cases o with
  | none => exact h
  | some l =>
    show (if x < l then x else l) ≤ (if y < l then y else l)
    split <;> split <;> omega
theorem ap_mono (d : Dd) {x y : Int} (h : x ≤ y) : d.ap x ≤ d.ap y := dn_mono (up_mono (by omega))
/-- what is made, by the four ways -/
theorem ap_nn (d : Dd) (v : Int) (h1 : d.low = none) (h2 : d.high = none) : d.ap v = v + d.add := by unfold Dd.ap; rw [h1, h2] <;> rfl
theorem ap_sn (d : Dd) (v l : Int) (h1 : d.low = some l) (h2 : d.high = none) : d.ap v = if v + d.add > l then v + d.add else l := by unfold Dd.ap; rw [h1, h2] <;> rfl
theorem ap_ns (d : Dd) (v h : Int) (h1 : d.low = none) (h2 : d.high = some h) : d.ap v = if v + d.add < h then v + d.add else h := by unfold Dd.ap; rw [h1, h2] <;> rfl
theorem ap_ss (d : Dd) (v l h : Int) (h1 : d.low = some l) (h2 : d.high = some h) : d.ap v = if (if v + d.add > l then v + d.add else l) < h then (if v + d.add > l then v + d.add else l) else h := by unfold Dd.ap; rw [h1, h2] <;> rfl
/-- facts for omega -/
theorem ap_cases (d : Dd) (ok : d.Ok) (v : Int) :
    (∀ l, d.low = some l → l ≤ d.ap v ∧ (v + d.add ≤ l → d.ap v = l)) ∧ (∀ h, d.high = some h → d.ap v ≤ h ∧ (h ≤ v + d.add → d.ap v = h)) ∧
    ((d.low = none ∨ ∃ l, d.low = some l ∧ l ≤ v + d.add) → (d.high = none ∨ ∃ h, d.high = some h ∧ v + d.add ≤ h) → d.ap v = v + d.add) := by
  cases e1 : d.low with
  | none =>
    cases e2 : d.high with
    | none =>
      rw [ap_nn d v e1 e2]
      exact ⟨fun _ h => (nomatch h), fun _ h => (nomatch h), fun _ _ => rfl⟩
    | some h =>
      rw [ap_ns d v h e1 e2]
      refine ⟨fun _ h => (nomatch h), fun k hk => ?_, fun _ h2 => ?_⟩
      · cases hk; split <;> omega
      · rcases h2 with h2 | ⟨k, hk, h2⟩
        · cases h2
        · cases hk; split <;> omega
  | some l =>
    cases e2 : d.high with
    | none =>
      rw [ap_sn d v l e1 e2]
      refine ⟨fun k hk => ?_, fun _ h => (nomatch h), fun h1 _ => ?_⟩
      · cases hk; split <;> omega
      · rcases h1 with h1 | ⟨k, hk, h1⟩
        · cases h1
        · cases hk; split <;> omega
    | some h =>
      have o := ok l h e1 e2
      rw [ap_ss d v l h e1 e2]
      refine ⟨fun k hk => ?_, fun k hk => ?_, fun h1 h2 => ?_⟩
      · cases hk
        by_cases c : v + d.add > l
        · rw [if_pos c]; split <;> omega
        · rw [if_neg c]; split <;> omega
      · cases hk
        by_cases c : v + d.add > l
        · rw [if_pos c]; split <;> omega
        · rw [if_neg c]; split <;> omega
      · rcases h1 with h1 | ⟨k, hk, h1⟩
        · cases h1
        rcases h2 with h2 | ⟨k', hk', h2⟩
        · cases h2
        cases hk; cases hk'
        by_cases c : v + d.add > l
        · rw [if_pos c]; split <;> omega
        · rw [if_neg c]; split <;> omega
theorem beh_ok {a b : Dd} (ha : a.Ok) (hb : b.Ok) : (beh a b).Ok := by
  intro l h h1 h2
  unfold beh at h1 h2 ⊢
  rw [wholeD_low] at h1
  rw [wholeD_high] at h2
  rw [wholeD_add]
  have key : l ≤ h := by
    unfold endBeh at h1 h2
    cases e1 : a.low with
    | none =>
      rw [e1] at h1
      cases e2 : a.high with
      | none =>
        rw [e2] at h2
        have := hb l h h1 h2
        omega
      | some k =>
        rw [e2] at h2
        cases h2
        exact ((ap_cases b hb k).1 l h1).1
    | some j =>
      rw [e1] at h1
      cases h1
      cases e2 : a.high with
      | none =>
        rw [e2] at h2
        exact ((ap_cases b hb j).2.1 h h2).1
      | some k =>
        rw [e2] at h2
        cases h2
        have := ha j k e1 e2
        exact ap_mono b (by omega)
  by_cases c : l = h
  · right
    refine ⟨c, if_pos ⟨by rw [h1]; exact Option.some_ne_none l, by rw [h1, h2, c]⟩⟩
  · left; omega
/-- the ends of a deed -/
theorem ap_low {d : Dd} (ok : d.Ok) {l v : Int} (h : d.low = some l) (hv : v + d.add ≤ l) : d.ap v = l := ((ap_cases d ok v).1 l h).2 hv
theorem ap_high {d : Dd} (ok : d.Ok) {l v : Int} (h : d.high = some l) (hv : l ≤ v + d.add) : d.ap v = l := ((ap_cases d ok v).2.1 l h).2 hv
theorem whole_ap {add : Int} {low high : Option Int} {v w : Int} (hl : ∀ l, low = some l → l ≤ w) (hh : ∀ h, high = some h → w ≤ h)
    (h1 : (∀ l, low = some l → v + add ≤ l → w = l)) (h2 : (∀ h, high = some h → h ≤ v + add → w = h))
    (h3 : (low = none ∨ ∃ l, low = some l ∧ l ≤ v + add) → (high = none ∨ ∃ h, high = some h ∧ v + add ≤ h) → w = v + add) : (wholeD add low high).ap v = w := by
  cases e1 : low with
  | none =>
    have e3 : wholeD add none high = ⟨add, none, high⟩ := by unfold wholeD; rw [if_neg (fun z => z.1 rfl)]
    rw [e3]
    cases e2 : high with
    | none => rw [ap_nn _ _ rfl rfl]; exact (h3 (.inl e1) (.inl e2)).symm
    | some h =>
      rw [ap_ns _ _ h rfl rfl]
      show (if v + add < h then v + add else h) = w
      have a2 := h2 h e2
      have a3 := h3 (.inl e1)
      split
      · exact (a3 (.inr ⟨h, e2, by omega⟩)).symm
      · exact (a2 (by omega)).symm
  | some l =>
    have b1 := hl l e1
    cases e2 : high with
    | none =>
      have e3 : wholeD add (some l) none = ⟨add, some l, none⟩ := by unfold wholeD; rw [if_neg (fun z => nomatch z.2)]
      rw [e3, ap_sn _ _ l rfl rfl]
      show (if v + add > l then v + add else l) = w
      have a1 := h1 l e1
      split
      · exact (h3 (.inr ⟨l, e1, by omega⟩) (.inl e2)).symm
      · exact (a1 (by omega)).symm
    | some h =>
      have b2 := hh h e2
      by_cases c : l = h
      · subst c
        have e3 : wholeD add (some l) (some l) = ⟨0, some l, some l⟩ := by unfold wholeD; rw [if_pos ⟨Option.some_ne_none l, rfl⟩]
        rw [e3, ap_ss _ _ l l rfl rfl]
        split <;> omega
      · have e3 : wholeD add (some l) (some h) = ⟨add, some l, some h⟩ := by unfold wholeD; rw [if_neg (fun z => c (Option.some.inj z.2))]
        rw [e3, ap_ss _ _ l h rfl rfl]
        show (if (if v + add > l then v + add else l) < h then (if v + add > l then v + add else l) else h) = w
        have a1 := h1 l e1
        have a2 := h2 h e2
        by_cases c1 : v + add > l
        · rw [if_pos c1]
          split
          · exact (h3 (.inr ⟨l, e1, by omega⟩) (.inr ⟨h, e2, by omega⟩)).symm
          · exact (a2 (by omega)).symm
        · rw [if_neg c1]
          have := a1 (by omega)
          split <;> omega
theorem beh_ap {a b : Dd} (ha : a.Ok) (hb : b.Ok) (v : Int) : (beh a b).ap v = b.ap (a.ap v) := by
  obtain ⟨A1, A2, A3⟩ := ap_cases a ha v
  obtain ⟨B1, B2, B3⟩ := ap_cases b hb (a.ap v)
  have P3 : ∀ l, endBeh b a.low b.low = some l → v + (a.add + b.add) ≤ l → b.ap (a.ap v) = l := by
    intro l hl hv
    unfold endBeh at hl
    cases e : a.low with
    | none =>
      rw [e] at hl
      refine (B1 l hl).2 ?_
      cases e2 : a.high with
      | none => rw [A3 (.inl e) (.inl e2)]; omega
      | some k =>
        by_cases c : v + a.add ≤ k
        · rw [A3 (.inl e) (.inr ⟨k, e2, c⟩)]; omega
        · rw [(A2 k e2).2 (by omega)]; omega
    | some j =>
      rw [e] at hl
      cases hl
      -- v + a.add + b.add ≤ b.ap j
      by_cases c : v + a.add ≤ j
      · rw [(A1 j e).2 c]
      · have m : b.ap j ≤ b.ap (a.ap v) := ap_mono b (A1 j e).1
        have n : b.ap (a.ap v) ≤ b.ap (v + a.add) := by
          refine ap_mono b ?_
          cases e2 : a.high with
          | none => rw [A3 (.inr ⟨j, e, by omega⟩) (.inl e2)]; omega
          | some k =>
            by_cases c : v + a.add ≤ k
            · rw [A3 (.inr ⟨j, e, by omega⟩) (.inr ⟨k, e2, c⟩)]; omega
            · rw [(A2 k e2).2 (by omega)]; omega
        -- b at v + a.add is at most max of its sum and its low end
        obtain ⟨C1, C2, C3⟩ := ap_cases b hb (v + a.add)
        obtain ⟨D1, D2, D3⟩ := ap_cases b hb j
        cases f1 : b.low with
        | none =>
          cases f2 : b.high with
          | none => have := C3 (.inl f1) (.inl f2); have := D3 (.inl f1) (.inl f2); omega
          | some k =>
            have := C2 k f2; have := D2 k f2
            by_cases c3 : v + a.add + b.add ≤ k
            · have := C3 (.inl f1) (.inr ⟨k, f2, c3⟩); have := D3 (.inl f1) (.inr ⟨k, f2, by omega⟩); omega
            · omega
        | some i =>
          have := C1 i f1; have := D1 i f1
          cases f2 : b.high with
          | none =>
            by_cases c3 : i ≤ v + a.add + b.add
            · have := C3 (.inr ⟨i, f1, c3⟩) (.inl f2)
              by_cases c4 : i ≤ j + b.add
              · have := D3 (.inr ⟨i, f1, c4⟩) (.inl f2); omega
              · omega
            · omega
          | some k =>
            have := C2 k f2; have := D2 k f2
            by_cases c3 : i ≤ v + a.add + b.add
            · by_cases c5 : v + a.add + b.add ≤ k
              · have := C3 (.inr ⟨i, f1, c3⟩) (.inr ⟨k, f2, c5⟩)
                by_cases c4 : i ≤ j + b.add
                · have := D3 (.inr ⟨i, f1, c4⟩) (.inr ⟨k, f2, by omega⟩); omega
                · omega
              · omega
            · omega
  have P4 : ∀ h, endBeh b a.high b.high = some h → h ≤ v + (a.add + b.add) → b.ap (a.ap v) = h := by
    intro h hh hv
    unfold endBeh at hh
    cases e : a.high with
    | none =>
      rw [e] at hh
      refine (B2 h hh).2 ?_
      cases e2 : a.low with
      | none => rw [A3 (.inl e2) (.inl e)]; omega
      | some k =>
        by_cases c : k ≤ v + a.add
        · rw [A3 (.inr ⟨k, e2, c⟩) (.inl e)]; omega
        · rw [(A1 k e2).2 (by omega)]; omega
    | some j =>
      rw [e] at hh
      cases hh
      by_cases c : j ≤ v + a.add
      · rw [(A2 j e).2 c]
      · have m : b.ap (a.ap v) ≤ b.ap j := ap_mono b (A2 j e).1
        have n : b.ap (v + a.add) ≤ b.ap (a.ap v) := by
          refine ap_mono b ?_
          cases e2 : a.low with
          | none => rw [A3 (.inl e2) (.inr ⟨j, e, by omega⟩)]; omega
          | some k =>
            by_cases c : k ≤ v + a.add
            · rw [A3 (.inr ⟨k, e2, c⟩) (.inr ⟨j, e, by omega⟩)]; omega
            · rw [(A1 k e2).2 (by omega)]; omega
        obtain ⟨C1, C2, C3⟩ := ap_cases b hb (v + a.add)
        obtain ⟨D1, D2, D3⟩ := ap_cases b hb j
        cases f1 : b.high with
        | none =>
          cases f2 : b.low with
          | none => have := C3 (.inl f2) (.inl f1); have := D3 (.inl f2) (.inl f1); omega
          | some k =>
            have := C1 k f2; have := D1 k f2
            by_cases c3 : k ≤ v + a.add + b.add
            · have := C3 (.inr ⟨k, f2, c3⟩) (.inl f1); have := D3 (.inr ⟨k, f2, by omega⟩) (.inl f1); omega
            · omega
        | some i =>
          have := C2 i f1; have := D2 i f1
          cases f2 : b.low with
          | none =>
            by_cases c3 : v + a.add + b.add ≤ i
            · have := C3 (.inl f2) (.inr ⟨i, f1, c3⟩)
              by_cases c4 : j + b.add ≤ i
              · have := D3 (.inl f2) (.inr ⟨i, f1, c4⟩); omega
              · omega
            · omega
          | some k =>
            have := C1 k f2; have := D1 k f2
            by_cases c3 : v + a.add + b.add ≤ i
            · by_cases c5 : k ≤ v + a.add + b.add
              · have := C3 (.inr ⟨k, f2, c5⟩) (.inr ⟨i, f1, c3⟩)
                by_cases c4 : j + b.add ≤ i
                · have := D3 (.inr ⟨k, f2, by omega⟩) (.inr ⟨i, f1, c4⟩); omega
                · omega
              · omega
            · omega
  unfold beh
  refine whole_ap (fun l hl => ?_) (fun h hh => ?_) P3 P4 (fun h1 h2 => ?_)
  · unfold endBeh at hl
    cases e : a.low with
    | none => rw [e] at hl; exact (B1 l hl).1
    | some j => rw [e] at hl; cases hl; exact ap_mono b (A1 j e).1
  · unfold endBeh at hh
    cases e : a.high with
    | none => rw [e] at hh; exact (B2 h hh).1
    | some j => rw [e] at hh; cases hh; exact ap_mono b (A2 j e).1
  · -- between the ends both add
    by_cases s1 : ∃ l, endBeh b a.low b.low = some l ∧ v + (a.add + b.add) ≤ l
    · obtain ⟨l, s1, s2⟩ := s1
      rw [P3 l s1 s2]
      rcases h1 with h1 | ⟨l', h1, h4⟩
      · rw [s1] at h1; cases h1
      · rw [s1] at h1; cases h1; omega
    by_cases s2 : ∃ l, endBeh b a.high b.high = some l ∧ l ≤ v + (a.add + b.add)
    · obtain ⟨l, s2, s3⟩ := s2
      rw [P4 l s2 s3]
      rcases h2 with h2 | ⟨l', h2, h4⟩
      · rw [s2] at h2; cases h2
      · rw [s2] at h2; cases h2; omega
    have h1s : ∀ l, endBeh b a.low b.low = some l → l < v + (a.add + b.add) := fun l hl => Int.not_le.mp fun z => s1 ⟨l, hl, z⟩
    have h2s : ∀ l, endBeh b a.high b.high = some l → v + (a.add + b.add) < l := fun l hl => Int.not_le.mp fun z => s2 ⟨l, hl, z⟩
    have a1 : a.low = none ∨ ∃ l, a.low = some l ∧ l ≤ v + a.add := by
      cases e : a.low with
      | none => exact .inl rfl
      | some j =>
        right
        refine ⟨j, rfl, ?_⟩
        rcases h1 with h1 | ⟨l, h1, h4⟩
        · unfold endBeh at h1; rw [e] at h1; cases h1
        have st := h1s l h1
        unfold endBeh at h1; rw [e] at h1; cases h1
        by_cases c : j ≤ v + a.add
        · exact c
        obtain ⟨D1, D2, D3⟩ := ap_cases b hb j
        exfalso
        cases f2 : b.high with
        | none =>
          cases f1 : b.low with
          | none => have := D3 (.inl f1) (.inl f2); omega
          | some i => have := D1 i f1; by_cases c4 : i ≤ j + b.add; (have := D3 (.inr ⟨i, f1, c4⟩) (.inl f2); omega); omega
        | some k =>
          have := D2 k f2
          by_cases c5 : j + b.add ≤ k
          · cases f1 : b.low with
            | none => have := D3 (.inl f1) (.inr ⟨k, f2, c5⟩); omega
            | some i => have := D1 i f1; by_cases c4 : i ≤ j + b.add; (have := D3 (.inr ⟨i, f1, c4⟩) (.inr ⟨k, f2, c5⟩); omega); omega
          · have e5 : b.ap j = k := this.2 (by omega)
            -- the upper end is met: then high of both is k
            rcases h2 with h2 | ⟨h, h2, h6⟩
            · unfold endBeh at h2; cases e7 : a.high with
              | none => rw [e7] at h2; rw [f2] at h2; cases h2
              | some m => rw [e7] at h2; cases h2
            · unfold endBeh at h2; cases e7 : a.high with
              | none => rw [e7] at h2; rw [f2] at h2; cases h2; omega
              | some m =>
                rw [e7] at h2; cases h2
                have o := ha j m e e7
                have q1 := ap_mono b (show j ≤ m by omega)
                have q2 := ((ap_cases b hb m).2.1 k f2).1
                omega
    have a2 : a.high = none ∨ ∃ l, a.high = some l ∧ v + a.add ≤ l := by
      cases e : a.high with
      | none => exact .inl rfl
      | some j =>
        right
        refine ⟨j, rfl, ?_⟩
        rcases h2 with h2 | ⟨l, h2, h4⟩
        · unfold endBeh at h2; rw [e] at h2; cases h2
        have st := h2s l h2
        unfold endBeh at h2; rw [e] at h2; cases h2
        by_cases c : v + a.add ≤ j
        · exact c
        obtain ⟨D1, D2, D3⟩ := ap_cases b hb j
        exfalso
        cases f2 : b.low with
        | none =>
          cases f1 : b.high with
          | none => have := D3 (.inl f2) (.inl f1); omega
          | some i => have := D2 i f1; by_cases c4 : j + b.add ≤ i; (have := D3 (.inl f2) (.inr ⟨i, f1, c4⟩); omega); omega
        | some k =>
          have := D1 k f2
          by_cases c5 : k ≤ j + b.add
          · cases f1 : b.high with
            | none => have := D3 (.inr ⟨k, f2, c5⟩) (.inl f1); omega
            | some i => have := D2 i f1; by_cases c4 : j + b.add ≤ i; (have := D3 (.inr ⟨k, f2, c5⟩) (.inr ⟨i, f1, c4⟩); omega); omega
          · have e5 : b.ap j = k := this.2 (by omega)
            rcases h1 with h1 | ⟨h, h1, h6⟩
            · unfold endBeh at h1; cases e7 : a.low with
              | none => rw [e7] at h1; rw [f2] at h1; cases h1
              | some m => rw [e7] at h1; cases h1
            · unfold endBeh at h1; cases e7 : a.low with
              | none => rw [e7] at h1; rw [f2] at h1; cases h1; omega
              | some m =>
                rw [e7] at h1; cases h1
                have o := ha m j e7 e
                have q1 := ap_mono b (show m ≤ j by omega)
                have q2 := ((ap_cases b hb m).1 k f2).1
                omega
    have ea := A3 a1 a2
    rw [ea] at B1 B2 B3 ⊢
    have b1 : b.low = none ∨ ∃ l, b.low = some l ∧ l ≤ v + a.add + b.add := by
      cases f : b.low with
      | none => exact .inl rfl
      | some i =>
        refine .inr ⟨i, rfl, ?_⟩
        rcases h1 with h1 | ⟨l, h1, h4⟩
        · unfold endBeh at h1; cases e7 : a.low with
          | none => rw [e7] at h1; rw [f] at h1; cases h1
          | some m => rw [e7] at h1; cases h1
        · unfold endBeh at h1; cases e7 : a.low with
          | none => rw [e7] at h1; rw [f] at h1; cases h1; omega
          | some m => rw [e7] at h1; cases h1; have := ((ap_cases b hb m).1 i f).1; omega
    have b2 : b.high = none ∨ ∃ l, b.high = some l ∧ v + a.add + b.add ≤ l := by
      cases f : b.high with
      | none => exact .inl rfl
      | some i =>
        refine .inr ⟨i, rfl, ?_⟩
        rcases h2 with h2 | ⟨l, h2, h4⟩
        · unfold endBeh at h2; cases e7 : a.high with
          | none => rw [e7] at h2; rw [f] at h2; cases h2
          | some m => rw [e7] at h2; cases h2
        · unfold endBeh at h2; cases e7 : a.high with
          | none => rw [e7] at h2; rw [f] at h2; cases h2; omega
          | some m => rw [e7] at h2; cases h2; have := ((ap_cases b hb m).2.1 i f).1; omega
    rw [B3 b1 b2]; omega
theorem beh_in {a b : Dd} {x y : Int} (ha : a.In x) (hb : b.In y) (h0 : 0 ≤ x) (h1 : 0 ≤ y) : (beh a b).In (y + x) := by
  obtain ⟨a1, a2, a3, a4⟩ := ha
  have hb' := hb
  obtain ⟨b1, b2, b3, b4⟩ := hb
  refine ⟨?_, ?_, fun l hl => ?_, fun l hl => ?_⟩
  · unfold beh; rw [wholeD_add]; split <;> omega
  · unfold beh; rw [wholeD_add]; split <;> omega
  · unfold beh at hl; rw [wholeD_low] at hl; unfold endBeh at hl
    cases e : a.low with
    | none => rw [e] at hl; have := b3 l hl; omega
    | some j => rw [e] at hl; cases hl; exact ap_in hb' (a3 j e).1 (a3 j e).2 h0
  · unfold beh at hl; rw [wholeD_high] at hl; unfold endBeh at hl
    cases e : a.high with
    | none => rw [e] at hl; have := b4 l hl; omega
    | some j => rw [e] at hl; cases hl; exact ap_in hb' (a4 j e).1 (a4 j e).2 h0
/-- far out a deed shows its ends -/
theorem far_low {d : Dd} {b F : Int} (ok : d.Ok) (i : d.In b) (hF : 3 * b + 2 ≤ F) (h0 : 0 ≤ b) : (if d.ap (-F - 1) = d.ap (-F) then some (d.ap (-F)) else none) = d.low := by
  obtain ⟨i1, i2, i3, i4⟩ := i
  cases e : d.low with
  | some l =>
    have := i3 l e
    rw [ap_low ok e (show -F - 1 + d.add ≤ l by omega), ap_low ok e (show -F + d.add ≤ l by omega), if_pos rfl]
  | none =>
    have k : ∀ v : Int, v ≤ -F → d.ap v = v + d.add := fun v hv => by
      refine (ap_cases d ok v).2.2 (.inl e) ?_
      cases f : d.high with
      | none => exact .inl rfl
      | some h => have := i4 h f; exact .inr ⟨h, rfl, by omega⟩
    rw [k _ (by omega), k _ (by omega), if_neg (by omega)]
theorem far_high {d : Dd} {b F : Int} (ok : d.Ok) (i : d.In b) (hF : 3 * b + 2 ≤ F) (h0 : 0 ≤ b) : (if d.ap F = d.ap (F + 1) then some (d.ap F) else none) = d.high := by
  obtain ⟨i1, i2, i3, i4⟩ := i
  cases e : d.high with
  | some l =>
    have := i4 l e
    rw [ap_high ok e (show l ≤ F + 1 + d.add by omega), ap_high ok e (show l ≤ F + d.add by omega), if_pos rfl]
  | none =>
    have k : ∀ v : Int, F ≤ v → d.ap v = v + d.add := fun v hv => by
      refine (ap_cases d ok v).2.2 ?_ (.inl e)
      cases f : d.low with
      | none => exact .inl rfl
      | some h => have := i3 h f; exact .inr ⟨h, rfl, by omega⟩
    rw [k _ (by omega), k _ (by omega), if_neg (by omega)]
theorem bound_of (d : Dd) : ∃ b, 0 ≤ b ∧ d.In b := by
  obtain ⟨a, l, h⟩ := d
  refine ⟨a.natAbs + (l.getD 0).natAbs + (h.getD 0).natAbs, by omega, in_mk (by omega) (by omega) (fun x hx => ?_) fun x hx => ?_⟩
  · cases hx; simp only [Option.getD_some]; omega
  · cases hx; simp only [Option.getD_some]; omega
theorem In.le {d : Dd} {a b : Int} (h : d.In a) (e : a ≤ b) : d.In b := ⟨by have := h.1; omega, by have := h.2.1; omega, fun l hl => by have := h.2.2.1 l hl; omega, fun l hl => by have := h.2.2.2 l hl; omega⟩
/-- there is just one deed that makes the same of all -/
theorem ap_ext {d e : Dd} (hd : d.Ok) (he : e.Ok) (h : ∀ v, d.ap v = e.ap v) : d = e := by
  obtain ⟨b, b0, hb⟩ := bound_of d
  obtain ⟨c, c0, hc⟩ := bound_of e
  have l1 := far_low (F := 3 * (b + c) + 2) hd (In.le hb (show b ≤ b + c by omega)) (by omega) (by omega)
  have l2 := far_low (F := 3 * (b + c) + 2) he (In.le hc (show c ≤ b + c by omega)) (by omega) (by omega)
  have h1 := far_high (F := 3 * (b + c) + 2) hd (In.le hb (show b ≤ b + c by omega)) (by omega) (by omega)
  have h2 := far_high (F := 3 * (b + c) + 2) he (In.le hc (show c ≤ b + c by omega)) (by omega) (by omega)
  rw [h, h, l2] at l1
  rw [h, h, h2] at h1
  have ea : d.add = e.add := by
    cases e1 : d.low with
    | none =>
      cases e2 : d.high with
      | none =>
        have := h 0
        rw [ap_nn d 0 e1 e2, ap_nn e 0 (l1.trans e1) (h1.trans e2)] at this
        omega
      | some k =>
        have := h (k - 1 - b - c)
        have q1 := hb.1; have q2 := hb.2.1; have q3 := hc.1; have q4 := hc.2.1
        rw [ap_ns d _ k e1 e2, ap_ns e _ k (l1.trans e1) (h1.trans e2), if_pos (by omega), if_pos (by omega)] at this
        omega
    | some l =>
      cases e2 : d.high with
      | none =>
        have := h (l + 1 + b + c)
        have q1 := hb.1; have q2 := hb.2.1; have q3 := hc.1; have q4 := hc.2.1
        rw [ap_sn d _ l e1 e2, ap_sn e _ l (l1.trans e1) (h1.trans e2), if_pos (by omega), if_pos (by omega)] at this
        omega
      | some k =>
        have o1 := hd l k e1 e2
        have o2 := he l k (l1.trans e1) (h1.trans e2)
        by_cases c1 : l = k
        · omega
        · have g1 := h (l - d.add)
          have g2 := h (l - d.add + 1)
          obtain ⟨C1, C2, C3⟩ := ap_cases e he (l - d.add)
          obtain ⟨D1, D2, D3⟩ := ap_cases e he (l - d.add + 1)
          rw [ap_low hd e1 (by omega)] at g1
          rw [(ap_cases d hd (l - d.add + 1)).2.2 (.inr ⟨l, e1, by omega⟩) (.inr ⟨k, e2, by omega⟩)] at g2
          have := C1 l (l1.trans e1); have := C2 k (h1.trans e2); have := D1 l (l1.trans e1); have := D2 k (h1.trans e2)
          by_cases c2 : l ≤ l - d.add + e.add
          · by_cases c3 : l - d.add + e.add ≤ k
            · have := C3 (.inr ⟨l, l1.trans e1, c2⟩) (.inr ⟨k, h1.trans e2, c3⟩); omega
            · omega
          · by_cases c3 : l ≤ l - d.add + 1 + e.add
            · have := D3 (.inr ⟨l, l1.trans e1, c3⟩) (.inr ⟨k, h1.trans e2, by omega⟩); omega
            · omega
  obtain ⟨a1, a2, a3⟩ := d
  obtain ⟨b1, b2, b3⟩ := e
  cases ea; cases l1; cases h1
  rfl
theorem beh_assoc {a b c : Dd} (ha : a.Ok) (hb : b.Ok) (hc : c.Ok) : beh (beh a b) c = beh a (beh b c) :=
  ap_ext (beh_ok (beh_ok ha hb) hc) (beh_ok ha (beh_ok hb hc)) fun v => by rw [beh_ap (beh_ok ha hb) hc, beh_ap ha hb, beh_ap ha (beh_ok hb hc), beh_ap hb hc]
theorem look_ap (v : Int) : look.ap v = v := by show v + 0 = v; omega
theorem beh_look {a : Dd} (ha : a.Ok) : beh a look = a := ap_ext (beh_ok ha look_ok) ha fun v => by rw [beh_ap ha look_ok, look_ap]
theorem look_beh {a : Dd} (ha : a.Ok) : beh look a = a := ap_ext (beh_ok look_ok ha) ha fun v => by rw [beh_ap look_ok ha, look_ap]
/-! ### a deed as data -/
def po : Option Int → PyData
  | none => .none
  | some i => .int i
def pd (d : Dd) : PyData := .tuple [.int d.add, po d.low, po d.high]
theorem po_dp {K : PySem.W.Frag} {H : Hp} (o : Option Int) : Dp K H (oV o) (po o) := by
  cases o with
  | none => exact .non
  | some i => exact .int i
theorem pd_dp {K : PySem.W.Frag} {H : Hp} {a : Addr} {d : Dd} (h : SqT K H a d.vs) : Dp K H (.ref a) (pd d) := .tup h (.cons (.int _) (.cons (po_dp _) (.cons (po_dp _) .nil)))
theorem pd_sh (d : Dd) : SeqAt.shaped (pd d) = true := by
  obtain ⟨a, l, h⟩ := d
  cases l <;> cases h <;> rfl
theorem pd_refl (d : Dd) : PyData.eqv (pd d) (pd d) = true := SeqAt.eqv_refl _ (SeqAt.canLay_of_shaped (pd_sh d))
/-- a new tuple with a deed -/
def NewD (H : Hp) (Q : VK) (d : Dd) : Prop := ∀ (a : Addr) (H' : Hp), Same H H' → H a = none → H' a = some (.tup d.vs) → Q (.ref a) H'
abbrev Fx : Int := 10 ^ Int.toNat 64 * 10 ^ Int.toNat 26
theorem Fx_eq : Fx = 10 ^ 90 := by decide
theorem take_snoc {α : Type} {l : List α} {i : Nat} {x : α} (h : l[i]? = some x) : l.take (i + 1) = l.take i ++ [x] := by rw [List.take_succ, h] <;> rfl
/-- a deed's tuple that was made here -/
def Da (H : Hp) (a : Addr) (d : Dd) : Prop := H a = some (.tup d.vs) ∧ d.In (10 ^ 80) ∧ d.Ok
theorem Da.arg {K : PySem.W.Frag} {H : Hp} {a : Addr} {d : Dd} (h : Da H a d) : DeedArg K H a d := ⟨.base (.tup h.1), SqT.of h.1, h.2.2⟩
theorem Da.same {H H' : Hp} {a : Addr} {d : Dd} (e : Same H H') (h : Da H a d) : Da H' a d := ⟨e _ _ h.1, h.2⟩
theorem Da.sq {K : PySem.W.Frag} {H : Hp} {a : Addr} {d : Dd} (h : Da H a d) : SqT K H a d.vs := SqT.of h.1
theorem Da.dp {K : PySem.W.Frag} {H : Hp} {a : Addr} {d : Dd} (h : Da H a d) : Dp K H (.ref a) (pd d) := pd_dp h.sq
theorem ne_pd {d : Dd} : (!PyData.eqv (pd d) (pd d)) = false := by rw [pd_refl] <;> rfl
theorem addT {x : Int} {k : Bool} {p : Prop} [Decidable p] (h : k = true ↔ ¬ p) : x * (if k = true then 1 else 0) = if p then 0 else x := by
  by_cases c : p
  · rw [if_pos c, if_neg (fun z => h.mp z c)]; exact Int.mul_zero _
  · rw [if_neg c, if_pos (h.mpr c)]; exact Int.mul_one _
/-! ### shown data: one look -/
structure Sh (d : PyData) (n c : Nat) : Prop where
  s : d.showable = true
  dep : d.depth ≤ n
  c : cst d ≤ c
theorem shAll {α : Type} {f : α → PyData} {n c : Nat} : ∀ {xs : List α}, (∀ x ∈ xs, Sh (f x) n c) → PyData.showableAll (xs.map f) = true ∧ PyData.depthAll (xs.map f) ≤ n ∧ csts (xs.map f) ≤ (c + 4) * xs.length
  | [], _ => ⟨rfl, Nat.zero_le _, Nat.zero_le _⟩
  | x :: r, h => by
    obtain ⟨h1, h2, h3⟩ := shAll (xs := r) fun y hy => h y (List.mem_cons_of_mem _ hy)
    obtain ⟨g1, g2, g3⟩ := h x List.mem_cons_self
    refine ⟨?_, ?_, ?_⟩
    · simp only [List.map_cons, PyData.showableAll, g1, h1, Bool.and_self]
    · simp only [List.map_cons, PyData.depthAll]; omega
    · simp only [List.map_cons, csts, List.length_cons, Nat.mul_add, Nat.mul_one]; omega
theorem Sh.tup {α : Type} {f : α → PyData} {n c m k j : Nat} {xs : List α} (h : ∀ x ∈ xs, Sh (f x) n c) (hm : n + 1 ≤ m) (hl : xs.length ≤ j) (hk : (c + 4) * j + 4 ≤ k) : Sh (.tuple (xs.map f)) m k := by
  obtain ⟨h1, h2, h3⟩ := shAll h
  have h4 := Nat.mul_le_mul_left (c + 4) hl
  refine ⟨h1, ?_, ?_⟩
  · simp only [PyData.depth]; omega
  · show csts _ + 4 ≤ k; omega
theorem Sh.lst {α : Type} {f : α → PyData} {n c m k j : Nat} {xs : List α} (h : ∀ x ∈ xs, Sh (f x) n c) (hm : n + 1 ≤ m) (hl : xs.length ≤ j) (hk : (c + 4) * j + 4 ≤ k) : Sh (.list (xs.map f)) m k := by
  obtain ⟨h1, h2, h3⟩ := shAll h
  have h4 := Nat.mul_le_mul_left (c + 4) hl
  refine ⟨h1, ?_, ?_⟩
  · simp only [PyData.depth]; omega
  · show csts _ + 4 ≤ k; omega
theorem int_sh {i : Int} (h1 : -(10 ^ 100) ≤ i) (h2 : i ≤ 10 ^ 100) : Sh (.int i) 0 1921 := by
  refine ⟨?_, Nat.le_refl _, Nat.le_refl _⟩
  have : i.natAbs.log2 < 1920 := log_lt (by decide) (Nat.lt_of_le_of_lt (m := 10 ^ 100) (by omega) (by decide))
  simpa [PyData.showable] using this
theorem Sh.mono {d : PyData} {n c n' c' : Nat} (h : Sh d n c) (h1 : n ≤ n') (h2 : c ≤ c') : Sh d n' c' := ⟨h.s, Nat.le_trans h.dep h1, Nat.le_trans h.c h2⟩
theorem rep_ {K : PySem.W.Frag} {σ : L2.St} {H : Hp} {x : V} {d : PyData} {n c : Nat} {Q : VK} (hd : Dp K H x d) (s : Sh d n c) (hn : n ≤ 60 := by decide) (hc : c ≤ 10000000 := by decide) (q : Q (.str d.shown) H) :
    tNil σ H (fun xs H2 => (fun vs H1 => rRepr K vs H1 Q) (x :: xs) H2) :=
  ⟨x, d, rfl, hd, s.s, Nat.le_trans s.dep hn, shown_sz s.s (dp_noDict d x hd) (Nat.le_trans s.c hc), q⟩
theorem dps {α : Type} {K : PySem.W.Frag} {H : Hp} {g : α → V} {f : α → PyData} : ∀ {xs : List α}, (∀ x ∈ xs, Dp K H (g x) (f x)) → DpAll K H (xs.map g) (xs.map f)
  | [], _ => .nil
  | x :: r, h => .cons (h x List.mem_cons_self) (dps fun y hy => h y (List.mem_cons_of_mem _ hy))
theorem po_sh {b : Int} {o : Option Int} (h : ∀ l, o = some l → -b ≤ l ∧ l ≤ b) (hb : b ≤ 10 ^ 100) : Sh (po o) 0 1921 := by
  cases o with
  | none => exact ⟨rfl, Nat.le_refl _, by show 5 ≤ 1921; decide⟩
  | some i => have := h i rfl; exact int_sh (by omega) (by omega)
theorem pd_sh1 {b : Int} {d : Dd} (h : d.In b) (hb : b ≤ 10 ^ 100) : Sh (pd d) 1 6000 := by
  have := h.1; have := h.2.1
  refine Sh.tup (f := id) (n := 0) (c := 1921) (j := 3) (xs := [.int d.add, po d.low, po d.high]) ?_ (Nat.le_refl _) (Nat.le_refl _) (by decide)
  intro x hx
  simp only [List.mem_cons, List.mem_nil_iff, or_false] at hx
  rcases hx with rfl | rfl | rfl
  · exact int_sh (by omega) (by omega)
  · exact po_sh h.2.2.1 hb
  · exact po_sh h.2.2.2 hb
/-! ### boards and asks -/
def BoardAt (H : Hp) (b : Addr) (bs : List Int) : Prop := H b = some (.tup (bs.map V.int)) ∧ 1 ≤ bs.length ∧ bs.length ≤ 16
def Wi (c : Int) (bs : List Int) : Prop := ∀ x ∈ bs, -c ≤ x ∧ x ≤ c
theorem BoardAt.same {H H' : Hp} {b : Addr} {bs : List Int} (e : Same H H') (h : BoardAt H b bs) : BoardAt H' b bs := ⟨e _ _ h.1, h.2⟩
structure Ak where
  a : Addr
  hand : Int
  box : Nat
  da : Addr
  d : Dd
def Ak.vs (x : Ak) : List V := [.int x.hand, .int x.box, .ref x.da]
def Ak.at_ (H : Hp) (nb : Nat) (x : Ak) : Prop := H x.a = some (.tup x.vs) ∧ Da H x.da x.d ∧ 0 ≤ x.hand ∧ x.hand < 16 ∧ x.box < nb
def AsksAt (H : Hp) (k : Addr) (as : List Ak) (nb : Nat) : Prop := H k = some (.tup (as.map fun x => .ref x.a)) ∧ as.length ≤ 40 ∧ ∀ x ∈ as, x.at_ H nb
theorem Ak.at_.same {H H' : Hp} {nb : Nat} {x : Ak} (e : Same H H') (h : x.at_ H nb) : x.at_ H' nb := ⟨e _ _ h.1, h.2.1.same e, h.2.2⟩
theorem AsksAt.same {H H' : Hp} {k : Addr} {as : List Ak} {nb : Nat} (e : Same H H') (h : AsksAt H k as nb) : AsksAt H' k as nb := ⟨e _ _ h.1, h.2.1, fun x hx => (h.2.2 x hx).same e⟩
theorem Da.but {p : Addr} {ys : List V} {H H' : Hp} {a : Addr} {d : Dd} (e : But p H H') (hp : H p = some (.lst ys)) (h : Da H a d) : Da H' a d := ⟨e _ _ (ne_of h.1 hp (by intro z; cases z)) h.1, h.2⟩
theorem Ak.at_.but {p : Addr} {ys : List V} {H H' : Hp} {nb : Nat} {x : Ak} (e : But p H H') (hp : H p = some (.lst ys)) (h : x.at_ H nb) : x.at_ H' nb := ⟨e _ _ (ne_of h.1 hp (by intro z; cases z)) h.1, h.2.1.but e hp, h.2.2⟩
def Ak.pd (x : Ak) : PyData := .tuple [.int x.hand, .int x.box, Toy.pd x.d]
theorem Ak.at_.dp {K : PySem.W.Frag} {H : Hp} {nb : Nat} {x : Ak} (h : x.at_ H nb) : Dp K H (.ref x.a) x.pd := .tup (SqT.of h.1) (.cons (.int _) (.cons (.int _) (.cons h.2.1.dp .nil)))
theorem Ak.at_.sh {H : Hp} {nb : Nat} {x : Ak} (h : x.at_ H nb) (hn : nb ≤ 16) : Sh x.pd 2 19000 := by
  refine Sh.tup (f := id) (n := 1) (c := 6000) (j := 3) (xs := [.int x.hand, .int x.box, Toy.pd x.d]) ?_ (Nat.le_refl _) (Nat.le_refl _) (by decide)
  have := h.2.2
  intro y hy
  simp only [List.mem_cons, List.mem_nil_iff, or_false] at hy
  rcases hy with rfl | rfl | rfl
  · exact (int_sh (by omega) (by omega)).mono (by decide) (by decide)
  · exact (int_sh (by omega) (by omega)).mono (by decide) (by decide)
  · exact pd_sh1 h.2.1.2.1 (by decide)
def intsD (bs : List Int) : PyData := .tuple (bs.map PyData.int)
theorem ints_sh1 {bs : List Int} {c : Int} {n : Nat} (h : Wi c bs) (hc : c ≤ 10 ^ 100) (hn : bs.length ≤ n) : Sh (intsD bs) 1 (1925 * n + 4) :=
  Sh.tup (n := 0) (c := 1921) (j := n) (fun x hx => have := h x hx; int_sh (by omega) (by omega)) (Nat.le_refl _) hn (by omega)
theorem BoardAt.dp {K : PySem.W.Frag} {H : Hp} {b : Addr} {bs : List Int} (h : BoardAt H b bs) : Dp K H (.ref b) (intsD bs) := tupI_dp (SqT.of h.1)
def akD (as : List Ak) : PyData := .tuple (as.map Ak.pd)
theorem AsksAt.dp {K : PySem.W.Frag} {H : Hp} {k : Addr} {as : List Ak} {nb : Nat} (h : AsksAt H k as nb) : Dp K H (.ref k) (akD as) := .tup (SqT.of h.1) (dps fun x hx => (h.2.2 x hx).dp)
theorem AsksAt.sh {H : Hp} {k : Addr} {as : List Ak} {nb : Nat} (h : AsksAt H k as nb) (hn : nb ≤ 16) : Sh (akD as) 3 800000 :=
  Sh.tup (n := 2) (c := 19000) (j := 40) (fun x hx => (h.2.2 x hx).sh hn) (Nat.le_refl _) h.2.1 (by decide)
/-! ### asks played -/
def stepP (s : List Int × List Int) (x : Ak) : List Int × List Int := (s.1 ++ [s.2.getD x.box 0], s.2.set x.box (x.d.ap (s.2.getD x.box 0)))
def play (as : List Ak) (bs : List Int) : List Int × List Int := as.foldl stepP ([], bs)
theorem play_snoc {as : List Ak} {bs : List Int} {i : Nat} {x : Ak} (h : as[i]? = some x) : play (as.take (i + 1)) bs = stepP (play (as.take i) bs) x := by
  unfold play; rw [take_snoc h, List.foldl_append] <;> rfl
theorem Wi.set {c : Int} {bs : List Int} {i : Nat} {v : Int} (h : Wi c bs) (h1 : -c ≤ v) (h2 : v ≤ c) : Wi c (bs.set i v) := fun x hx => by
  rcases List.mem_or_eq_of_mem_set hx with h3 | h3
  · exact h x h3
  · subst h3; exact ⟨h1, h2⟩
theorem Wi.mono {c c' : Int} {bs : List Int} (h : Wi c bs) (e : c ≤ c') : Wi c' bs := fun x hx => by have := h x hx; omega
theorem Wi.get {c : Int} {bs : List Int} {i : Nat} (h : Wi c bs) (h0 : 0 ≤ c) : -c ≤ bs.getD i 0 ∧ bs.getD i 0 ≤ c := by
  rw [List.getD_eq_getElem?_getD]
  cases e : bs[i]? with
  | none => show -c ≤ 0 ∧ 0 ≤ c; omega
  | some x => exact h x (List.mem_of_getElem? e)
theorem snoc_ind {α : Type} {p : List α → Prop} (nil : p []) (snoc : ∀ l x, p l → p (l ++ [x])) (l : List α) : p l := by
  have h : ∀ l : List α, p l.reverse := fun l => by
    induction l with
    | nil => exact nil
    | cons x r ih => rw [List.reverse_cons]; exact snoc _ _ ih
  have := h l.reverse
  rwa [List.reverse_reverse] at this
theorem play_in {H : Hp} {nb : Nat} {bs : List Int} {c : Int} (hc : 0 ≤ c) (hb : Wi c bs) : ∀ {as : List Ak}, (∀ x ∈ as, x.at_ H nb) → (play as bs).1.length = as.length ∧ (play as bs).2.length = bs.length ∧ Wi (c + as.length * 10 ^ 80) (play as bs).1 ∧ Wi (c + as.length * 10 ^ 80) (play as bs).2 := by
  intro as
  induction as using snoc_ind with
  | nil => exact fun _ => ⟨rfl, rfl, (fun x hx => (nomatch hx)), hb.mono (by show c ≤ c + ((0 : Nat) : Int) * _; omega)⟩
  | snoc as x ih =>
    intro h
    obtain ⟨i1, i2, i3, i4⟩ := ih fun y hy => h y (List.mem_append_left _ hy)
    have hx := h x (List.mem_append_right _ List.mem_cons_self)
    have e : play (as ++ [x]) bs = stepP (play as bs) x := by unfold play; rw [List.foldl_append] <;> rfl
    have hg := i4.get (i := x.box) (by omega)
    have ha := ap_in (v := (play as bs).2.getD x.box 0) hx.2.1.2.1 hg.1 hg.2 (by omega)
    rw [e]
    have el : (((as ++ [x]).length : Nat) : Int) = as.length + 1 := by simp
    rw [el]
    refine ⟨?_, ?_, ?_, ?_⟩
    · show (_ ++ [_]).length = _; simp [i1]
    · show (List.set _ _ _).length = _; simp [i2]
    · intro y hy
      rcases List.mem_append.mp (show y ∈ _ ++ [_] from hy) with h3 | h3
      · have := i3 y h3; omega
      · have := List.mem_singleton.mp h3; subst this; omega
    · exact Wi.set (i4.mono (by omega)) (by omega) (by omega)
theorem menu8 : ∀ j : Nat, j < 8 → ∃ z : Int, ([.int 2147483629, .int 2147483587, .int 2147483579, .int 2147483563, .int 2147483549, .int 2147483543, .int 2147483497, .int 2147483489] : List V)[j]? = some (.int z) ∧ 0 < z ∧ z ≤ 2147483629
  | 0, _ => ⟨_, rfl, by decide, by decide⟩
  | 1, _ => ⟨_, rfl, by decide, by decide⟩
  | 2, _ => ⟨_, rfl, by decide, by decide⟩
  | 3, _ => ⟨_, rfl, by decide, by decide⟩
  | 4, _ => ⟨_, rfl, by decide, by decide⟩
  | 5, _ => ⟨_, rfl, by decide, by decide⟩
  | 6, _ => ⟨_, rfl, by decide, by decide⟩
  | 7, _ => ⟨_, rfl, by decide, by decide⟩
  | n + 8, h => absurd h (by omega)
theorem at3 {x0 x1 x2 : Int} : ∀ j : Nat, j < 3 → ∃ z : Int, ([.int x0, .int x1, .int x2] : List V)[j]? = some (.int z) ∧ (z = x0 ∨ z = x1 ∨ z = x2)
  | 0, _ => ⟨_, rfl, .inl rfl⟩
  | 1, _ => ⟨_, rfl, .inr (.inl rfl)⟩
  | 2, _ => ⟨_, rfl, .inr (.inr rfl)⟩
  | n + 3, h => absurd h (by omega)
theorem but_upd {p D : Addr} {H H1 : Hp} {o : HO} (n : H D = none) (a : But p H H1) : But p H (upd H1 D o) := fun b u hb e => by rw [upd_ne (ne_of_none e n)]; exact a b u hb e
theorem PotAt.upd {H : Hp} {p D : Addr} {o : HO} (n : p ≠ D) (h : PotAt H p) : PotAt (L2.upd H D o) p := by
  obtain ⟨a, b, h1, h2⟩ := h
  exact ⟨a, b, by rw [upd_ne n]; exact h1, h2⟩
theorem Wi.snoc {c : Int} {bs : List Int} {x : Int} (h : Wi c bs) (h1 : -c ≤ x) (h2 : x ≤ c) : Wi c (bs ++ [x]) := fun y hy => by
  rcases List.mem_append.mp hy with h3 | h3
  · exact h y h3
  · have := List.mem_singleton.mp h3; subst this; exact ⟨h1, h2⟩
theorem play_len {as : List Ak} {bs : List Int} : (play as bs).1.length = as.length ∧ (play as bs).2.length = bs.length := by
  induction as using snoc_ind with
  | nil => exact ⟨rfl, rfl⟩
  | snoc as x ih =>
    have e : play (as ++ [x]) bs = stepP (play as bs) x := by unfold play; rw [List.foldl_append] <;> rfl
    rw [e]
    refine ⟨?_, ?_⟩
    · show (_ ++ [_]).length = _; simp [ih.1]
    · show (List.set _ _ _).length = _; simp [ih.2]
theorem map_getD {us : List Int} {i : Nat} (h : i < us.length) : (us.map V.int)[i]? = some (.int (us.getD i 0)) := by
  rw [List.getElem?_map, List.getD_eq_getElem?_getD, List.getElem?_eq_getElem h] <;> rfl
/-- what is told of asks played -/
def TwoAt (H : Hp) (r : Addr) (s : List Int × List Int) : Prop := ∃ t1 t2, H r = some (.tup [.ref t1, .ref t2]) ∧ H t1 = some (.tup (s.1.map V.int)) ∧ H t2 = some (.tup (s.2.map V.int))
theorem TwoAt.same {H H' : Hp} {r : Addr} {s : List Int × List Int} (e : Same H H') (h : TwoAt H r s) : TwoAt H' r s := by
  obtain ⟨a, b, h1, h2, h3⟩ := h
  exact ⟨a, b, e _ _ h1, e _ _ h2, e _ _ h3⟩
def twoD (s : List Int × List Int) : PyData := .tuple [intsD s.1, intsD s.2]
theorem TwoAt.dp {K : PySem.W.Frag} {H : Hp} {r : Addr} {s : List Int × List Int} (h : TwoAt H r s) : Dp K H (.ref r) (twoD s) := by
  obtain ⟨a, b, h1, h2, h3⟩ := h
  exact .tup (SqT.of h1) (.cons (tupI_dp (SqT.of h2)) (.cons (tupI_dp (SqT.of h3)) .nil))
theorem play_sh {H : Hp} {k : Addr} {as : List Ak} {bs : List Int} {c : Int} (hk : AsksAt H k as bs.length) (hn : bs.length ≤ 16) (hw : Wi c bs) (h0 : 0 ≤ c) (hc : c ≤ 10 ^ 91) : Sh (twoD (play as bs)) 2 160000 := by
  obtain ⟨h1, h2, h3, h4⟩ := play_in h0 hw hk.2.2
  have h40 := hk.2.1
  have hb : c + (as.length : Int) * 10 ^ 80 ≤ 10 ^ 100 := by omega
  refine Sh.tup (f := id) (n := 1) (c := 77004) (j := 2) (xs := [intsD (play as bs).1, intsD (play as bs).2]) ?_ (Nat.le_refl _) (Nat.le_refl _) (by decide)
  intro x hx
  simp only [List.mem_cons, List.mem_nil_iff, or_false] at hx
  rcases hx with rfl | rfl
  · exact ints_sh1 (n := 40) h3 hb (by omega)
  · exact ints_sh1 (n := 40) h4 hb (by omega)
/-! ### trees -/
inductive Tr where
  | leaf (n : Nat)
  | node (l r : Tr)
def Tr.cnt : Tr → Nat
  | .leaf _ => 1
  | .node l r => l.cnt + r.cnt
def Tr.h : Tr → Nat
  | .leaf _ => 1
  | .node l r => max l.h r.h + 1
def Tr.d : Tr → PyData
  | .leaf n => .int n
  | .node l r => .tuple [l.d, r.d]
def Tr.big : Tr → Nat
  | .leaf n => n
  | .node l r => max l.big r.big
def TrAt (H : Hp) : V → Tr → Prop
  | v, .leaf n => v = .int n
  | v, .node l r => ∃ a x y, v = .ref a ∧ H a = some (.tup [x, y]) ∧ TrAt H x l ∧ TrAt H y r
theorem TrAt.same {H H' : Hp} (e : Same H H') : ∀ {t : Tr} {v : V}, TrAt H v t → TrAt H' v t
  | .leaf _, _, h => h
  | .node l r, _, ⟨a, x, y, h1, h2, h3, h4⟩ => ⟨a, x, y, h1, e _ _ h2, TrAt.same e h3, TrAt.same e h4⟩
theorem TrAt.dp {K : PySem.W.Frag} {H : Hp} : ∀ {t : Tr} {v : V}, TrAt H v t → Dp K H v t.d
  | .leaf n, _, h => by
    cases (show _ = V.int n from h)
    exact .int n
  | .node l r, _, ⟨a, x, y, h1, h2, h3, h4⟩ => by
    cases h1
    exact .tup (SqT.of h2) (.cons h3.dp (.cons h4.dp .nil))
theorem Tr.sh : ∀ {t : Tr} {b : Nat}, t.big ≤ b → b ≤ 10 ^ 9 → t.d.showable = true ∧ t.d.depth + 1 ≤ t.h ∧ cst t.d + 12 ≤ 1940 * t.cnt
  | .leaf n, b, h, hb => by
    have h' : n ≤ b := h
    have i := int_sh (i := n) (by omega) (by omega)
    exact ⟨i.s, Nat.le_refl _, by show 1921 + 12 ≤ 1940 * 1; decide⟩
  | .node l r, b, h, hb => by
    have h' : max l.big r.big ≤ b := h
    obtain ⟨a1, a2, a3⟩ := Tr.sh (t := l) (b := b) (by omega) hb
    obtain ⟨b1, b2, b3⟩ := Tr.sh (t := r) (b := b) (by omega) hb
    refine ⟨?_, ?_, ?_⟩
    · simp only [Tr.d, PyData.showable, PyData.showableAll, a1, b1, Bool.and_self]
    · simp only [Tr.d, PyData.depth, PyData.depthAll, Tr.h]; omega
    · show (cst l.d + 4 + (cst r.d + 4 + 0)) + 4 + 12 ≤ 1940 * (l.cnt + r.cnt); omega
theorem Tr.shw {t : Tr} (h1 : t.big ≤ 10 ^ 9) (h2 : t.h ≤ 50) (h3 : t.cnt ≤ 50) : Sh t.d 60 100000 := by
  obtain ⟨a, b, c⟩ := Tr.sh h1 (Nat.le_refl _)
  exact ⟨a, by omega, by omega⟩
theorem Tr.h_pos : ∀ t : Tr, 1 ≤ t.h
  | .leaf _ => Nat.le_refl _
  | .node _ _ => Nat.le_add_left _ _
/-- the halved tree -/
def hv (f m : Nat) : Tr := if m ≤ 1 then .leaf f else .node (hv f ((m + 1) / 2)) (hv (f + (m + 1) / 2) (m - (m + 1) / 2))
termination_by m
decreasing_by all_goals omega
theorem hv_one {f m : Nat} (h : m ≤ 1) : hv f m = .leaf f := by rw [hv, if_pos h]
theorem hv_more {f m : Nat} (h : ¬ m ≤ 1) : hv f m = .node (hv f ((m + 1) / 2)) (hv (f + (m + 1) / 2) (m - (m + 1) / 2)) := by rw [hv, if_neg h]
def IsH : Tr → Nat → Prop
  | .leaf n, f => n = f
  | .node l r, f => (l.cnt = r.cnt ∨ l.cnt = r.cnt + 1) ∧ IsH l f ∧ IsH r (f + l.cnt)
theorem hv_is : ∀ (m f : Nat), 1 ≤ m → IsH (hv f m) f ∧ (hv f m).cnt = m ∧ (hv f m).h ≤ m ∧ (hv f m).big ≤ f + m := by
  intro m
  induction m using Nat.strongRecOn with
  | _ m ih =>
    intro f h
    by_cases c : m ≤ 1
    · rw [hv_one c]
      have : m = 1 := by omega
      subst this
      exact ⟨rfl, rfl, Nat.le_refl _, Nat.le_add_right _ _⟩
    · rw [hv_more c]
      obtain ⟨a1, a2, a3, a4⟩ := ih ((m + 1) / 2) (by omega) f (by omega)
      obtain ⟨b1, b2, b3, b4⟩ := ih (m - (m + 1) / 2) (by omega) (f + (m + 1) / 2) (by omega)
      refine ⟨⟨by omega, a1, by rw [a2]; exact b1⟩, ?_, ?_, ?_⟩
      · show _ + _ = _; omega
      · show max _ _ + 1 ≤ _; omega
      · show max _ _ ≤ _; omega
/-- the chained tree of so many -/
def ch : Nat → Tr
  | 0 => .leaf 0
  | n + 1 => .node (ch n) (.leaf (n + 1))
theorem ch_is : ∀ n, (ch n).cnt = n + 1 ∧ (ch n).h ≤ n + 1 ∧ (ch n).big ≤ n
  | 0 => ⟨rfl, Nat.le_refl _, Nat.le_refl _⟩
  | n + 1 => by
    obtain ⟨a, b, c⟩ := ch_is n
    refine ⟨?_, ?_, ?_⟩
    · show _ + 1 = _; omega
    · show max _ 1 + 1 ≤ _; omega
    · show max _ (n + 1) ≤ _; omega
theorem TrAt.but {p : Addr} {ys : List V} {H H' : Hp} (e : But p H H') (hp : H p = some (.lst ys)) : ∀ {t : Tr} {v : V}, TrAt H v t → TrAt H' v t
  | .leaf _, _, h => h
  | .node l r, _, ⟨a, x, y, h1, h2, h3, h4⟩ => ⟨a, x, y, h1, e _ _ (ne_of h2 hp (by intro z; cases z)) h2, TrAt.but e hp h3, TrAt.but e hp h4⟩
/-! ### rows of deeds, folded and shared out -/
def behs (ds : List Dd) : Dd := ds.foldl beh look
def Oks (ds : List Dd) : Prop := ∀ d ∈ ds, d.Ok
theorem behs_snoc (ds : List Dd) (d : Dd) : behs (ds ++ [d]) = beh (behs ds) d := by unfold behs; rw [List.foldl_append] <;> rfl
theorem behs_ok : ∀ {ds : List Dd}, Oks ds → (behs ds).Ok := by
  intro ds
  induction ds using snoc_ind with
  | nil => exact fun _ => look_ok
  | snoc ds d ih => exact fun h => by rw [behs_snoc]; exact beh_ok (ih fun x hx => h x (List.mem_append_left _ hx)) (h d (List.mem_append_right _ List.mem_cons_self))
theorem behs_app {xs : List Dd} (hx : Oks xs) : ∀ {ys : List Dd}, Oks ys → behs (xs ++ ys) = beh (behs xs) (behs ys) := by
  intro ys
  induction ys using snoc_ind with
  | nil => exact fun _ => by rw [List.append_nil]; exact (beh_look (behs_ok hx)).symm
  | snoc ys y ih =>
    intro h
    have h1 : Oks ys := fun x hx => h x (List.mem_append_left _ hx)
    have h2 : y.Ok := h y (List.mem_append_right _ List.mem_cons_self)
    rw [← List.append_assoc, behs_snoc, ih h1, behs_snoc, beh_assoc (behs_ok hx) (behs_ok h1) h2]
theorem behs_one {d : Dd} (h : d.Ok) : behs [d] = d := look_beh h
def ans : Int → List Dd → List Int
  | _, [] => []
  | v, d :: r => v :: ans (d.ap v) r
def aps : Int → List Dd → Int
  | v, [] => v
  | v, d :: r => aps (d.ap v) r
theorem aps_snoc : ∀ (ds : List Dd) (v : Int) (d : Dd), aps v (ds ++ [d]) = d.ap (aps v ds)
  | [], _, _ => rfl
  | _ :: r, _, _ => aps_snoc r _ _
theorem ans_app : ∀ (xs ys : List Dd) (v : Int), ans v (xs ++ ys) = ans v xs ++ ans (aps v xs) ys
  | [], _, _ => rfl
  | x :: r, ys, v => congrArg (v :: ·) (ans_app r ys _)
theorem ans_len : ∀ (xs : List Dd) (v : Int), (ans v xs).length = xs.length
  | [], _ => rfl
  | _ :: r, _ => congrArg (· + 1) (ans_len r _)
theorem behs_ap : ∀ {ds : List Dd}, Oks ds → ∀ v, (behs ds).ap v = aps v ds := by
  intro ds
  induction ds using snoc_ind with
  | nil => exact fun _ v => look_ap v
  | snoc ds d ih =>
    intro h v
    have h1 : Oks ds := fun x hx => h x (List.mem_append_left _ hx)
    have h2 : d.Ok := h d (List.mem_append_right _ List.mem_cons_self)
    rw [behs_snoc, beh_ap (behs_ok h1) h2, ih h1, aps_snoc]
/-- a tree's leaves are the numbers from one on -/
def IsRow : Tr → Nat → Prop
  | .leaf n, f => n = f
  | .node l r, f => IsRow l f ∧ IsRow r (f + l.cnt)
theorem Tr.cnt_pos : ∀ t : Tr, 1 ≤ t.cnt
  | .leaf _ => Nat.le_refl _
  | .node l r => Nat.le_trans l.cnt_pos (Nat.le_add_right _ _)
theorem Tr.h_cnt : ∀ t : Tr, t.h ≤ t.cnt
  | .leaf _ => Nat.le_refl _
  | .node l r => by
    have := l.h_cnt; have := r.h_cnt; have := l.cnt_pos; have := r.cnt_pos
    show max l.h r.h + 1 ≤ l.cnt + r.cnt
    omega
theorem IsRow.big : ∀ {t : Tr} {f : Nat}, IsRow t f → t.big ≤ f + t.cnt
  | .leaf n, f, h => by cases (show n = f from h); exact Nat.le_add_right _ _
  | .node l r, f, ⟨h1, h2⟩ => by
    have := h1.big; have := h2.big
    show max l.big r.big ≤ f + (l.cnt + r.cnt)
    omega
theorem isH_row : ∀ {t : Tr} {f : Nat}, IsH t f → IsRow t f
  | .leaf _, _, h => h
  | .node _ _, _, ⟨_, h1, h2⟩ => ⟨isH_row h1, isH_row h2⟩
theorem ch_row : ∀ n, IsRow (ch n) 0
  | 0 => rfl
  | n + 1 => ⟨ch_row n, by show n + 1 = 0 + (ch n).cnt; rw [(ch_is n).1]; omega⟩
def FT (ds : List Dd) : Tr → Dd
  | .leaf n => ds.getD n look
  | .node l r => beh (FT ds l) (FT ds r)
def ST (ds : List Dd) : Tr → Int → List Int
  | .leaf _, v => [v]
  | .node l r, v => ST ds l v ++ ST ds r ((FT ds l).ap v)
theorem cut_add {ds : List Dd} {f a b : Nat} : (ds.drop f).take (a + b) = (ds.drop f).take a ++ (ds.drop (f + a)).take b := by
  rw [List.take_add, List.drop_drop]
theorem oks_cut {ds : List Dd} (h : Oks ds) (f n : Nat) : Oks ((ds.drop f).take n) := fun d hd => h d (List.mem_of_mem_drop (List.mem_of_mem_take hd))
theorem cut_one {ds : List Dd} {n : Nat} (h : n < ds.length) : (ds.drop n).take 1 = [ds.getD n look] := by
  rw [List.getD_eq_getElem?_getD, List.getElem?_eq_getElem h, List.drop_eq_getElem_cons h] <;> rfl
theorem FT_is {ds : List Dd} (ok : Oks ds) : ∀ {t : Tr} {f : Nat}, IsRow t f → f + t.cnt ≤ ds.length → FT ds t = behs ((ds.drop f).take t.cnt)
  | .leaf n, f, h, hl => by
    cases (show n = f from h)
    have hl' : n < ds.length := hl
    show ds.getD n look = behs ((ds.drop n).take 1)
    rw [cut_one hl', behs_one]
    refine ok _ ?_
    rw [List.getD_eq_getElem?_getD, List.getElem?_eq_getElem hl']
    exact List.getElem_mem hl'
  | .node l r, f, ⟨h1, h2⟩, hl => by
    have hl' : f + (l.cnt + r.cnt) ≤ ds.length := hl
    show beh (FT ds l) (FT ds r) = behs ((ds.drop f).take (l.cnt + r.cnt))
    rw [FT_is ok h1 (by omega), FT_is ok h2 (by omega), cut_add, behs_app (oks_cut ok _ _) (oks_cut ok _ _)]
theorem ST_is {ds : List Dd} (ok : Oks ds) : ∀ {t : Tr} {f : Nat} {v : Int}, IsRow t f → f + t.cnt ≤ ds.length → ST ds t v = ans v ((ds.drop f).take t.cnt)
  | .leaf n, f, v, h, hl => by
    cases (show n = f from h)
    have hl' : n < ds.length := hl
    show [v] = ans v ((ds.drop n).take 1)
    rw [cut_one hl'] <;> rfl
  | .node l r, f, v, ⟨h1, h2⟩, hl => by
    have hl' : f + (l.cnt + r.cnt) ≤ ds.length := hl
    show ST ds l v ++ ST ds r ((FT ds l).ap v) = ans v ((ds.drop f).take (l.cnt + r.cnt))
    rw [ST_is ok h1 (by omega), ST_is ok h2 (by omega), cut_add, ans_app, FT_is ok h1 (by omega), behs_ap (oks_cut ok _ _)]
theorem FT_all {ds : List Dd} (ok : Oks ds) {t : Tr} (h : IsRow t 0) (hl : t.cnt = ds.length) : FT ds t = behs ds := by
  rw [FT_is ok h (by omega), List.drop_zero, hl, List.take_length]
theorem ST_all {ds : List Dd} (ok : Oks ds) {t : Tr} {v : Int} (h : IsRow t 0) (hl : t.cnt = ds.length) : ST ds t v = ans v ds := by
  rw [ST_is ok h (by omega), List.drop_zero, hl, List.take_length]
/-- a tuple of deeds -/
def DsAt (H : Hp) (k : Addr) (ps : List (Addr × Dd)) : Prop := H k = some (.tup (ps.map fun x => .ref x.1)) ∧ 1 ≤ ps.length ∧ ps.length ≤ 40 ∧ ∀ x ∈ ps, Da H x.1 x.2
theorem DsAt.same {H H' : Hp} {k : Addr} {ps : List (Addr × Dd)} (e : Same H H') (h : DsAt H k ps) : DsAt H' k ps := ⟨e _ _ h.1, h.2.1, h.2.2.1, fun x hx => (h.2.2.2 x hx).same e⟩
def dsOf (ps : List (Addr × Dd)) : List Dd := ps.map Prod.snd
theorem DsAt.oks {H : Hp} {k : Addr} {ps : List (Addr × Dd)} (h : DsAt H k ps) : Oks (dsOf ps) := fun d hd => by
  obtain ⟨x, hx, rfl⟩ := List.mem_map.mp hd
  exact (h.2.2.2 x hx).2.2
/-- rows of trees, one after another -/
def Rows : List Tr → Nat → Nat → Prop
  | [], f, m => f = m
  | t :: r, f, m => IsRow t f ∧ Rows r (f + t.cnt) m
def Tr.sz : Tr → Nat
  | .leaf _ => 1
  | .node l r => l.sz + r.sz + 1
def szs : List Tr → Nat
  | [] => 0
  | t :: r => t.sz + szs r
theorem Tr.lay : ∀ t : Tr, t.d.canLay0 = true
  | .leaf _ => rfl
  | .node l r => by
    have := l.lay; have := r.lay
    simp_all [Tr.d, PyData.canLay0, PyData.canLayAll0]
theorem rows_len : ∀ {ts : List Tr} {f m : Nat}, Rows ts f m → ts.length + f ≤ m
  | [], _, _, h => by cases (show _ = _ from h); exact Nat.le_of_eq (Nat.zero_add _)
  | t :: r, f, m, ⟨_, h⟩ => by
    have := rows_len h
    have := t.cnt_pos
    show r.length + 1 + f ≤ m
    omega
theorem eqv_nil : ∀ ds : List PyData, PyData.eqv (.list ds) (.list []) = ds.isEmpty
  | [] => rfl
  | _ :: _ => rfl
theorem lays {ts : List (V × Tr)} : PyData.canLayAll0 (ts.map fun x => x.2.d) = true := by
  induction ts with
  | nil => rfl
  | cons x r ih => simp [PyData.canLayAll0, x.2.lay, ih]
theorem depths : ∀ {xs : List (V × Tr)}, (∀ x ∈ xs, x.2.h ≤ 40 ∧ x.2.big ≤ 100) → PyData.depthAll (xs.map fun x => x.2.d) ≤ 50
  | [], _ => Nat.zero_le _
  | x :: r, hx => by
    have h1 := depths (xs := r) fun y hy => hx y (List.mem_cons_of_mem _ hy)
    have h2 := hx x List.mem_cons_self
    have h3 := (Tr.sh (Nat.le_trans h2.2 (by decide)) (Nat.le_refl (10 ^ 9))).2.1
    simp only [List.map_cons, PyData.depthAll]
    omega
theorem ST_len (ds : List Dd) : ∀ (t : Tr) (v : Int), (ST ds t v).length = t.cnt
  | .leaf _, _ => rfl
  | .node l r, v => by
    show (ST ds l v ++ ST ds r _).length = l.cnt + r.cnt
    rw [List.length_append, ST_len ds l, ST_len ds r]
def TsAt (H : Hp) (T : Addr) (ts : List (V × Tr)) (m : Nat) : Prop := H T = some (.lst (ts.map fun x => x.1)) ∧ ts.length ≤ 6 ∧ ∀ x ∈ ts, TrAt H x.1 x.2 ∧ IsRow x.2 0 ∧ x.2.cnt = m
theorem TsAt.same {H H' : Hp} {T : Addr} {ts : List (V × Tr)} {m : Nat} (e : Same H H') (h : TsAt H T ts m) : TsAt H' T ts m := ⟨e _ _ h.1, h.2.1, fun x hx => ⟨(h.2.2 x hx).1.same e, (h.2.2 x hx).2⟩⟩
theorem TsAt.but {p : Addr} {H H' : Hp} {T : Addr} {ts : List (V × Tr)} {m : Nat} (e : But p H H') (n : T ≠ p) {ys : List V} (hp : H p = some (.lst ys)) (h : TsAt H T ts m) : TsAt H' T ts m := ⟨e _ _ n h.1, h.2.1, fun x hx => ⟨(h.2.2 x hx).1.but e hp, (h.2.2 x hx).2⟩⟩
def tsD (ts : List (V × Tr)) : PyData := .list (ts.map fun x => x.2.d)
theorem TsAt.dp {K : PySem.W.Frag} {H : Hp} {T : Addr} {ts : List (V × Tr)} {m : Nat} (h : TsAt H T ts m) : Dp K H (.ref T) (tsD ts) := .lst (SqL.of h.1) (dps fun x hx => (h.2.2 x hx).1.dp)
theorem row_sh {t : Tr} {m : Nat} (h : IsRow t 0) (hc : t.cnt = m) (hm : m ≤ 40) : Sh t.d 40 80000 := by
  have h1 := h.big
  have h2 := t.h_cnt
  obtain ⟨a, b, c⟩ := Tr.sh (t := t) (b := 100) (by omega) (by decide)
  exact ⟨a, by omega, by omega⟩
theorem TsAt.sh {H : Hp} {T : Addr} {ts : List (V × Tr)} {m : Nat} (h : TsAt H T ts m) (hm : m ≤ 40) : Sh (tsD ts) 41 500000 :=
  Sh.lst (n := 40) (c := 80000) (j := 6) (fun x hx => row_sh (h.2.2 x hx).2.1 (h.2.2 x hx).2.2 hm) (Nat.le_refl _) h.2.1 (by decide)
theorem behs_in {b : Int} (h0 : 0 ≤ b) : ∀ {ds : List Dd}, (∀ d ∈ ds, d.In b) → (behs ds).In (ds.length * b) := by
  intro ds
  induction ds using snoc_ind with
  | nil => exact fun _ => by show look.In _; exact look_in (by simp)
  | snoc ds d ih =>
    intro h
    rw [behs_snoc]
    have h1 := ih fun x hx => h x (List.mem_append_left _ hx)
    have h2 := h d (List.mem_append_right _ List.mem_cons_self)
    have h3 := beh_in h1 h2 (Int.mul_nonneg (by omega) h0) h0
    rw [show (((ds ++ [d]).length : Nat) : Int) = ds.length + 1 by simp, Int.add_mul]
    refine In.le h3 ?_
    omega
theorem ans_in {b : Int} (h0 : 0 ≤ b) : ∀ {ds : List Dd} {v c : Int}, (∀ d ∈ ds, d.In b) → -c ≤ v → v ≤ c → 0 ≤ c → Wi (c + ds.length * b) (ans v ds)
  | [], _, _, _, _, _, _ => fun x hx => nomatch hx
  | d :: r, v, c, h, h1, h2, hc => by
    have h3 := ap_in (h d List.mem_cons_self) h1 h2 hc
    have h4 := ans_in h0 (ds := r) (v := d.ap v) (c := b + c) (fun x hx => h x (List.mem_cons_of_mem _ hx)) (by omega) (by omega) (by omega)
    have e : c + (((d :: r).length : Nat) : Int) * b = b + c + (r.length : Int) * b := by
      rw [List.length_cons, Int.natCast_add, Int.add_mul]
      omega
    have h5 := Int.mul_nonneg (show (0 : Int) ≤ (((d :: r).length : Nat) : Int) by omega) h0
    intro x hx
    rcases List.mem_cons.mp (show x ∈ v :: ans (d.ap v) r from hx) with rfl | hx
    · omega
    · rw [e]; exact h4 x hx
theorem DsAt.but {p : Addr} {H H' : Hp} {k : Addr} {ps : List (Addr × Dd)} (e : But p H H') {ys : List V} (hp : H p = some (.lst ys)) (h : DsAt H k ps) : DsAt H' k ps := ⟨e _ _ (ne_of h.1 hp (by intro z; cases z)) h.1, h.2.1, h.2.2.1, fun x hx => (h.2.2.2 x hx).but e hp⟩
def dsD (ps : List (Addr × Dd)) : PyData := .tuple (ps.map fun x => Toy.pd x.2)
theorem DsAt.dp {K : PySem.W.Frag} {H : Hp} {k : Addr} {ps : List (Addr × Dd)} (h : DsAt H k ps) : Dp K H (.ref k) (dsD ps) := .tup (SqT.of h.1) (dps fun x hx => (h.2.2.2 x hx).dp)
theorem DsAt.sh {H : Hp} {k : Addr} {ps : List (Addr × Dd)} (h : DsAt H k ps) : Sh (dsD ps) 2 250000 :=
  Sh.tup (n := 1) (c := 6000) (j := 40) (fun x hx => pd_sh1 (h.2.2.2 x hx).2.1 (by decide)) (Nat.le_refl _) h.2.2.1 (by decide)
theorem DsAt.ins {H : Hp} {k : Addr} {ps : List (Addr × Dd)} (h : DsAt H k ps) : ∀ d ∈ dsOf ps, d.In (10 ^ 80) := fun d hd => by
  obtain ⟨x, hx, rfl⟩ := List.mem_map.mp hd
  exact (h.2.2.2 x hx).2.1
theorem cut_mapG {α : Type} {g : α → V} (us : List α) (lo hi : Option Int) : ∃ ws : List α, cutV (us.map g) lo hi = ws.map g ∧ (ws.length ≤ us.length ∧ ∀ x ∈ ws, x ∈ us) := by
  refine ⟨(us.drop (HT.sIx (us.map g).length 0 lo)).take (HT.sIx (us.map g).length (us.map g).length hi - HT.sIx (us.map g).length 0 lo), ?_, ?_, fun x hx => List.mem_of_mem_drop (List.mem_of_mem_take hx)⟩
  · unfold cutV; rw [List.map_take, List.map_drop]
  · rw [List.length_take, List.length_drop]; omega
/-! ### what all asks make of each box -/
def stepM (s : List Dd × List Dd) (x : Ak) : List Dd × List Dd := (s.1 ++ [s.2.getD x.box look], s.2.set x.box (beh (s.2.getD x.box look) x.d))
def madeOf (as : List Ak) (n : Nat) : List Dd × List Dd := as.foldl stepM ([], List.replicate n look)
theorem made_app {as : List Ak} {n : Nat} {x : Ak} : madeOf (as ++ [x]) n = stepM (madeOf as n) x := by unfold madeOf; rw [List.foldl_append] <;> rfl
theorem made_snoc {as : List Ak} {n i : Nat} {x : Ak} (h : as[i]? = some x) : madeOf (as.take (i + 1)) n = stepM (madeOf (as.take i) n) x := by rw [take_snoc h, made_app]
theorem made_len {as : List Ak} {n : Nat} : (madeOf as n).1.length = as.length ∧ (madeOf as n).2.length = n := by
  induction as using snoc_ind with
  | nil => exact ⟨rfl, List.length_replicate⟩
  | snoc as x ih =>
    rw [made_app]
    refine ⟨?_, ?_⟩
    · show (_ ++ [_]).length = _; simp [ih.1]
    · show (List.set _ _ _).length = _; simp [ih.2]
def boxd (b : Nat) (as : List Ak) : List Dd := (as.filter fun x => decide (x.box = b)).map fun x => x.d
theorem boxd_snoc {b : Nat} {as : List Ak} {x : Ak} : boxd b (as ++ [x]) = if x.box = b then boxd b as ++ [x.d] else boxd b as := by
  unfold boxd
  rw [List.filter_append, List.map_append]
  by_cases c : x.box = b
  · rw [if_pos c, List.filter_cons_of_pos (by simp [c])] <;> rfl
  · rw [if_neg c, List.filter_cons_of_neg (by simp [c])]; simp
theorem getD_set {α : Type} {l : List α} {i j : Nat} {a d : α} (h : i < l.length) : (l.set i a).getD j d = if i = j then a else l.getD j d := by
  rw [List.getD_eq_getElem?_getD, List.getElem?_set, List.getD_eq_getElem?_getD]
  by_cases c : i = j
  · rw [if_pos c, if_pos c, if_pos h] <;> rfl
  · rw [if_neg c, if_neg c]
theorem made_get {n b : Nat} (hb : b < n) : ∀ {as : List Ak}, (∀ x ∈ as, x.box < n) → (madeOf as n).2.getD b look = behs (boxd b as) := by
  intro as
  induction as using snoc_ind with
  | nil =>
    intro _
    show (List.replicate n look).getD b look = look
    rw [List.getD_eq_getElem?_getD, List.getElem?_replicate]
    split <;> rfl
  | snoc as x ih =>
    intro h
    have hx := h x (List.mem_append_right _ List.mem_cons_self)
    have h1 := ih fun y hy => h y (List.mem_append_left _ hy)
    rw [made_app]
    show ((madeOf as n).2.set x.box (beh ((madeOf as n).2.getD x.box look) x.d)).getD b look = _
    rw [getD_set (by rw [made_len.2]; exact hx), boxd_snoc]
    by_cases c : x.box = b
    · subst c
      rw [if_pos rfl, if_pos rfl, behs_snoc, h1]
    · rw [if_neg c, if_neg c, h1]
theorem play_get {bs : List Int} {b : Nat} (hb : b < bs.length) : ∀ {as : List Ak}, (∀ x ∈ as, x.box < bs.length) → (play as bs).2.getD b 0 = aps (bs.getD b 0) (boxd b as) := by
  intro as
  induction as using snoc_ind with
  | nil => exact fun _ => rfl
  | snoc as x ih =>
    intro h
    have hx := h x (List.mem_append_right _ List.mem_cons_self)
    have h1 := ih fun y hy => h y (List.mem_append_left _ hy)
    have e : play (as ++ [x]) bs = stepP (play as bs) x := by unfold play; rw [List.foldl_append] <;> rfl
    rw [e]
    show ((play as bs).2.set x.box (x.d.ap ((play as bs).2.getD x.box 0))).getD b 0 = _
    rw [getD_set (by rw [play_len.2]; exact hx), boxd_snoc]
    by_cases c : x.box = b
    · subst c
      rw [if_pos rfl, if_pos rfl, aps_snoc, h1]
    · rw [if_neg c, if_neg c, h1]
theorem boxd_ok {b : Nat} {as : List Ak} (h : ∀ x ∈ as, x.d.Ok) : Oks (boxd b as) := fun d hd => by
  obtain ⟨x, hx, rfl⟩ := List.mem_map.mp hd
  exact h x (List.mem_filter.mp hx).1
theorem getD_app {α : Type} {l : List α} {a d : α} {k : Nat} : (l ++ [a]).getD k d = if k = l.length then a else l.getD k d := by
  rw [List.getD_eq_getElem?_getD, List.getD_eq_getElem?_getD]
  by_cases c : k = l.length
  · subst c; rw [if_pos rfl, List.getElem?_append_right (Nat.le_refl _), Nat.sub_self] <;> rfl
  · rw [if_neg c]
    by_cases c2 : k < l.length
    · rw [List.getElem?_append_left c2]
    · rw [List.getElem?_eq_none (by simp; omega), List.getElem?_eq_none (by omega)]
theorem ahead_get {bs : List Int} : ∀ {as : List Ak}, (∀ x ∈ as, x.box < bs.length ∧ x.d.Ok) → ∀ (k : Nat) (x : Ak), as[k]? = some x → ((madeOf as bs.length).1.getD k look).ap (bs.getD x.box 0) = (play as bs).1.getD k 0 := by
  intro as
  induction as using snoc_ind with
  | nil => exact fun _ k x h => by simp at h
  | snoc as y ih =>
    intro h k x hk
    have h0 : ∀ z ∈ as, z.box < bs.length ∧ z.d.Ok := fun z hz => h z (List.mem_append_left _ hz)
    have hy := h y (List.mem_append_right _ List.mem_cons_self)
    have e : play (as ++ [y]) bs = stepP (play as bs) y := by unfold play; rw [List.foldl_append] <;> rfl
    rw [e, made_app]
    show (((madeOf as bs.length).1 ++ [(madeOf as bs.length).2.getD y.box look]).getD k look).ap _ = ((play as bs).1 ++ [(play as bs).2.getD y.box 0]).getD k 0
    rw [getD_app, getD_app, made_len.1, play_len.1]
    by_cases c : k = as.length
    · rw [if_pos c, if_pos c]
      have : x = y := by
        rw [c, List.getElem?_append_right (Nat.le_refl _), Nat.sub_self] at hk
        exact (Option.some.inj hk).symm
      subst this
      rw [made_get hy.1 fun z hz => (h0 z hz).1, play_get hy.1 fun z hz => (h0 z hz).1, behs_ap (boxd_ok fun z hz => (h0 z hz).2)]
    · rw [if_neg c, if_neg c]
      have hlt : k < as.length := by
        have := (List.getElem?_eq_some_iff.mp hk).1
        simp at this; omega
      rw [List.getElem?_append_left hlt] at hk
      exact ih h0 k x hk
theorem made_in {n : Nat} : ∀ {as : List Ak}, (∀ x ∈ as, x.d.In (10 ^ 80)) → (∀ d ∈ (madeOf as n).1, d.In (as.length * 10 ^ 80)) ∧ (∀ d ∈ (madeOf as n).2, d.In (as.length * 10 ^ 80)) := by
  intro as
  induction as using snoc_ind with
  | nil => exact fun _ => ⟨(fun d hd => (nomatch hd)), fun d hd => by rw [(List.mem_replicate.mp hd).2]; exact look_in (by simp)⟩
  | snoc as x ih =>
    intro h
    obtain ⟨h1, h2⟩ := ih fun y hy => h y (List.mem_append_left _ hy)
    have hx := h x (List.mem_append_right _ List.mem_cons_self)
    rw [made_app]
    have el : (((as ++ [x]).length : Nat) : Int) = as.length + 1 := by simp
    have le : ((as.length : Nat) : Int) * 10 ^ 80 ≤ (((as ++ [x]).length : Nat) : Int) * 10 ^ 80 := by rw [el]; omega
    have hg : ((madeOf as n).2.getD x.box look).In (as.length * 10 ^ 80) := by
      rw [List.getD_eq_getElem?_getD]
      cases e : (madeOf as n).2[x.box]? with
      | none => exact look_in (by omega)
      | some d => exact h2 d (List.mem_of_getElem? e)
    refine ⟨fun d hd => ?_, fun d hd => ?_⟩
    · rcases List.mem_append.mp (show d ∈ _ ++ [_] from hd) with h3 | h3
      · exact In.le (h1 d h3) le
      · have := List.mem_singleton.mp h3; subst this; exact In.le hg le
    · rcases List.mem_or_eq_of_mem_set (show d ∈ List.set _ _ _ from hd) with h3 | h3
      · exact In.le (h2 d h3) le
      · subst h3
        have := beh_in hg hx (by omega) (by decide)
        refine In.le this ?_
        rw [el]; omega
/-- references to deeds -/
def RefsAt (K : PySem.W.Frag) (H : Hp) (ps : List (Addr × Dd)) : Prop := ∀ x ∈ ps, SqT K H x.1 x.2.vs
theorem RefsAt.same {K : PySem.W.Frag} {H H' : Hp} {ps : List (Addr × Dd)} (e : Same H H') (h : RefsAt K H ps) : RefsAt K H' ps := fun x hx => same_tup e (h x hx)
theorem RefsAt.but {K : PySem.W.Frag} {p : Addr} {ys : List V} {H H' : Hp} {ps : List (Addr × Dd)} (e : But p H H') (hp : H p = some (.lst ys)) (h : RefsAt K H ps) : RefsAt K H' ps := fun x hx => but_tup e hp (h x hx)
theorem refs_get {ps : List (Addr × Dd)} {i : Nat} (h : i < ps.length) : ∃ y, ps[i]? = some y ∧ y ∈ ps ∧ y.2 = (dsOf ps).getD i look ∧ (ps.map fun x => V.ref x.1)[i]? = some (.ref y.1) := by
  refine ⟨ps[i], List.getElem?_eq_getElem h, List.getElem_mem h, ?_, ?_⟩
  · unfold dsOf; rw [List.getD_eq_getElem?_getD, List.getElem?_map, List.getElem?_eq_getElem h] <;> rfl
  · rw [List.getElem?_map, List.getElem?_eq_getElem h] <;> rfl
def refsD (ds : List Dd) : PyData := .tuple (ds.map Toy.pd)
theorem refs_dp {K : PySem.W.Frag} {H : Hp} {T : Addr} {ps : List (Addr × Dd)} (hT : SqT K H T (ps.map fun x => V.ref x.1)) (h : RefsAt K H ps) : Dp K H (.ref T) (refsD (dsOf ps)) := by
  have e : refsD (dsOf ps) = .tuple (ps.map fun x => Toy.pd x.2) := by unfold refsD dsOf; rw [List.map_map] <;> rfl
  rw [e]
  exact .tup hT (dps fun x hx => pd_dp (h x hx))
theorem refs_sh {ds : List Dd} {b : Int} (h : ∀ d ∈ ds, d.In b) (hb : b ≤ 10 ^ 100) (hl : ds.length ≤ 40) : Sh (refsD ds) 2 250000 :=
  Sh.tup (n := 1) (c := 6000) (j := 40) (fun x hx => pd_sh1 (h x hx) hb) (Nat.le_refl _) hl (by decide)
theorem refs_new {n : Nat} {v : V} : (List.replicate n [v]).flatten = List.replicate n v := by
  induction n with
  | zero => rfl
  | succ n ih => rw [List.replicate_succ, List.flatten_cons, ih] <;> rfl
/-- a turn of the row of deeds -/
theorem refs_set {K : PySem.W.Frag} {H : Hp} {L c : Addr} {ps : List (Addr × Dd)} {i : Nat} {d : Dd} {ys : List V} {o : HO} (hL : H L = some (.lst ys)) (h : RefsAt K H ps) (hc : H c = some (.tup d.vs)) : RefsAt K (upd H L o) (ps.set i (c, d)) := fun x hx => by
  rcases List.mem_or_eq_of_mem_set hx with h3 | h3
  · exact but_tup But.upd hL (h x h3)
  · subst h3
    exact SqT.of (by rw [upd_ne (ne_of hc hL (by intro z; cases z))]; exact hc)
theorem dsOf_len {ps : List (Addr × Dd)} {ds : List Dd} (e : dsOf ps = ds) : ps.length = ds.length := by rw [← e]; unfold dsOf; rw [List.length_map]
/-- the two rows: what was ahead, what is made -/
def MadeAt (K : PySem.W.Frag) (H : Hp) (L M : Addr) (st : List Dd × List Dd) : Prop := ∃ ps1 ps2 : List (Addr × Dd), H M = some (.lst (ps1.map fun x => V.ref x.1)) ∧ H L = some (.lst (ps2.map fun x => V.ref x.1)) ∧ dsOf ps1 = st.1 ∧ dsOf ps2 = st.2 ∧ RefsAt K H ps1 ∧ RefsAt K H ps2
theorem MadeAt.new {K : PySem.W.Frag} {H : Hp} {L M : Addr} {ps : List (Addr × Dd)} {st : List Dd} (hL : H L = some (.lst (ps.map fun x => V.ref x.1))) (hM : H M = some (.lst [])) (h : RefsAt K H ps) (e : dsOf ps = st := by unfold dsOf; rw [List.map_replicate] <;> rfl) : MadeAt K H L M ([], st) :=
  ⟨[], ps, hM, hL, rfl, e, (fun x hx => (nomatch hx)), h⟩
theorem MadeAt.turn {K : PySem.W.Frag} {H : Hp} {L M : Addr} {st : List Dd × List Dd} (h : MadeAt K H L M st) {x : Ak} (hb : x.box < st.2.length) :
    ∃ y : Addr × Dd, (∀ ys, H L = some (.lst ys) → ys[x.box]? = some (.ref y.1)) ∧ SqT K H y.1 y.2.vs ∧ y.2 = st.2.getD x.box look ∧
      ∀ (ps1 ps2 : List (Addr × Dd)) (H5 : Hp) (c : Addr), L ≠ M → dsOf ps1 = st.1 → dsOf ps2 = st.2 → RefsAt K H ps1 → RefsAt K H ps2 → H M = some (.lst (ps1.map fun x => V.ref x.1)) → Same (upd H M (.lst (ps1.map (fun x => V.ref x.1) ++ [V.ref y.1]))) H5 →
        H5 L = some (.lst (ps2.map fun x => V.ref x.1)) → H5 c = some (.tup (beh y.2 x.d).vs) → MadeAt K (upd H5 L (.lst ((ps2.map fun x => V.ref x.1).set x.box (.ref c)))) L M (stepM st x) := by
  obtain ⟨p1, p2, hM, hL, e1, e2, r1, r2⟩ := h
  obtain ⟨y, hy, hym, hyd, hyr⟩ := refs_get (ps := p2) (i := x.box) (by rw [dsOf_len e2]; exact hb)
  rw [e2] at hyd
  refine ⟨y, fun ys h => ?_, r2 y hym, hyd, fun ps1 ps2 H5 c nLM f1 f2 g1 g2 hM4 S5 hL5 hc => ?_⟩
  · rw [hL] at h
    cases h
    exact hyr
  · refine ⟨ps1 ++ [y], ps2.set x.box (c, beh y.2 x.d), ?_, ?_, ?_, ?_, ?_, ?_⟩
    · rw [upd_ne nLM.symm, S5 _ _ upd_same, List.map_append] <;> rfl
    · rw [upd_same, List.map_set] <;> rfl
    · show dsOf (ps1 ++ [y]) = st.1 ++ [st.2.getD x.box look]
      rw [← hyd, ← f1]
      unfold dsOf
      rw [List.map_append] <;> rfl
    · show dsOf (ps2.set x.box (c, beh y.2 x.d)) = st.2.set x.box (beh (st.2.getD x.box look) x.d)
      rw [← hyd, ← f2]
      unfold dsOf
      rw [List.map_set]
    · intro z hz
      have hz' : SqT K H z.1 z.2.vs := by
        rcases List.mem_append.mp hz with h3 | h3
        · exact g1 z h3
        · have := List.mem_singleton.mp h3; subst this; exact r2 _ hym
      exact but_tup But.upd hL5 (same_tup S5 (but_tup But.upd hM hz'))
    · exact refs_set hL5 (fun z hz => same_tup S5 (but_tup But.upd hM (g2 z hz))) hc
theorem refs_dp' {K : PySem.W.Frag} {H : Hp} {T : Addr} {ps : List (Addr × Dd)} {ds : List Dd} (e : dsOf ps = ds) (hT : SqT K H T (ps.map fun x => V.ref x.1)) (h : RefsAt K H ps) : Dp K H (.ref T) (refsD ds) := e ▸ refs_dp hT h
theorem AsksAt.but {p : Addr} {ys : List V} {H H' : Hp} {k : Addr} {as : List Ak} {nb : Nat} (e : But p H H') (hp : H p = some (.lst ys)) (h : AsksAt H k as nb) : AsksAt H' k as nb := ⟨e _ _ (ne_of h.1 hp (by intro z; cases z)) h.1, h.2.1, fun x hx => (h.2.2 x hx).but e hp⟩
section
variable {P : Program} {w : World} {K : PySem.W.Frag} {mg : Str → Option Value} {base : Heap} (B : Bl K mg)
include B
/-! ### the program -/
def spIsWhole : Sp := fun vs H Q _ => ∃ i, vs = [.int i] ∧ Q (.bl true) H
theorem k_is_whole (D : Df K mg "is_whole" s_is_whole ["thing"]) : Dn P w K mg base 1 "is_whole" ["thing"] spIsWhole := by
  refine D.ok fun f fd F => okG0 F sc_is_whole (fun vs H Q E h => ?_) (fun cdv A outer s H vs Q E hr h => ⟨_, (pss_one (ps_ret (pe_and (pe_callB (kk (K := K) (F := rIsi) (P := CallR _ _) call_isi) (by rfl) B.isinstance_ (by decide +kernel) (pa_cons (pv 0) (pa_cons (pe_bltn (v := .ty "int") (u := .type "int") (by rfl) B.int_ (by decide +kernel) rfl) pa_nil))) (pe_one (pe_not (pe_callB (kk (K := K) (F := rIsi) (P := CallR _ _) call_isi) (by rfl) B.isinstance_ (by decide +kernel) (pa_cons (pv 0) (pa_cons (pe_bltn (v := .ty "bool") (u := .type "bool") (by rfl) B.bool_ (by decide +kernel) rfl) pa_nil)))))))), ?_⟩)
  · obtain ⟨i, rfl, _⟩ := h; rfl
  · obtain ⟨i, rfl, q⟩ := h
    refine ⟨_, rfl, _, _, _, _, _, rfl, .ty _, .base (.int _), kit_ty (b := "int") (r := true) (by decide +kernel), _, rfl, iteT ?_⟩
    refine ⟨_, rfl, _, _, _, _, _, rfl, .ty _, .base (.int _), kit_ty (b := "bool") (r := false) (by decide +kernel), _, rfl, ?_⟩
    exact q
def spIsRow (K : PySem.W.Frag) : Sp := fun vs H Q _ => ∃ (a : Addr) (xs : List V) (n : Int), vs = [.ref a, .int n] ∧ TyX K H (.ref a) (.type "tuple") ∧ SqT K H a xs ∧ Q (.bl (decide (V.int (xs.length : Int) = V.int n))) H
theorem k_is_row_of (D : Df K mg "is_row_of" s_is_row_of ["thing", "many"]) : Dn P w K mg base 1 "is_row_of" ["thing", "many"] (spIsRow K) := by
  refine D.ok fun f fd F => okG0 F sc_is_row_of (fun vs H Q E h => ?_) (fun cdv A outer s H vs Q E hr h => ⟨_, (pss_one (ps_ret (pe_and (pe_callB (kk (K := K) (F := rIsi) (P := CallR _ _) call_isi) (by rfl) B.isinstance_ (by decide +kernel) (pa_cons (pv 0) (pa_cons (pe_bltn (v := .ty "tuple") (u := .type "tuple") (by rfl) B.tuple_ (by decide +kernel) rfl) pa_nil))) (pe_one (pe_cmpR op_eq (pe_callB (lenK (K := K)) (by rfl) B.len_ (by decide +kernel) (pa_cons (pv 0) pa_nil)) (pv 1) (nomark _)))))), ?_⟩)
  · obtain ⟨a, xs, i, rfl, _⟩ := h; rfl
  · obtain ⟨a, xs, i, rfl, ht, hx, q⟩ := h
    refine ⟨_, rfl, _, _, _, _, _, rfl, .ty _, ht, kit_ty (b := "tuple") (r := true) (by decide +kernel), _, rfl, iteT ?_⟩
    exact ⟨_, rfl, a, xs, rfl, .inr hx, _, rfl, rfl, q⟩
def spIsEnd : Sp := fun vs H Q _ => ∃ o, vs = [oV o] ∧ Q (.bl true) H
theorem k_is_end (D : Df K mg "is_end" s_is_end ["thing"]) (D_is_whole : Dn P w K mg base 1 "is_whole" ["thing"] spIsWhole) : Dn P w K mg base 2 "is_end" ["thing"] spIsEnd := by
  refine D.ok fun f fd F => okG0 F sc_is_end (fun vs H Q E h => ?_) (fun cdv A outer s H vs Q E hr h => ⟨_, (pss_one (ps_ret (pe_or (pe_cmpR op_isN (pv 0) pe_non (nomark _)) (pe_one (pe_cD D_is_whole (hr.less (by decide)) rfl (pa_cons (pv 0) pa_nil)))))), ?_⟩)
  · obtain ⟨i, rfl, _⟩ := h; rfl
  · obtain ⟨o, rfl, q⟩ := h
    cases o with
    | none => exact ⟨_, rfl, rfl, _, rfl, iteT q⟩
    | some i => exact ⟨_, rfl, rfl, _, rfl, iteF ⟨_, rfl, i, rfl, q⟩⟩
def spIsDeed (K : PySem.W.Frag) : Sp := fun vs H Q _ => ∃ a d, vs = [.ref a] ∧ DeedArg K H a d ∧ Q (.bl true) H
theorem k_is_deed (D : Df K mg "is_deed" s_is_deed ["thing"]) (D_is_whole : Dn P w K mg base 1 "is_whole" ["thing"] spIsWhole) (D_is_row_of : Dn P w K mg base 1 "is_row_of" ["thing", "many"] (spIsRow K)) (D_is_end : Dn P w K mg base 2 "is_end" ["thing"] spIsEnd) : Dn P w K mg base 3 "is_deed" ["thing"] (spIsDeed K) := by
  refine D.ok fun f fd F => okG0 F sc_is_deed (fun vs H Q E h => ?_) (fun cdv A outer s H vs Q E hr h => ⟨_, (pss_cons (ps_if (PW.pt (pw_or (pt_not (pt_val (pe_cD D_is_row_of (hr.less (by decide)) rfl (pa_cons (pv 0) (pa_cons pe_int pa_nil))))) (pw_or (pt_not (pt_val (pe_cD D_is_whole (hr.less (by decide)) rfl (pa_cons (pe_ix (kk (K := K) (F := rIxT) (P := IxR _) ix_tup) (pv 0) pe_int (fun _ _ => rfl)) pa_nil)))) (pw_or (pt_not (pt_val (pe_cD D_is_end (hr.less (by decide)) rfl (pa_cons (pe_ix (kk (K := K) (F := rIxT) (P := IxR _) ix_tup) (pv 0) pe_int (fun _ _ => rfl)) pa_nil)))) (pw_or1 (pt_not (pt_val (pe_cD D_is_end (hr.less (by decide)) rfl (pa_cons (pe_ix (kk (K := K) (F := rIxT) (P := IxR _) ix_tup) (pv 0) pe_int (fun _ _ => rfl)) pa_nil)))))))))
      (pss_one (ps_ret pe_bl))
      pss_nil)
    (pss_cons (ps_asg (pv 0) (kk (K := K) (F := fun K => gTup K _ _) (P := PG _ _) (pg_tup rfl (pgs_cons (pg_name (i := 1) sc_is_deed.nd rfl (Or.inl rfl)) (pgs_cons (pg_name (i := 2) sc_is_deed.nd rfl (Or.inl rfl)) (pgs_cons (pg_name (i := 3) sc_is_deed.nd rfl (Or.inl rfl)) pgs_nil))))))
    (pss_cons (ps_if (PW.pt (pw_or (pt_cmpR op_isN (pv 2) pe_non (nomark _)) (pw_or1 (pt_cmpR op_isN (pv 3) pe_non (nomark _)))))
      (pss_one (ps_ret pe_bl))
      pss_nil)
    (pss_one (ps_ret (pe_or (pe_cmpR op_lt (pv 2) (pv 3) (nomark _)) (pe_one (pe_and (pe_cmpR op_eq (pv 2) (pv 3) (nomark _)) (pe_one (pe_cmpR op_eq (pv 1) pe_int (nomark _))))))))))), ?_⟩)
  · obtain ⟨a, d, rfl, _⟩ := h; rfl
  · obtain ⟨a, d, rfl, ⟨ht, hx, ok⟩, q⟩ := h
    refine ⟨_, rfl, a, _, 3, rfl, ht, hx, _, rfl, iteF ?_⟩
    refine ⟨_, rfl, a, _, _, _, rfl, rfl, hx, at_of (j := 0) rfl rfl, _, rfl, _, rfl, iteF ?_⟩
    refine ⟨_, rfl, a, _, _, _, rfl, rfl, hx, at_of (j := 1) rfl rfl, d.low, rfl, _, rfl, iteF ?_⟩
    refine ⟨_, rfl, a, _, _, _, rfl, rfl, hx, at_of (j := 2) rfl rfl, d.high, rfl, _, rfl, iteF ?_⟩
    refine ⟨_, rfl, a, _, rfl, hx, rfl, _, _, rfl, _, _, rfl, _, _, rfl, rfl, ?_⟩
    obtain ⟨add, low, high⟩ := d
    cases low with
    | none => exact ⟨_, rfl, rfl, _, rfl, iteT (iteT q)⟩
    | some l =>
      refine ⟨_, rfl, rfl, _, rfl, iteF ?_⟩
      cases high with
      | none => exact ⟨_, rfl, rfl, _, rfl, iteT q⟩
      | some h =>
        refine ⟨_, rfl, rfl, _, rfl, iteF ?_⟩
        refine ⟨_, rfl, _, rfl, _, _, rfl, rfl, _, rfl, ite2 (fun c => q) (fun c => ?_)⟩
        have := ok l h rfl rfl
        have c' : ¬ l < h := of_decide_eq_false (Bool.eq_false_iff.mpr c)
        obtain ⟨e1, e2⟩ : l = h ∧ add = 0 := by
          rcases this with h1 | h1
          · exact absurd h1 c'
          · exact h1
        subst e1 e2
        refine ⟨_, rfl, _, rfl, rfl, _, rfl, ?_⟩
        exact ifT (decide_eq_true rfl) ⟨_, rfl, rfl, q⟩
def spPut (K : PySem.W.Frag) : Sp := fun vs H Q _ => ∃ a d v, vs = [.ref a, .int v] ∧ SqT K H a (Dd.vs d) ∧ Q (.int (d.ap v)) H
theorem k_put_through (D : Df K mg "put_through" s_put_through ["deed", "value"]) : Dn P w K mg base 1 "put_through" ["deed", "value"] (spPut K) := by
  refine D.ok fun f fd F => okG0 F sc_put_through (fun vs H Q E h => ?_) (fun cdv A outer s H vs Q E hr h => ⟨_, (pss_cons (ps_asg (pv 0) (kk (K := K) (F := fun K => gTup K _ _) (P := PG _ _) (pg_tup rfl (pgs_cons (pg_name (i := 2) sc_put_through.nd rfl (Or.inl rfl)) (pgs_cons (pg_name (i := 3) sc_put_through.nd rfl (Or.inl rfl)) (pgs_cons (pg_name (i := 4) sc_put_through.nd rfl (Or.inl rfl)) pgs_nil))))))
    (pss_cons (ps_set (i := 5) sc_put_through.nd rfl (Or.inl rfl) (pe_op op_add (pv 1) (pv 2)))
    (pss_cons (ps_if (pt_cmpR op_notN (pv 3) pe_non (nomark _))
      (pss_one (ps_set (i := 5) sc_put_through.nd rfl (Or.inl rfl) (pe_callB (call_max2 rfl) (by rfl) B.max_ (by decide +kernel) (pa_cons (pv 3) (pa_cons (pv 5) pa_nil)))))
      pss_nil)
    (pss_one (ps_ret (pe_ifExp (pt_cmpR op_isN (pv 4) pe_non (nomark _)) (pv 5) (pe_callB (call_min2 rfl) (by rfl) B.min_ (by decide +kernel) (pa_cons (pv 4) (pa_cons (pv 5) pa_nil))))))))), ?_⟩)
  · obtain ⟨a, d, v, rfl, _⟩ := h; rfl
  · obtain ⟨a, d, v, rfl, hx, q⟩ := h
    refine ⟨_, rfl, a, _, rfl, hx, rfl, _, _, rfl, _, _, rfl, _, _, rfl, rfl, ?_⟩
    refine ⟨_, rfl, _, rfl, _, _, rfl, rfl, ?_⟩
    obtain ⟨add, low, high⟩ := d
    cases low with
    | none =>
      refine ⟨_, rfl, rfl, _, rfl, iteF ?_⟩
      cases high with
      | none => exact ⟨_, rfl, rfl, _, rfl, iteT ⟨_, rfl, q⟩⟩
      | some h => exact ⟨_, rfl, rfl, _, rfl, iteF ⟨_, rfl, _, rfl, _, _, rfl, q⟩⟩
    | some l =>
      refine ⟨_, rfl, rfl, _, rfl, iteT ⟨_, rfl, _, rfl, _, _, rfl, ?_⟩⟩
      cases high with
      | none => exact ⟨_, rfl, rfl, _, rfl, iteT ⟨_, rfl, q⟩⟩
      | some h => exact ⟨_, rfl, rfl, _, rfl, iteF ⟨_, rfl, _, rfl, _, _, rfl, q⟩⟩
def spWholeDeed : Sp := fun vs H Q _ => ∃ (add : Int) (low high : Option Int), vs = [.int add, oV low, oV high] ∧ NewD H Q (wholeD add low high)
theorem k_whole_deed (D : Df K mg "whole_deed" s_whole_deed ["add", "low", "high"]) : Dn P w K mg base 1 "whole_deed" ["add", "low", "high"] spWholeDeed := by
  refine D.ok fun f fd F => okG0 F sc_whole_deed (fun vs H Q E h => ?_) (fun cdv A outer s H vs Q E hr h => ⟨_, (pss_cons (ps_if (PW.pt (pw_and (pt_cmpR op_notN (pv 1) pe_non (nomark _)) (pw_and1 (pt_cmpR op_eq (pv 1) (pv 2) (nomark _)))))
      (pss_one (ps_ret (pe_tup (pa_cons pe_int (pa_cons (pv 1) (pa_cons (pv 2) pa_nil))))))
      pss_nil)
    (pss_one (ps_ret (pe_tup (pa_cons (pv 0) (pa_cons (pv 1) (pa_cons (pv 2) pa_nil))))))), ?_⟩)
  · obtain ⟨add, low, high, rfl, _⟩ := h; rfl
  · obtain ⟨add, low, high, rfl, q⟩ := h
    have key : ∀ d : Dd, wholeD add low high = d → tRet (tTup (tCons (tC (.int d.add)) (tCons (tC (oV d.low)) (tCons (tC (oV d.high)) tNil)))) { nx := fun _ H' => Q .non H', rt := Q } (start ["add", "low", "high"] [.int add, oV low, oV high]) H := by
      rintro d rfl
      exact ⟨sz, fun p hp => q p _ (same_new hp _) hp upd_same⟩
    cases low with
    | none =>
      refine ⟨_, rfl, rfl, _, rfl, iteF (iteF ?_)⟩
      have := key ⟨add, none, high⟩ (if_neg fun z => z.1 rfl)
      exact ⟨_, rfl, _, rfl, _, rfl, this⟩
    | some l =>
      refine ⟨_, rfl, rfl, _, rfl, iteT ⟨_, rfl, _, rfl, ?_⟩⟩
      cases high with
      | none =>
        have := key ⟨add, some l, none⟩ (if_neg fun z => nomatch z.2)
        exact ⟨rfl, _, rfl, iteF ⟨_, rfl, _, rfl, _, rfl, this⟩⟩
      | some h =>
        refine ⟨rfl, _, rfl, ite2 (fun c => ?_) (fun c => ?_)⟩
        · have c' : l = h := by have := of_decide_eq_true c; cases this; rfl
          have := key ⟨0, some l, some h⟩ (if_pos ⟨Option.some_ne_none l, by rw [c']⟩)
          exact ⟨_, rfl, _, rfl, this⟩
        · have c' : ¬ l = h := fun e => c (decide_eq_true (by rw [e]))
          have := key ⟨add, some l, some h⟩ (if_neg fun z => c' (Option.some.inj z.2))
          exact ⟨_, rfl, _, rfl, _, rfl, this⟩
def spBehind (K : PySem.W.Frag) : Sp := fun vs H Q _ => ∃ (a b : Addr) (d e : Dd), vs = [.ref a, .ref b] ∧ SqT K H a d.vs ∧ SqT K H b e.vs ∧ NewD H Q (beh d e)
theorem k_one_behind (D : Df K mg "one_behind" s_one_behind ["one", "other"]) (D_put_through : Dn P w K mg base 1 "put_through" ["deed", "value"] (spPut K)) (D_whole_deed : Dn P w K mg base 1 "whole_deed" ["add", "low", "high"] spWholeDeed) : Dn P w K mg base 2 "one_behind" ["one", "other"] (spBehind K) := by
  refine D.ok fun f fd F => okG0 F sc_one_behind (fun vs H Q E h => ?_) (fun cdv A outer s H vs Q E hr h => ⟨_, (pss_cons (ps_par (i := 2) (j := 3) rfl sc_one_behind.nd rfl rfl (by decide) rfl rfl (pa_cons (pe_ix (kk (K := K) (F := rIxT) (P := IxR _) ix_tup) (pv 1) pe_int (fun _ _ => rfl)) (pa_cons (pe_ix (kk (K := K) (F := rIxT) (P := IxR _) ix_tup) (pv 1) pe_int (fun _ _ => rfl)) pa_nil)) (by rfl))
    (pss_cons (ps_if (pt_cmpR op_notN (pe_ix (kk (K := K) (F := rIxT) (P := IxR _) ix_tup) (pv 0) pe_int (fun _ _ => rfl)) pe_non (nomark _))
      (pss_one (ps_set (i := 2) sc_one_behind.nd rfl (Or.inl rfl) (pe_cD D_put_through (hr.less (by decide)) rfl (pa_cons (pv 1) (pa_cons (pe_ix (kk (K := K) (F := rIxT) (P := IxR _) ix_tup) (pv 0) pe_int (fun _ _ => rfl)) pa_nil)))))
      pss_nil)
    (pss_cons (ps_if (pt_cmpR op_notN (pe_ix (kk (K := K) (F := rIxT) (P := IxR _) ix_tup) (pv 0) pe_int (fun _ _ => rfl)) pe_non (nomark _))
      (pss_one (ps_set (i := 3) sc_one_behind.nd rfl (Or.inl rfl) (pe_cD D_put_through (hr.less (by decide)) rfl (pa_cons (pv 1) (pa_cons (pe_ix (kk (K := K) (F := rIxT) (P := IxR _) ix_tup) (pv 0) pe_int (fun _ _ => rfl)) pa_nil)))))
      pss_nil)
    (pss_one (ps_ret (pe_cD D_whole_deed (hr.less (by decide)) rfl (pa_cons (pe_op op_add (pe_ix (kk (K := K) (F := rIxT) (P := IxR _) ix_tup) (pv 0) pe_int (fun _ _ => rfl)) (pe_ix (kk (K := K) (F := rIxT) (P := IxR _) ix_tup) (pv 1) pe_int (fun _ _ => rfl))) (pa_cons (pv 2) (pa_cons (pv 3) pa_nil))))))))), ?_⟩)
  · obtain ⟨a, b, d, e, rfl, _⟩ := h; rfl
  · obtain ⟨a, b, d, e, rfl, ha, hb, q⟩ := h
    refine ⟨_, rfl, b, _, _, _, rfl, rfl, hb, at_of (j := 1) rfl rfl, _, rfl, b, _, _, _, rfl, rfl, hb, at_of (j := 2) rfl rfl, _, _, rfl, ?_⟩
    refine ⟨_, rfl, a, _, _, _, rfl, rfl, ha, at_of (j := 1) rfl rfl, rfl, _, rfl, ?_⟩
    have fin : ∀ lo hi : Option Int, endBeh e d.low e.low = lo → endBeh e d.high e.high = hi → tRet (tCall spWholeDeed [] E0 (tCons (tOp (rI0 fun i j => V.int (i + j)) (tOp (rIxT K) (tVar 0) (tC (.int 0))) (tOp (rIxT K) (tVar 1) (tC (.int 0)))) (tCons (tVar 2) (tCons (tVar 3) tNil)))) { nx := fun _ H' => Q .non H', rt := Q }
        [some (.ref a), some (.ref b), some (oV lo), some (oV hi)] H := by
      rintro _ _ rfl rfl
      exact ⟨_, rfl, a, _, _, _, rfl, rfl, ha, at_of (j := 0) rfl rfl, _, rfl, b, _, _, _, rfl, rfl, hb, at_of (j := 0) rfl rfl, _, _, rfl, rfl, _, rfl, _, rfl, _, _, _, rfl, q⟩
    have hi : ∀ lo : Option Int, endBeh e d.low e.low = lo → tSeq (tIfS (tTest (tOp (fun x y H Q => y = V.non ∧ Q (V.bl (!decide (x = V.non))) H) (tOp (rIxT K) (tVar 0) (tC (.int 2))) (tC .non))) (tAsg (tCall (spPut K) [] E0 (tCons (tVar 1) (tCons (tOp (rIxT K) (tVar 0) (tC (.int 2))) tNil))) (gName 3)) tNext)
        (tRet (tCall spWholeDeed [] E0 (tCons (tOp (rI0 fun i j => V.int (i + j)) (tOp (rIxT K) (tVar 0) (tC (.int 0))) (tOp (rIxT K) (tVar 1) (tC (.int 0)))) (tCons (tVar 2) (tCons (tVar 3) tNil))))) { nx := fun _ H' => Q .non H', rt := Q }
        [some (.ref a), some (.ref b), some (oV lo), some (oV e.high)] H := by
      intro lo hlo
      refine ⟨_, rfl, a, _, _, _, rfl, rfl, ha, at_of (j := 2) rfl rfl, rfl, _, rfl, ?_⟩
      cases eh : d.high with
      | none => exact iteF (fin lo e.high hlo (by rw [eh] <;> rfl))
      | some k =>
        refine iteT ⟨_, rfl, _, rfl, a, _, _, _, rfl, rfl, ha, at_of (j := 2) rfl rfl, b, e, k, by rw [eh] <;> rfl, hb, ?_⟩
        exact fin lo (some _) hlo (by rw [eh] <;> rfl)
    cases el : d.low with
    | none => exact iteF (hi e.low (by rw [el] <;> rfl))
    | some k =>
      refine iteT ⟨_, rfl, _, rfl, a, _, _, _, rfl, rfl, ha, at_of (j := 1) rfl rfl, b, e, k, by rw [el] <;> rfl, hb, ?_⟩
      exact hi (some _) (by rw [el] <;> rfl)
def spIsBoard (K : PySem.W.Frag) : Sp := fun vs H Q _ => ∃ (b : Addr) (bs : List Int), vs = [.ref b] ∧ BoardAt H b bs ∧ ∀ H', Same H H' → Q (.bl true) H'
theorem k_is_board (D : Df K mg "is_board" s_is_board ["thing"]) (D_is_whole : Dn P w K mg base 1 "is_whole" ["thing"] spIsWhole) : Dn P w K mg base 2 "is_board" ["thing"] (spIsBoard K) := by
  refine D.ok fun f fd F => okG0 F sc_is_board (fun vs H Q E h => ?_) (fun cdv A outer s H vs Q E hr h => ⟨_, (pss_one (ps_ret (pe_and (pe_callB (kk (K := K) (F := rIsi) (P := CallR _ _) call_isi) (by rfl) B.isinstance_ (by decide +kernel) (pa_cons (pv 0) (pa_cons (pe_bltn (v := .ty "tuple") (u := .type "tuple") (by rfl) B.tuple_ (by decide +kernel) rfl) pa_nil))) (pe_and (pe_chain op_le op_le pe_int (pe_callB (lenK (K := K)) (by rfl) B.len_ (by decide +kernel) (pa_cons (pv 0) pa_nil)) (pe_glob (v := .int 16) (u := .int 16 B.MOST_BOXES_.choose) (by rfl) B.MOST_BOXES_.choose_spec ⟨_, rfl⟩)) (pe_one (pe_callB (kk (K := K) (F := rAll) (P := CallR _ _) (cr_all rfl)) (by rfl) B.all_ (by decide +kernel) (pa_cons (pe_lc (own := [("value", 1)]) (g := gName 1) (tt := tYes) rfl sc_is_board.nd (kk (K := K) (F := fun K => iTup K _) (P := PI _ _ _) (pi_tup (pv 0))) (blkOk_by (own := [("value", 1)]) (N := ["thing", "value"]) (sc := defScope s_is_board) (by decide +kernel)) (fun _ _ _ _ _ => (pg_name (i := 1) sc_is_board.nd rfl (Or.inl rfl))) (fun _ _ _ _ _ => pts_nil) (fun _ _ _ _ _ => (pe_cD D_is_whole (hr.less (by decide)) rfl (pa_cons (pv 1) pa_nil)))) pa_nil))))))), ?_⟩)
  · obtain ⟨b, bs, rfl, _⟩ := h; rfl
  · obtain ⟨b, bs, rfl, hb, q⟩ := h
    have hl := hb.2
    refine ⟨_, rfl, _, _, _, _, _, rfl, .ty _, .base (.tup hb.1), kit_ty (b := "tuple") (r := true) (by decide +kernel), _, rfl, iteT ?_⟩
    refine ⟨_, rfl, b, _, rfl, .inr (SqT.of hb.1), ?_⟩
    refine ⟨_, _, rfl, rfl, _, rfl, ifT (by rw [List.length_map]; exact decide_eq_true (by omega)) ?_⟩
    refine ⟨_, _, rfl, rfl, _, rfl, ifT (by rw [List.length_map]; exact decide_eq_true (by omega)) ?_⟩
    refine ⟨_, rfl, b, rfl, ⟨_, SqT.of hb.1⟩, fun D hD => ?_⟩
    refine lc_tup (K := K) (a := b) (xs := bs.map V.int) (fun i H2 => Same H H2 ∧ H2 D = some (.lst ((List.replicate i true).map V.bl))) ⟨same_new hD _, upd_same⟩ (fun i H2 _ h => SqT.of (h.1 _ _ hb.1)) ?_ ?_
    · rintro i y H2 hi ⟨S2, hD2⟩
      obtain ⟨x, rfl, hx⟩ := at_map hi
      have hi2 : i < bs.length := (List.getElem?_eq_some_iff.mp hx).1
      refine ⟨rfl, ?_⟩
      exact ⟨_, rfl, x, rfl, _, hD2, by rw [rep_len]; exact small1000 (by omega), but_same hD S2 But.upd, by rw [upd_same, rep_snoc]⟩
    · rintro H2 ⟨S2, hD2⟩
      refine ⟨D, _, rfl, SqL.of hD2, ?_⟩
      rw [rep_all]
      exact q _ S2
def spWantBoard (K : PySem.W.Frag) : Sp := fun vs H Q _ => ∃ (b : Addr) (bs : List Int), vs = [.ref b] ∧ BoardAt H b bs ∧ ∀ H', Same H H' → Q .non H'
theorem k_want_board (D : Df K mg "want_board" s_want_board ["board"]) (D_is_board : Dn P w K mg base 2 "is_board" ["thing"] (spIsBoard K)) : Dn P w K mg base 3 "want_board" ["board"] (spWantBoard K) := by
  refine D.ok fun f fd F => okG0 F sc_want_board (fun vs H Q E h => ?_) (fun cdv A outer s H vs Q E hr h => ⟨_, (pss_one (ps_if (pt_not (pt_val (pe_cD D_is_board (hr.less (by decide)) rfl (pa_cons (pv 0) pa_nil))))
     (pss_one ps_never)
     pss_nil)), ?_⟩)
  · obtain ⟨b, bs, rfl, _⟩ := h; rfl
  · obtain ⟨b, bs, rfl, hb, q⟩ := h
    exact ⟨_, rfl, b, bs, rfl, hb, fun H' S => ⟨_, rfl, iteF (q _ S)⟩⟩
def spIsAsk (K : PySem.W.Frag) : Sp := fun vs H Q _ => ∃ (b : Addr) (bs : List Int) (x : Ak), vs = [.ref b, .ref x.a] ∧ BoardAt H b bs ∧ x.at_ H bs.length ∧ Q (.bl true) H
theorem k_is_ask (D : Df K mg "is_ask" s_is_ask ["board", "thing"]) (D_is_whole : Dn P w K mg base 1 "is_whole" ["thing"] spIsWhole) (D_is_deed : Dn P w K mg base 3 "is_deed" ["thing"] (spIsDeed K)) : Dn P w K mg base 4 "is_ask" ["board", "thing"] (spIsAsk K) := by
  refine D.ok fun f fd F => okG0 F sc_is_ask (fun vs H Q E h => ?_) (fun cdv A outer s H vs Q E hr h => ⟨_, (pss_cons (ps_if (PW.pt (pw_or (pt_not (pt_val (pe_callB (kk (K := K) (F := rIsi) (P := CallR _ _) call_isi) (by rfl) B.isinstance_ (by decide +kernel) (pa_cons (pv 1) (pa_cons (pe_bltn (v := .ty "tuple") (u := .type "tuple") (by rfl) B.tuple_ (by decide +kernel) rfl) pa_nil))))) (pw_or (pt_cmpR op_ne (pe_callB (lenK (K := K)) (by rfl) B.len_ (by decide +kernel) (pa_cons (pv 1) pa_nil)) pe_int (nomark _)) (pw_or (pt_not (pt_val (pe_cD D_is_whole (hr.less (by decide)) rfl (pa_cons (pe_ix (kk (K := K) (F := rIxT) (P := IxR _) ix_tup) (pv 1) pe_int (fun _ _ => rfl)) pa_nil)))) (pw_or1 (pt_not (pt_val (pe_cD D_is_whole (hr.less (by decide)) rfl (pa_cons (pe_ix (kk (K := K) (F := rIxT) (P := IxR _) ix_tup) (pv 1) pe_int (fun _ _ => rfl)) pa_nil)))))))))
      (pss_one (ps_ret pe_bl))
      pss_nil)
    (pss_one (ps_ret (pe_and (pe_chain op_le op_lt pe_int (pe_ix (kk (K := K) (F := rIxT) (P := IxR _) ix_tup) (pv 1) pe_int (fun _ _ => rfl)) (pe_glob (v := .int 16) (u := .int 16 B.HANDS_.choose) (by rfl) B.HANDS_.choose_spec ⟨_, rfl⟩)) (pe_and (pe_chain op_le op_lt pe_int (pe_ix (kk (K := K) (F := rIxT) (P := IxR _) ix_tup) (pv 1) pe_int (fun _ _ => rfl)) (pe_callB (lenK (K := K)) (by rfl) B.len_ (by decide +kernel) (pa_cons (pv 0) pa_nil))) (pe_one (pe_cD D_is_deed (hr.less (by decide)) rfl (pa_cons (pe_ix (kk (K := K) (F := rIxT) (P := IxR _) ix_tup) (pv 1) pe_int (fun _ _ => rfl)) pa_nil)))))))), ?_⟩)
  · obtain ⟨b, bs, x, rfl, _⟩ := h; rfl
  · obtain ⟨b, bs, x, rfl, hb, hx, q⟩ := h
    obtain ⟨hxa, hxd, h0, h1, hbx⟩ := hx
    refine ⟨_, rfl, _, _, _, _, _, rfl, .ty _, .base (.tup hxa), kit_ty (b := "tuple") (r := true) (by decide +kernel), _, rfl, iteF ?_⟩
    refine ⟨_, rfl, _, _, rfl, .inr (SqT.of hxa), rfl, _, rfl, iteF ?_⟩
    refine ⟨_, rfl, x.a, _, _, _, rfl, rfl, SqT.of hxa, at_of (j := 0) rfl rfl, _, rfl, _, rfl, iteF ?_⟩
    refine ⟨_, rfl, x.a, _, _, _, rfl, rfl, SqT.of hxa, at_of (j := 1) rfl rfl, _, rfl, _, rfl, iteF ?_⟩
    refine ⟨_, rfl, x.a, _, _, _, rfl, rfl, SqT.of hxa, at_of (j := 0) rfl rfl, ?_⟩
    refine ⟨_, _, rfl, rfl, _, rfl, ifT (decide_eq_true h0) ?_⟩
    refine ⟨_, _, rfl, rfl, _, rfl, ifT (decide_eq_true h1) ?_⟩
    refine ⟨_, rfl, x.a, _, _, _, rfl, rfl, SqT.of hxa, at_of (j := 1) rfl rfl, ?_⟩
    refine ⟨_, _, rfl, rfl, _, rfl, ifT (decide_eq_true (by omega)) ?_⟩
    refine ⟨_, rfl, b, _, rfl, .inr (SqT.of hb.1), ?_⟩
    refine ⟨_, _, rfl, rfl, _, rfl, ifT (decide_eq_true (by rw [List.length_map]; omega)) ?_⟩
    exact ⟨_, rfl, x.a, _, _, _, rfl, rfl, SqT.of hxa, at_of (j := 2) rfl rfl, x.da, x.d, rfl, hxd.arg, q⟩
def spAreAsks (K : PySem.W.Frag) : Sp := fun vs H Q _ => ∃ (b k : Addr) (bs : List Int) (as : List Ak), vs = [.ref b, .ref k] ∧ BoardAt H b bs ∧ AsksAt H k as bs.length ∧ ∀ H', Same H H' → Q (.bl true) H'
theorem k_are_asks (D : Df K mg "are_asks" s_are_asks ["board", "thing"]) (D_want_board : Dn P w K mg base 3 "want_board" ["board"] (spWantBoard K)) (D_is_ask : Dn P w K mg base 4 "is_ask" ["board", "thing"] (spIsAsk K)) : Dn P w K mg base 5 "are_asks" ["board", "thing"] (spAreAsks K) := by
  refine D.ok fun f fd F => okG0 F sc_are_asks (fun vs H Q E h => ?_) (fun cdv A outer s H vs Q E hr h => ⟨_, (pss_cons (ps_expr (pe_cD D_want_board (hr.less (by decide)) rfl (pa_cons (pv 0) pa_nil)))
    (pss_one (ps_ret (pe_and (pe_callB (kk (K := K) (F := rIsi) (P := CallR _ _) call_isi) (by rfl) B.isinstance_ (by decide +kernel) (pa_cons (pv 1) (pa_cons (pe_bltn (v := .ty "tuple") (u := .type "tuple") (by rfl) B.tuple_ (by decide +kernel) rfl) pa_nil))) (pe_one (pe_callB (kk (K := K) (F := rAll) (P := CallR _ _) (cr_all rfl)) (by rfl) B.all_ (by decide +kernel) (pa_cons (pe_lc (own := [("one", 2)]) (g := gName 2) (tt := tYes) rfl sc_are_asks.nd (kk (K := K) (F := fun K => iTup K _) (P := PI _ _ _) (pi_tup (pv 1))) (blkOk_by (own := [("one", 2)]) (N := ["board", "thing", "one"]) (sc := defScope s_are_asks) (by decide +kernel)) (fun _ _ _ _ _ => (pg_name (i := 2) sc_are_asks.nd rfl (Or.inl rfl))) (fun _ _ _ _ _ => pts_nil) (fun _ _ _ _ _ => (pe_cD D_is_ask (hr.less (by decide)) rfl (pa_cons (pv 0) (pa_cons (pv 2) pa_nil))))) pa_nil))))))), ?_⟩)
  · obtain ⟨b, k, bs, as, rfl, _⟩ := h; rfl
  · obtain ⟨b, k, bs, as, rfl, hb, hk, q⟩ := h
    refine ⟨_, rfl, b, bs, rfl, hb, fun H1 S1 => ?_⟩
    have hk1 := hk.same S1
    refine ⟨_, rfl, _, _, _, _, _, rfl, .ty _, .base (.tup hk1.1), kit_ty (b := "tuple") (r := true) (by decide +kernel), _, rfl, iteT ?_⟩
    refine ⟨_, rfl, k, rfl, ⟨_, SqT.of hk1.1⟩, fun D hD => ?_⟩
    refine lc_tup (K := K) (a := k) (xs := as.map fun x => .ref x.a) (fun i H2 => Same H1 H2 ∧ H2 D = some (.lst ((List.replicate i true).map V.bl))) ⟨same_new hD _, upd_same⟩ (fun i H2 _ h => SqT.of (h.1 _ _ hk1.1)) ?_ ?_
    · rintro i y H2 hi ⟨S2, hD2⟩
      rw [List.getElem?_map] at hi
      obtain ⟨x, hx, rfl⟩ := Option.map_eq_some_iff.mp hi
      have hi2 : i < as.length := (List.getElem?_eq_some_iff.mp hx).1
      have hl := hk.2.1
      refine ⟨rfl, ?_⟩
      exact ⟨_, rfl, _, rfl, b, bs, x, rfl, (hb.same S1).same S2, ((hk1.2.2 x (List.mem_of_getElem? hx)).same S2), _, hD2, by rw [rep_len]; exact small1000 (by omega), but_same hD S2 But.upd, by rw [upd_same, rep_snoc]⟩
    · rintro H2 ⟨S2, hD2⟩
      refine ⟨D, _, rfl, SqL.of hD2, ?_⟩
      rw [rep_all]
      exact q _ (S1.trans S2)
def spWantAsks (K : PySem.W.Frag) : Sp := fun vs H Q _ => ∃ (b k : Addr) (bs : List Int) (as : List Ak), vs = [.ref b, .ref k] ∧ BoardAt H b bs ∧ AsksAt H k as bs.length ∧ ∀ H', Same H H' → Q .non H'
theorem k_want_asks (D : Df K mg "want_asks" s_want_asks ["board", "asks"]) (D_are_asks : Dn P w K mg base 5 "are_asks" ["board", "thing"] (spAreAsks K)) : Dn P w K mg base 6 "want_asks" ["board", "asks"] (spWantAsks K) := by
  refine D.ok fun f fd F => okG0 F sc_want_asks (fun vs H Q E h => ?_) (fun cdv A outer s H vs Q E hr h => ⟨_, (pss_one (ps_if (pt_not (pt_val (pe_cD D_are_asks (hr.less (by decide)) rfl (pa_cons (pv 0) (pa_cons (pv 1) pa_nil)))))
     (pss_one ps_never)
     pss_nil)), ?_⟩)
  · obtain ⟨b, k, bs, as, rfl, _⟩ := h; rfl
  · obtain ⟨b, k, bs, as, rfl, hb, hk, q⟩ := h
    exact ⟨_, rfl, _, rfl, b, k, bs, as, rfl, hb, hk, fun H' S => ⟨_, rfl, iteF (q _ S)⟩⟩
def spPlay (K : PySem.W.Frag) : Sp := fun vs H Q _ => ∃ (b k : Addr) (bs : List Int) (as : List Ak), vs = [.ref b, .ref k] ∧ BoardAt H b bs ∧ AsksAt H k as bs.length ∧
  ∀ r t1 t2 H', Same H H' → H' r = some (.tup [.ref t1, .ref t2]) → H' t1 = some (.tup ((play as bs).1.map V.int)) → H' t2 = some (.tup ((play as bs).2.map V.int)) → Q (.ref r) H'
theorem k_played (D : Df K mg "played" s_played ["board", "asks"]) (D_want_asks : Dn P w K mg base 6 "want_asks" ["board", "asks"] (spWantAsks K)) (D_put_through : Dn P w K mg base 1 "put_through" ["deed", "value"] (spPut K)) : Dn P w K mg base 7 "played" ["board", "asks"] (spPlay K) := by
  refine D.ok fun f fd F => okG0 F sc_played (fun vs H Q E h => ?_) (fun cdv A outer s H vs Q E hr h => ⟨_, (pss_cons (ps_expr (pe_cD D_want_asks (hr.less (by decide)) rfl (pa_cons (pv 0) (pa_cons (pv 1) pa_nil))))
    (pss_cons (ps_set (i := 2) sc_played.nd rfl (Or.inl rfl) (pe_callTy (lstOfK (K := K)) (by rfl) B.list_ (by decide +kernel) (pa_cons (pv 0) pa_nil)))
    (pss_cons (ps_set (i := 3) sc_played.nd rfl (Or.inl rfl) (pe_lst pa_nil))
    (pss_cons (ps_for PassesOwn.never rfl (kk (K := K) (F := fun K => iTup K _) (P := PI _ _ _) (pi_tup (pv 1))) (kk (K := K) (F := fun K => gTup K _ _) (P := PG _ _) (pg_tup rfl (pgs_cons (pg_name (i := 4) sc_played.nd rfl (Or.inl rfl)) (pgs_cons (pg_name (i := 5) sc_played.nd rfl (Or.inl rfl)) (pgs_cons (pg_name (i := 6) sc_played.nd rfl (Or.inl rfl)) pgs_nil)))))
      (pss_cons (ps_expr (kk (K := K) (F := fun K => tBM K "list" _ _ _) (P := PE _ _) (pe_bm PySem.F.plainAttrs_list PySem.F.slot_list_append PySem.F.type_list_append mt_append (pv 3) (pa_cons (pe_ix (kk (K := K) (F := rIxL) (P := IxR _) ix_list) (pv 2) (pv 5) (fun _ _ => rfl)) pa_nil))))
      (pss_one (ps_asg (pe_cD D_put_through (hr.less (by decide)) rfl (pa_cons (pv 6) (pa_cons (pe_ix (kk (K := K) (F := rIxL) (P := IxR _) ix_list) (pv 2) (pv 5) (fun _ _ => rfl)) pa_nil))) (pg_sub (pv 2) (pv 5) set_list)))))
    (pss_one (ps_ret (pe_tup (pa_cons (pe_callTy (tupOfK (K := K)) (by rfl) B.tuple_ (by decide +kernel) (pa_cons (pv 3) pa_nil)) (pa_cons (pe_callTy (tupOfK (K := K)) (by rfl) B.tuple_ (by decide +kernel) (pa_cons (pv 2) pa_nil)) pa_nil))))))))), ?_⟩)
  · obtain ⟨b, k, bs, as, rfl, _⟩ := h; rfl
  · obtain ⟨b, k, bs, as, rfl, hb, hk, q⟩ := h
    refine ⟨_, rfl, _, rfl, b, k, bs, as, rfl, hb, hk, fun H1 S1 => ?_⟩
    have hb1 := hb.same S1
    have hk1 := hk.same S1
    refine ⟨_, rfl, b, _, rfl, .inr (SqT.of hb1.1), fun L hL => ⟨sz, fun M hM => ?_⟩⟩
    have S0 := S1
    have nLM : L ≠ M := ne_of_none upd_same hM
    have hM0 := (same_new hL (.lst (bs.map V.int))).free hM
    refine ⟨_, rfl, k, rfl, ⟨_, SqT.of ((same_new hM _) _ _ ((same_new hL _) _ _ hk1.1))⟩, ?_⟩
    refine for_tup (K := K) (a := k) (xs := as.map fun x => .ref x.a) (fun i σ H2 => ∃ v4 v5 v6 : Option V, σ = [some (.ref b), some (.ref k), some (.ref L), some (.ref M), v4, v5, v6] ∧ Same H1 H2 ∧ H2 L = some (.lst ((play (as.take i) bs).2.map V.int)) ∧ H2 M = some (.lst ((play (as.take i) bs).1.map V.int)))
      ⟨none, none, none, rfl, (same_new hL _).trans (same_new hM _), by rw [upd_ne nLM, upd_same] <;> rfl, upd_same⟩ (fun i σ H2 _ h => by obtain ⟨_, _, _, _, h2, _⟩ := h; exact SqT.of (h2 _ _ hk1.1)) ?_ ?_
    · rintro i y σ H2 hi ⟨v4, v5, v6, rfl, S2, hL2, hM2⟩
      rw [List.getElem?_map] at hi
      obtain ⟨x, hx, rfl⟩ := Option.map_eq_some_iff.mp hi
      have hil : i < as.length := (List.getElem?_eq_some_iff.mp hx).1
      obtain ⟨l1, l2⟩ := play_len (as := as.take i) (bs := bs)
      rw [play_snoc hx]
      generalize play (as.take i) bs = st at hL2 hM2 l1 l2
      have hx1 := (hk1.2.2 x (List.mem_of_getElem? hx)).same S2
      have hbx : x.box < st.2.length := by rw [l2]; exact hx1.2.2.2.2
      have h40 := hk.2.1
      have l1' : st.1.length ≤ 40 := by rw [l1, List.length_take]; omega
      refine ⟨x.a, _, rfl, SqT.of hx1.1, rfl, _, _, rfl, _, _, rfl, _, _, rfl, rfl, ?_⟩
      refine ⟨_, rfl, .inl ⟨rfl, _, SqL.of hM2⟩, _, rfl, _, rfl, L, _, _, _, rfl, rfl, SqL.of hL2, at_of (j := x.box) rfl (map_getD hbx), M, _, _, rfl, rfl, hM2, small1000 (by rw [List.length_map]; omega), ?_⟩
      have hL3 : (upd H2 M (.lst (st.1.map V.int ++ [.int (st.2.getD x.box 0)]))) L = some (.lst (st.2.map V.int)) := by rw [upd_ne nLM]; exact hL2
      have hda : x.da ≠ M := ne_of hx1.2.1.1 hM2 (by intro z; cases z)
      refine ⟨_, rfl, _, rfl, _, rfl, L, _, _, _, rfl, rfl, SqL.of hL3, at_of (j := x.box) rfl (map_getD hbx), x.da, x.d, _, rfl, SqT.of (by rw [upd_ne hda]; exact hx1.2.1.1), ?_⟩
      refine ⟨_, rfl, _, rfl, L, _, _, _, rfl, rfl, hL3, ixn (by rw [List.length_map]; exact hbx), ?_⟩
      refine ⟨_, _, _, rfl, ?_, ?_, ?_⟩
      · exact fun a o ha => by rw [upd_ne (ne_of_none ha hL), upd_ne (ne_of_none ha hM0)]; exact S2 _ _ ha
      · rw [upd_same, ← List.map_set] <;> rfl
      · rw [upd_ne nLM.symm, upd_same, show (stepP st x).1 = st.1 ++ [st.2.getD x.box 0] from rfl, List.map_append] <;> rfl
    · rintro σ H2 ⟨v4, v5, v6, rfl, S2, hL2, hM2⟩
      rw [List.length_map, List.take_length] at hL2 hM2
      refine ⟨_, rfl, M, _, rfl, .inl ⟨SqL.of hM2, fun t1 ht1 => ?_⟩⟩
      have S3 := same_new ht1 (.tup ((play as bs).1.map V.int))
      refine ⟨_, rfl, L, _, rfl, .inl ⟨SqL.of (S3 _ _ hL2), fun t2 ht2 => ⟨sz, fun r hr => ?_⟩⟩⟩
      have S4 := same_new ht2 (.tup ((play as bs).2.map V.int))
      have S5 := same_new hr (.tup [.ref t1, .ref t2])
      exact q r t1 t2 _ (S0.trans (S2.trans (S3.trans (S4.trans S5)))) upd_same (S5 _ _ (S4 _ _ upd_same)) (S5 _ _ upd_same)
def spAll (K : PySem.W.Frag) : Sp := fun vs H Q _ => ∃ (b k : Addr) (bs : List Int) (as : List Ak), vs = [.ref b, .ref k] ∧ BoardAt H b bs ∧ AsksAt H k as bs.length ∧
  ∀ (T : Addr) (ps : List (Addr × Dd)) (H' : Hp), Same H H' → H' T = some (.tup (ps.map fun x => V.ref x.1)) → dsOf ps = (madeOf as bs.length).2 → RefsAt K H' ps → Q (.ref T) H'
theorem k_all_of (D : Df K mg "all_of" s_all_of ["board", "asks"]) (D_want_asks : Dn P w K mg base 6 "want_asks" ["board", "asks"] (spWantAsks K)) (D_one_behind : Dn P w K mg base 2 "one_behind" ["one", "other"] (spBehind K)) : Dn P w K mg base 7 "all_of" ["board", "asks"] (spAll K) := by
  refine D.ok fun f fd F => okG0 F sc_all_of (fun vs H Q E h => ?_) (fun cdv A outer s H vs Q E hr h => ⟨_, (pss_cons (ps_expr (pe_cD D_want_asks (hr.less (by decide)) rfl (pa_cons (pv 0) (pa_cons (pv 1) pa_nil))))
    (pss_cons (ps_set (i := 2) sc_all_of.nd rfl (Or.inl rfl) (pe_op op_rep (pe_lst (pa_cons (pe_glob (v := .ref B.LOOK_.choose) (by rfl) B.LOOK_.choose_spec.1 rfl) pa_nil)) (pe_callB (lenK (K := K)) (by rfl) B.len_ (by decide +kernel) (pa_cons (pv 0) pa_nil))))
    (pss_cons (ps_for PassesOwn.never rfl (kk (K := K) (F := fun K => iTup K _) (P := PI _ _ _) (pi_tup (pv 1))) (kk (K := K) (F := fun K => gTup K _ _) (P := PG _ _) (pg_tup rfl (pgs_cons (pg_name (i := 3) sc_all_of.nd rfl (Or.inl rfl)) (pgs_cons (pg_name (i := 4) sc_all_of.nd rfl (Or.inl rfl)) (pgs_cons (pg_name (i := 5) sc_all_of.nd rfl (Or.inl rfl)) pgs_nil)))))
      (pss_one (ps_asg (pe_cD D_one_behind (hr.less (by decide)) rfl (pa_cons (pe_ix (kk (K := K) (F := rIxL) (P := IxR _) ix_list) (pv 2) (pv 4) (fun _ _ => rfl)) (pa_cons (pv 5) pa_nil))) (pg_sub (pv 2) (pv 4) set_list))))
    (pss_one (ps_ret (pe_callTy (tupOfK (K := K)) (by rfl) B.tuple_ (by decide +kernel) (pa_cons (pv 2) pa_nil))))))), ?_⟩)
  · obtain ⟨b, k, bs, as, rfl, _⟩ := h; rfl
  · obtain ⟨b, k, bs, as, rfl, hb, hk, q⟩ := h
    refine ⟨_, rfl, _, rfl, b, k, bs, as, rfl, hb, hk, fun H1 S1 => ?_⟩
    have hb1 := hb.same S1
    have hk1 := hk.same S1
    have hn := hb.2
    refine ⟨sz, fun l hl => ⟨_, rfl, b, _, rfl, .inr (SqT.of ((same_new hl _) _ _ hb1.1)), l, _, _, rfl, rfl, upd_same, by omega, by rw [List.length_map]; omega, small (by rw [List.length_map]; show 1 * _ ≤ 1000; omega), fun L hL => ?_⟩⟩
    rw [List.length_map, show ((bs.length : Nat) : Int).toNat = bs.length from Int.toNat_natCast _, refs_new] at *
    have S2 := same_new hl (.lst [.ref B.LOOK_.choose])
    have S3 := same_new hL (.lst (List.replicate bs.length (V.ref B.LOOK_.choose)))
    have S13 := S2.trans S3
    have hL1 : H1 L = none := S2.free hL
    have hL3 : (upd (upd H1 l (.lst [.ref B.LOOK_.choose])) L (.lst (List.replicate bs.length (V.ref B.LOOK_.choose)))) L = some (.lst ((List.replicate bs.length (B.LOOK_.choose, look)).map fun x => V.ref x.1)) := by rw [upd_same, List.map_replicate]
    generalize upd (upd H1 l (.lst [.ref B.LOOK_.choose])) L (.lst (List.replicate bs.length (V.ref B.LOOK_.choose))) = H3 at S13 hL3
    refine ⟨_, rfl, k, rfl, ⟨_, SqT.of (S13 _ _ hk1.1)⟩, ?_⟩
    refine for_tup (K := K) (a := k) (xs := as.map fun x => .ref x.a) (fun i σ H4 => ∃ (ps : List (Addr × Dd)) (v3 v4 v5 : Option V), σ = [some (.ref b), some (.ref k), some (.ref L), v3, v4, v5] ∧ Same H1 H4 ∧ H4 L = some (.lst (ps.map fun x => V.ref x.1)) ∧ dsOf ps = (madeOf (as.take i) bs.length).2 ∧ RefsAt K H4 ps)
      ⟨_, none, none, none, rfl, S13, hL3, by unfold dsOf; rw [List.map_replicate] <;> rfl, fun x hx => by rw [(List.mem_replicate.mp hx).2]; exact .inr B.LOOK_.choose_spec.2⟩ (fun i σ H4 _ h => by obtain ⟨_, _, _, _, _, h2, _⟩ := h; exact SqT.of (h2 _ _ hk1.1)) ?_ ?_
    · rintro i y σ H4 hi ⟨ps, v3, v4, v5, rfl, S4, hL4, hds, hps⟩
      rw [List.getElem?_map] at hi
      obtain ⟨x, hx, rfl⟩ := Option.map_eq_some_iff.mp hi
      have l2 := (made_len (as := as.take i) (n := bs.length)).2
      rw [made_snoc hx]
      generalize madeOf (as.take i) bs.length = st at hds l2
      have hx1 := (hk1.2.2 x (List.mem_of_getElem? hx)).same S4
      have hlp : ps.length = bs.length := by rw [← l2, ← hds]; unfold dsOf; rw [List.length_map]
      obtain ⟨y, hy, hym, hyd, hyr⟩ := refs_get (ps := ps) (i := x.box) (by rw [hlp]; exact hx1.2.2.2.2)
      refine ⟨x.a, _, rfl, SqT.of hx1.1, rfl, _, _, rfl, _, _, rfl, _, _, rfl, rfl, ?_⟩
      refine ⟨_, rfl, _, rfl, L, _, _, _, rfl, rfl, SqL.of hL4, at_of (j := x.box) rfl hyr, _, rfl, y.1, x.da, y.2, x.d, rfl, hps y hym, SqT.of hx1.2.1.1, fun c H5 S5 _ hc => ?_⟩
      have hL5 := S5 _ _ hL4
      refine ⟨_, rfl, _, rfl, L, _, _, _, rfl, rfl, hL5, ixn (by rw [List.length_map, hlp]; exact hx1.2.2.2.2), ?_⟩
      refine ⟨ps.set x.box (c, beh y.2 x.d), _, _, _, rfl, ?_, ?_, ?_, refs_set hL5 (hps.same S5) hc⟩
      · exact fun a o ha => by rw [upd_ne (ne_of_none ha hL1)]; exact S5 _ _ (S4 _ _ ha)
      · rw [upd_same, List.map_set] <;> rfl
      · unfold dsOf
        rw [List.map_set]
        show (dsOf ps).set x.box (beh y.2 x.d) = st.2.set x.box (beh (st.2.getD x.box look) x.d)
        rw [hyd, hds]
    · rintro σ H4 ⟨ps, v3, v4, v5, rfl, S4, hL4, hds, hps⟩
      rw [List.length_map, List.take_length] at hds
      refine ⟨_, rfl, L, _, rfl, .inl ⟨SqL.of hL4, fun T hT => ?_⟩⟩
      have S5 := same_new hT (.tup (ps.map fun x => V.ref x.1))
      exact q T ps _ (S1.trans (S4.trans S5)) upd_same hds (hps.same S5)
def spAhead (K : PySem.W.Frag) : Sp := fun vs H Q _ => ∃ (b k : Addr) (bs : List Int) (as : List Ak), vs = [.ref b, .ref k] ∧ BoardAt H b bs ∧ AsksAt H k as bs.length ∧
  ∀ (T : Addr) (ps : List (Addr × Dd)) (H' : Hp), Same H H' → H' T = some (.tup (ps.map fun x => V.ref x.1)) → dsOf ps = (madeOf as bs.length).1 → RefsAt K H' ps → Q (.ref T) H'
theorem k_ahead_of (D : Df K mg "ahead_of" s_ahead_of ["board", "asks"]) (D_want_asks : Dn P w K mg base 6 "want_asks" ["board", "asks"] (spWantAsks K)) (D_one_behind : Dn P w K mg base 2 "one_behind" ["one", "other"] (spBehind K)) : Dn P w K mg base 7 "ahead_of" ["board", "asks"] (spAhead K) := by
  refine D.ok fun f fd F => okG0 F sc_ahead_of (fun vs H Q E h => ?_) (fun cdv A outer s H vs Q E hr h => ⟨_, (pss_cons (ps_expr (pe_cD D_want_asks (hr.less (by decide)) rfl (pa_cons (pv 0) (pa_cons (pv 1) pa_nil))))
    (pss_cons (ps_set (i := 2) sc_ahead_of.nd rfl (Or.inl rfl) (pe_op op_rep (pe_lst (pa_cons (pe_glob (v := .ref B.LOOK_.choose) (by rfl) B.LOOK_.choose_spec.1 rfl) pa_nil)) (pe_callB (lenK (K := K)) (by rfl) B.len_ (by decide +kernel) (pa_cons (pv 0) pa_nil))))
    (pss_cons (ps_set (i := 3) sc_ahead_of.nd rfl (Or.inl rfl) (pe_lst pa_nil))
    (pss_cons (ps_for PassesOwn.never rfl (kk (K := K) (F := fun K => iTup K _) (P := PI _ _ _) (pi_tup (pv 1))) (kk (K := K) (F := fun K => gTup K _ _) (P := PG _ _) (pg_tup rfl (pgs_cons (pg_name (i := 4) sc_ahead_of.nd rfl (Or.inl rfl)) (pgs_cons (pg_name (i := 5) sc_ahead_of.nd rfl (Or.inl rfl)) (pgs_cons (pg_name (i := 6) sc_ahead_of.nd rfl (Or.inl rfl)) pgs_nil)))))
      (pss_cons (ps_expr (kk (K := K) (F := fun K => tBM K "list" _ _ _) (P := PE _ _) (pe_bm PySem.F.plainAttrs_list PySem.F.slot_list_append PySem.F.type_list_append mt_append (pv 3) (pa_cons (pe_ix (kk (K := K) (F := rIxL) (P := IxR _) ix_list) (pv 2) (pv 5) (fun _ _ => rfl)) pa_nil))))
      (pss_one (ps_asg (pe_cD D_one_behind (hr.less (by decide)) rfl (pa_cons (pe_ix (kk (K := K) (F := rIxL) (P := IxR _) ix_list) (pv 2) (pv 5) (fun _ _ => rfl)) (pa_cons (pv 6) pa_nil))) (pg_sub (pv 2) (pv 5) set_list)))))
    (pss_one (ps_ret (pe_callTy (tupOfK (K := K)) (by rfl) B.tuple_ (by decide +kernel) (pa_cons (pv 3) pa_nil)))))))), ?_⟩)
  · obtain ⟨b, k, bs, as, rfl, _⟩ := h; rfl
  · obtain ⟨b, k, bs, as, rfl, hb, hk, q⟩ := h
    refine ⟨_, rfl, _, rfl, b, k, bs, as, rfl, hb, hk, fun H1 S1 => ?_⟩
    have hb1 := hb.same S1
    have hk1 := hk.same S1
    have hn := hb.2
    refine ⟨sz, fun l hl => ⟨_, rfl, b, _, rfl, .inr (SqT.of ((same_new hl _) _ _ hb1.1)), l, _, _, rfl, rfl, upd_same, by omega, by rw [List.length_map]; omega, small (by rw [List.length_map]; show 1 * _ ≤ 1000; omega), fun L hL => ?_⟩⟩
    rw [List.length_map, show ((bs.length : Nat) : Int).toNat = bs.length from Int.toNat_natCast _, refs_new] at *
    have S2 := same_new hl (.lst [.ref B.LOOK_.choose])
    have S3 := same_new hL (.lst (List.replicate bs.length (V.ref B.LOOK_.choose)))
    have S13 := S2.trans S3
    have hL1 : H1 L = none := S2.free hL
    have hL3 : (upd (upd H1 l (.lst [.ref B.LOOK_.choose])) L (.lst (List.replicate bs.length (V.ref B.LOOK_.choose)))) L = some (.lst ((List.replicate bs.length (B.LOOK_.choose, look)).map fun x => V.ref x.1)) := by rw [upd_same, List.map_replicate]
    generalize upd (upd H1 l (.lst [.ref B.LOOK_.choose])) L (.lst (List.replicate bs.length (V.ref B.LOOK_.choose))) = H3 at S13 hL3
    refine ⟨sz, fun M hM => ?_⟩
    have hM1 : H1 M = none := S13.free hM
    have nLM : L ≠ M := ne_of_none hL3 hM
    have S14 := S13.trans (same_new hM (.lst []))
    refine ⟨_, rfl, k, rfl, ⟨_, SqT.of (S14 _ _ hk1.1)⟩, ?_⟩
    refine for_tup (K := K) (a := k) (xs := as.map fun x => .ref x.a) (fun i σ H4 => ∃ (v3 v4 v5 : Option V), σ = [some (.ref b), some (.ref k), some (.ref L), some (.ref M), v3, v4, v5] ∧ Same H1 H4 ∧ MadeAt K H4 L M (madeOf (as.take i) bs.length))
      ⟨none, none, none, rfl, S14, MadeAt.new (by rw [upd_ne nLM]; exact hL3) upd_same fun x hx => by rw [(List.mem_replicate.mp hx).2]; exact .inr B.LOOK_.choose_spec.2⟩ (fun i σ H4 _ h => by obtain ⟨_, _, _, _, h2, _⟩ := h; exact SqT.of (h2 _ _ hk1.1)) ?_ ?_
    · rintro i y σ H4 hi ⟨v3, v4, v5, rfl, S4, hm⟩
      rw [List.getElem?_map] at hi
      obtain ⟨x, hx, rfl⟩ := Option.map_eq_some_iff.mp hi
      have hx1 := (hk1.2.2 x (List.mem_of_getElem? hx)).same S4
      have hil : i < as.length := (List.getElem?_eq_some_iff.mp hx).1
      have h40 := hk.2.1
      rw [made_snoc hx]
      obtain ⟨l1, l2⟩ := made_len (as := as.take i) (n := bs.length)
      have l1' : (madeOf (as.take i) bs.length).1.length ≤ 40 := by rw [l1, List.length_take]; omega
      generalize madeOf (as.take i) bs.length = st at hm l2 l1'
      obtain ⟨y, ey, hy, hyM, fin⟩ := hm.turn (x := x) (by rw [l2]; exact hx1.2.2.2.2)
      refine ⟨x.a, _, rfl, SqT.of hx1.1, rfl, _, _, rfl, _, _, rfl, _, _, rfl, rfl, ?_⟩
      obtain ⟨ps1, ps2, hM4, hL4, e1, e2, r1, r2⟩ := id hm
      refine ⟨_, rfl, .inl ⟨rfl, _, SqL.of hM4⟩, _, rfl, _, rfl, L, _, _, _, rfl, rfl, SqL.of hL4, at_of (j := x.box) rfl (ey _ hL4), M, _, _, rfl, rfl, hM4, small1000 (by rw [List.length_map, dsOf_len e1]; omega), ?_⟩
      have b1 : But M H4 (upd H4 M (.lst (ps1.map (fun x => V.ref x.1) ++ [V.ref y.1]))) := But.upd
      have hL5 := b1 _ _ nLM hL4
      refine ⟨_, rfl, _, rfl, L, _, _, _, rfl, rfl, SqL.of hL5, at_of (j := x.box) rfl (ey _ hL4), _, rfl, y.1, x.da, y.2, x.d, rfl, but_tup b1 hM4 hy, but_tup b1 hM4 (SqT.of hx1.2.1.1), fun c H5 S5 _ hc => ?_⟩
      have hL6 := S5 _ _ hL5
      refine ⟨_, rfl, _, rfl, L, _, _, _, rfl, rfl, hL6, ixn (by rw [List.length_map, dsOf_len e2, l2]; exact hx1.2.2.2.2), ?_⟩
      refine ⟨_, _, _, rfl, fun a o ha => ?_, ?_⟩
      · rw [upd_ne (ne_of_none ha hL1)]
        exact S5 _ _ (by rw [upd_ne (ne_of_none ha hM1)]; exact S4 _ _ ha)
      · exact fin ps1 ps2 _ c nLM e1 e2 r1 r2 hM4 S5 hL6 hc
    · rintro σ H4 ⟨v3, v4, v5, rfl, S4, hm⟩
      rw [List.length_map, List.take_length] at hm
      obtain ⟨ps1, ps2, hM4, hL4, e1, e2, r1, r2⟩ := hm
      refine ⟨_, rfl, M, _, rfl, .inl ⟨SqL.of hM4, fun T hT => ?_⟩⟩
      have S5 := same_new hT (.tup (ps1.map fun x => V.ref x.1))
      exact q T ps1 _ (S1.trans (S4.trans S5)) upd_same e1 (r1.same S5)
/-! ### the law's own -/
def spPot2 (K : PySem.W.Frag) : Sp := fun vs H Q _ => ∃ (a : Addr) (ns : List Int) (k : Nat), vs = [.ref a, .int k] ∧ SqL K H a (ns.map V.int) ∧ k ≤ 60 ∧ ∀ p H', H p = none → Same H H' → PotAt H' p → Q (.ref p) H'
theorem k__law_pot (D : Df K mg "_law_pot" s__law_pot ["_law_script", "_law_k"]) : Dn P w K mg base 1 "_law_pot" ["_law_script", "_law_k"] (spPot2 K) := by
  refine D.ok fun f fd F => okG0 F sc__law_pot (fun vs H Q E h => ?_) (fun cdv A outer s H vs Q E hr h => ⟨_, (pss_cons (ps_set (i := 2) sc__law_pot.nd rfl (Or.inl rfl) (pe_lst (pa_cons pe_int (pa_cons pe_int (pa_cons pe_int (pa_cons pe_int (pa_cons pe_int (pa_cons pe_int (pa_cons pe_int (pa_cons pe_int pa_nil))))))))))
    (pss_cons (ps_set (i := 3) sc__law_pot.nd rfl (Or.inl rfl) pe_int)
    (C8.pss_cut (ps_if (pt_cmpR op_lt (pv 1) (pe_callB (lenK (K := K)) (by rfl) B.len_ (by decide +kernel) (pa_cons (pv 0) pa_nil)) (nomark _))
      (pss_one (ps_set (i := 3) sc__law_pot.nd rfl (Or.inl rfl) (pe_ix (kk (K := K) (F := rIxL) (P := IxR _) ix_list) (pv 0) (pv 1) (fun _ _ => rfl))))
      pss_nil)
    (pss_one (ps_ret (pe_lst (pa_cons (pe_callB (call_max2 rfl) (by rfl) B.max_ (by decide +kernel) (pa_cons pe_int (pa_cons (pe_op op_sub (pv 3) (pe_op op_pow pe_int pe_int)) pa_nil))) (pa_cons (pe_op op_mod (pe_op op_pow (pe_op op_add (pe_op op_add (pe_op op_mod (pv 3) (pe_ix (kk (K := K) (F := rIxL) (P := IxR _) ix_list) (pv 2) (pe_op op_mod (pv 1) pe_int) (fun _ _ => rfl))) (pe_op op_mulX pe_int (pv 1))) pe_int) pe_int) (pe_ix (kk (K := K) (F := rIxL) (P := IxR _) ix_list) (pv 2) (pe_op op_mod (pv 1) pe_int) (fun _ _ => rfl))) pa_nil)))))))), ?_⟩)
  · obtain ⟨a, ns, k, rfl, _⟩ := h; rfl
  · obtain ⟨a, ns, k, rfl, hs, hk, q⟩ := h
    refine ⟨sz, fun l hl => ?_⟩
    have S1 := same_new hl (.lst [.int 2147483629, .int 2147483587, .int 2147483579, .int 2147483563, .int 2147483549, .int 2147483543, .int 2147483497, .int 2147483489])
    refine ⟨fun σ H1 => ∃ c : Int, σ = [some (.ref a), some (.int k), some (.ref l), some (.int c)] ∧ H1 = upd H l (.lst [.int 2147483629, .int 2147483587, .int 2147483579, .int 2147483563, .int 2147483549, .int 2147483543, .int 2147483497, .int 2147483489]), ?_, ?_⟩
    · refine ⟨_, rfl, _, rfl, a, _, rfl, .inl (S1.seq hs), _, _, rfl, rfl, _, rfl, ite2 (fun c => ?_) (fun c => ?_)⟩
      · have c' : (k : Int) < ((ns.map V.int).length : Nat) := of_decide_eq_true c
        have hk2 : k < ns.length := by rw [List.length_map] at c'; omega
        exact ⟨_, rfl, _, rfl, a, _, _, _, rfl, rfl, S1.seq hs, at_of (j := k) rfl (by rw [List.getElem?_map, List.getElem?_eq_getElem hk2] <;> rfl), _, rfl, rfl⟩
      · exact ⟨_, rfl, rfl⟩
    · rintro _ _ ⟨c, rfl, rfl⟩
      obtain ⟨z, hz, hz0, hz1⟩ := menu8 (k % 8) (by omega)
      have hm1 := Int.emod_nonneg c (by omega : z ≠ 0)
      have hm2 := Int.emod_lt_of_pos c hz0
      refine ⟨_, rfl, _, _, rfl, rfl, ⟨by decide, by decide, by decide⟩, _, _, rfl, rfl, _, _, rfl, ?_⟩
      refine ⟨_, rfl, _, rfl, _, rfl, _, _, rfl, rfl, pj, l, _, _, _, rfl, rfl, SqL.of upd_same, at_of (j := k % 8) (by omega) hz, _, _, rfl, rfl, hz0, ?_⟩
      refine ⟨_, rfl, _, _, rfl, rfl, mulx 13 6 (by decide) (by omega), _, _, rfl, rfl, _, _, rfl, rfl, _, _, rfl, rfl, ⟨by decide, by decide, by omega⟩, ?_⟩
      refine ⟨_, rfl, _, rfl, _, _, rfl, rfl, pj, l, _, _, _, rfl, rfl, SqL.of upd_same, at_of (j := k % 8) (by omega) hz, _, _, rfl, rfl, hz0, sz, fun p hp => ?_⟩
      refine q p _ (S1.free hp) (S1.trans (same_new hp _)) ⟨_, _, upd_same, ?_, Int.emod_nonneg _ (by omega), ?_⟩
      · split <;> omega
      · have := Int.emod_lt_of_pos ((c % z + 7919 * k + 5) ^ (Int.toNat 3)) hz0
        exact Int.lt_of_lt_of_le this (Int.le_trans hz1 (by decide))
def spTake : Sp := fun vs H Q _ => ∃ (p : Addr) (m : Int), vs = [.ref p, .int m] ∧ PotAt H p ∧ 1 ≤ m ∧ m < 2 ^ 200 ∧ ∀ (d : Int) H', 0 ≤ d → d < m → But p H H' → PotAt H' p → Q (.int d) H'
theorem k__law_draw (D : Df K mg "_law_draw" s__law_draw ["_law_pot_here", "_law_many"]) : Dn P w K mg base 1 "_law_draw" ["_law_pot_here", "_law_many"] spTake := by
  refine D.ok fun f fd F => okG0 F sc__law_draw (fun vs H Q E h => ?_) (fun cdv A outer s H vs Q E hr h => ⟨_, (pss_cons (ps_if (pt_cmpR op_gt (pe_ix (kk (K := K) (F := rIxL) (P := IxR _) ix_list) (pv 0) pe_int (fun _ _ => rfl)) pe_int (nomark _))
      (pss_cons (ps_set (i := 2) sc__law_draw.nd rfl (Or.inl rfl) (pe_op op_mod (pe_ix (kk (K := K) (F := rIxL) (P := IxR _) ix_list) (pv 0) pe_int (fun _ _ => rfl)) (pv 1)))
      (pss_cons (ps_asg (pe_op op_fdivW (pe_ix (kk (K := K) (F := rIxL) (P := IxR _) ix_list) (pv 0) pe_int (fun _ _ => rfl)) (pv 1)) (pg_sub (pv 0) pe_int set_list))
      (pss_one (ps_ret (pv 2)))))
      pss_nil)
    (pss_cons (ps_asg (pe_op op_mod (pe_op op_add (pe_op op_mulX (pe_ix (kk (K := K) (F := rIxL) (P := IxR _) ix_list) (pv 0) pe_int (fun _ _ => rfl)) pe_int) pe_int) pe_int) (pg_sub (pv 0) pe_int set_list))
    (pss_one (ps_ret (pe_op op_mod (pe_op op_fdivW (pe_op op_mod (pe_op op_mulX (pe_ix (kk (K := K) (F := rIxL) (P := IxR _) ix_list) (pv 0) pe_int (fun _ _ => rfl)) (pe_ix (kk (K := K) (F := rIxL) (P := IxR _) ix_list) (pv 0) pe_int (fun _ _ => rfl))) pe_int) pe_int) (pv 1)))))), ?_⟩)
  · obtain ⟨p, m, rfl, _⟩ := h; rfl
  · obtain ⟨p, m, rfl, ⟨a, b, hp, ha, hb, hb2⟩, hm, hm2, q⟩ := h
    refine ⟨_, rfl, p, _, _, _, rfl, rfl, SqL.of hp, at_of (j := 0) rfl rfl, _, _, rfl, rfl, _, rfl, ite2 (fun c => ?_) (fun c => ?_)⟩
    · refine ⟨_, rfl, p, _, _, _, rfl, rfl, SqL.of hp, at_of (j := 0) rfl rfl, _, rfl, _, _, rfl, rfl, by omega, ?_⟩
      refine ⟨_, rfl, p, _, _, _, rfl, rfl, SqL.of hp, at_of (j := 0) rfl rfl, _, rfl, _, _, rfl, rfl, ⟨by omega, Nat.lt_trans (log_lt (n := 200) (by decide) (by omega)) (by decide)⟩, _, rfl, p, _, _, _, rfl, rfl, hp, rfl, _, rfl, ?_⟩
      have h1 := Int.emod_nonneg a (by omega : m ≠ 0)
      have h2 := Int.emod_lt_of_pos a (by omega : 0 < m)
      have h3 := Int.ediv_nonneg ha (by omega : 0 ≤ m)
      exact q _ _ h1 h2 But.upd ⟨_, _, upd_same, h3, hb, hb2⟩
    · have hm1 := Int.emod_nonneg (b * 39373 + 7919) (by decide : (2147483629 : Int) ≠ 0)
      have hm3 := Int.emod_lt_of_pos (b * 39373 + 7919) (by decide : (0 : Int) < 2147483629)
      refine ⟨_, rfl, p, _, _, _, rfl, rfl, SqL.of hp, at_of (j := 1) rfl rfl, _, _, rfl, rfl, mulx 40 16 (by omega) (by decide), _, _, rfl, rfl, _, _, rfl, rfl, pj, ?_⟩
      refine ⟨_, rfl, p, _, _, _, rfl, rfl, hp, rfl, ?_⟩
      refine ⟨_, rfl, p, _, _, _, rfl, rfl, SqL.of upd_same, at_of (j := 1) rfl rfl, _, rfl, p, _, _, _, rfl, rfl, SqL.of upd_same, at_of (j := 1) rfl rfl, _, _, rfl, rfl, mulx 31 31 (by omega) (by omega), ?_⟩
      refine ⟨_, _, rfl, rfl, pj, _, _, rfl, rfl, ⟨by decide, by decide⟩, _, rfl, _, _, rfl, rfl, hm, ?_⟩
      exact q _ _ (Int.emod_nonneg _ (by omega)) (Int.emod_lt_of_pos _ (by omega)) But.upd ⟨_, _, upd_same, ha, hm1, by omega⟩
def spNumber : Sp := fun vs H Q _ => ∃ (p : Addr), vs = [.ref p] ∧ PotAt H p ∧ ∀ (n : Int) H', -(10 ^ 30) ≤ n → n ≤ 10 ^ 30 → But p H H' → PotAt H' p → Q (.int n) H'
theorem k__law_number (D : Df K mg "_law_number" s__law_number ["_law_pot_here"]) (D__law_draw : Dn P w K mg base 1 "_law_draw" ["_law_pot_here", "_law_many"] spTake) : Dn P w K mg base 2 "_law_number" ["_law_pot_here"] spNumber := by
  refine D.ok fun f fd F => okG0 F sc__law_number (fun vs H Q E h => ?_) (fun cdv A outer s H vs Q E hr h => ⟨_, (pss_cons (ps_set (i := 1) sc__law_number.nd rfl (Or.inl rfl) (pe_cD D__law_draw (hr.less (by decide)) rfl (pa_cons (pv 0) (pa_cons pe_int pa_nil))))
    (pss_cons (ps_if (pt_cmpR op_eq (pv 1) pe_int (nomark _))
      (pss_cons (ps_set (i := 2) sc__law_number.nd rfl (Or.inl rfl) pe_int)
      (pss_cons (ps_for PassesOwn.never rfl (pi_range1 (by rfl) B.range_ (pa_cons pe_int pa_nil)) (pg_name (i := 3) sc__law_number.nd rfl (Or.inl rfl))
        (pss_one (ps_set (i := 2) sc__law_number.nd rfl (Or.inl rfl) (pe_op op_add (pe_op op_mulX (pv 2) (pe_op op_pow pe_int pe_int)) (pe_cD D__law_draw (hr.less (by decide)) rfl (pa_cons (pv 0) (pa_cons (pe_op op_pow pe_int pe_int) pa_nil)))))))
      (pss_one (ps_ret (pe_op op_mulX (pe_op op_mod (pv 2) (pe_op op_sub (pe_op op_pow pe_int pe_int) pe_int)) (pe_op op_sub pe_int (pe_op op_mulX pe_int (pe_cD D__law_draw (hr.less (by decide)) rfl (pa_cons (pv 0) (pa_cons pe_int pa_nil))))))))))
      pss_nil)
    (pss_one (ps_ret (pe_op op_sub (pe_cD D__law_draw (hr.less (by decide)) rfl (pa_cons (pv 0) (pa_cons (pe_ix (kk (K := K) (F := rIxL) (P := IxR _) ix_list) (pe_lst (pa_cons pe_int (pa_cons pe_int (pa_cons pe_int pa_nil)))) (pe_op op_sub (pv 1) pe_int) (fun _ _ => rfl)) pa_nil))) (pe_ix (kk (K := K) (F := rIxL) (P := IxR _) ix_list) (pe_lst (pa_cons pe_int (pa_cons pe_int (pa_cons pe_int pa_nil)))) (pe_op op_sub (pv 1) pe_int) (fun _ _ => rfl))))))), ?_⟩)
  · obtain ⟨p, rfl, _⟩ := h; rfl
  · obtain ⟨p, rfl, hp, q⟩ := h
    refine ⟨_, rfl, p, 4, rfl, hp, by decide, by decide, fun d H1 d0 d6 b1 p1 => ?_⟩
    refine ⟨_, rfl, rfl, _, rfl, ite2 (fun c => ?_) (fun c => ?_)⟩
    · refine ⟨_, rfl, by decide, by decide, ?_⟩
      refine for_range (lo := 0) (n := 5) (fun i σ H2 => ∃ (f : Int) (v : Option V), σ = [some (.ref p), some (.int d), some (.int f), v] ∧ But p H H2 ∧ PotAt H2 p ∧ 0 ≤ f ∧ f < 10 ^ (6 * i)) ⟨0, none, rfl, b1, p1, by decide, by decide⟩ ?_ ?_
      · rintro i σ H2 hi ⟨f, v, rfl, b2, p2, f0, f1⟩
        have f2 : f < 10 ^ 24 := Int.lt_of_lt_of_le f1 ((by decide : ∀ i, i < 5 → (10 : Int) ^ (6 * i) ≤ 10 ^ 24) i hi)
        refine ⟨_, rfl, _, _, rfl, rfl, ⟨by decide, by decide, by decide⟩, _, _, rfl, rfl, mulx 90 20 (by omega) (by decide), ?_⟩
        refine ⟨_, rfl, _, _, rfl, rfl, ⟨by decide, by decide, by decide⟩, p, _, rfl, p2, by decide, by decide, fun e H3 e0 e1 b3 p3 => ⟨_, _, rfl, rfl, ?_⟩⟩
        refine ⟨_, _, rfl, b2.trans b3, p3, ?_, ?_⟩
        · show 0 ≤ f * 10 ^ 6 + e; omega
        · show f * 10 ^ 6 + e < 10 ^ (6 * (i + 1))
          have e1' : e < 10 ^ 6 := e1
          have : (10 : Int) ^ (6 * (i + 1)) = 10 ^ (6 * i) * 10 ^ 6 := by rw [Nat.mul_add, Int.pow_add]
          rw [this]
          omega
      · rintro σ H2 ⟨f, v, rfl, b2, p2, f0, f1⟩
        refine ⟨_, rfl, _, _, rfl, rfl, ⟨by decide, by decide, by decide⟩, _, _, rfl, rfl, _, _, rfl, rfl, pj, ?_⟩
        have g1 := Int.emod_nonneg f (by decide : (10 ^ Int.toNat 30 - 20 : Int) ≠ 0)
        have g2 := Int.emod_lt_of_pos f (by decide : (0 : Int) < 10 ^ Int.toNat 30 - 20)
        have g3 : (10 ^ Int.toNat 30 - 20 : Int) ≤ 10 ^ 30 := by decide
        refine ⟨_, rfl, p, 2, rfl, p2, by decide, by decide, fun c H3 c0 c2 b3 p3 => ⟨_, _, rfl, rfl, mulx 2 2 (by decide) (by omega), _, _, rfl, rfl, _, _, rfl, rfl, mulx 100 2 (by omega) (by omega), ?_⟩⟩
        have : c = 0 ∨ c = 1 := by omega
        refine q _ _ ?_ ?_ (b2.trans b3) p3
        · rcases this with rfl | rfl <;> omega
        · rcases this with rfl | rfl <;> omega
    · have dn : d ≠ 0 := fun z => by subst z; exact c rfl
      obtain ⟨j, rfl⟩ : ∃ j : Nat, d = (j : Int) + 1 := ⟨(d - 1).toNat, by omega⟩
      obtain ⟨z, hz, z1⟩ := at3 (x0 := 3) (x1 := 19) (x2 := 199) j (by omega)
      obtain ⟨y, hy, y1⟩ := at3 (x0 := 1) (x1 := 9) (x2 := 99) j (by omega)
      refine ⟨_, rfl, sz, fun l hl => ⟨_, rfl, _, _, rfl, rfl, l, _, _, _, rfl, rfl, SqL.of upd_same, at_of (j := j) (by omega) hz, ?_⟩⟩
      refine ⟨p, z, rfl, p1.same (same_new hl _), by omega, Int.lt_of_le_of_lt (b := 199) (by omega) (by decide), fun e H2 e0 e1 b2 p2 => ?_⟩
      refine ⟨sz, fun m hm => ⟨_, rfl, _, _, rfl, rfl, m, _, _, _, rfl, rfl, SqL.of upd_same, at_of (j := j) (by omega) hy, _, _, rfl, rfl, ?_⟩⟩
      exact q _ _ (by omega) (by omega) (b1.trans ((same_but (same_new hl _)).trans (b2.trans (same_but (same_new hm _))))) (p2.same (same_new hm _))
def spDeed : Sp := fun vs H Q _ => ∃ (p : Addr), vs = [.ref p] ∧ PotAt H p ∧ ∀ (a : Addr) (d : Dd) H', But p H H' → PotAt H' p → H a = none → H' a = some (.tup d.vs) → d.In (10 ^ 31) → d.Ok → Q (.ref a) H'
theorem k__law_deed (D : Df K mg "_law_deed" s__law_deed ["_law_pot_here"]) (D__law_draw : Dn P w K mg base 1 "_law_draw" ["_law_pot_here", "_law_many"] spTake) (D__law_number : Dn P w K mg base 2 "_law_number" ["_law_pot_here"] spNumber) : Dn P w K mg base 3 "_law_deed" ["_law_pot_here"] spDeed := by
  refine D.ok fun f fd F => okG0 F sc__law_deed (fun vs H Q E h => ?_) (fun cdv A outer s H vs Q E hr h => ⟨_, (pss_cons (ps_set (i := 1) sc__law_deed.nd rfl (Or.inl rfl) (pe_cD D__law_draw (hr.less (by decide)) rfl (pa_cons (pv 0) (pa_cons pe_int pa_nil))))
    (pss_cons (ps_set (i := 2) sc__law_deed.nd rfl (Or.inl rfl) (pe_cD D__law_number (hr.less (by decide)) rfl (pa_cons (pv 0) pa_nil)))
    (pss_cons (ps_set (i := 3) sc__law_deed.nd rfl (Or.inl rfl) (pe_cD D__law_number (hr.less (by decide)) rfl (pa_cons (pv 0) pa_nil)))
    (pss_cons (ps_set (i := 4) sc__law_deed.nd rfl (Or.inl rfl) (pe_cD D__law_number (hr.less (by decide)) rfl (pa_cons (pv 0) pa_nil)))
    (pss_cons (ps_if (pt_cmpR op_lt (pv 1) pe_int (nomark _))
      (pss_one (ps_ret (pe_tup (pa_cons (pe_op op_mulX (pv 2) (pv 1)) (pa_cons pe_non (pa_cons pe_non pa_nil))))))
      pss_nil)
    (pss_cons (ps_if (PW.pt (pw_or (pt_cmpR op_eq (pv 1) pe_int (nomark _)) (pw_or1 (pt_cmpR op_eq (pv 3) (pv 4) (nomark _)))))
      (pss_one (ps_ret (pe_tup (pa_cons pe_int (pa_cons (pv 3) (pa_cons (pv 3) pa_nil))))))
      pss_nil)
    (pss_cons (ps_if (pt_cmpR op_eq (pv 1) pe_int (nomark _))
      (pss_one (ps_ret (pe_tup (pa_cons (pv 2) (pa_cons (pv 3) (pa_cons pe_non pa_nil))))))
      pss_nil)
    (pss_cons (ps_if (pt_cmpR op_eq (pv 1) pe_int (nomark _))
      (pss_one (ps_ret (pe_tup (pa_cons (pv 2) (pa_cons pe_non (pa_cons (pv 3) pa_nil))))))
      pss_nil)
    (pss_one (ps_ret (pe_tup (pa_cons (pv 2) (pa_cons (pe_callB (call_min2 rfl) (by rfl) B.min_ (by decide +kernel) (pa_cons (pv 3) (pa_cons (pv 4) pa_nil))) (pa_cons (pe_callB (call_max2 rfl) (by rfl) B.max_ (by decide +kernel) (pa_cons (pv 3) (pa_cons (pv 4) pa_nil))) pa_nil)))))))))))))), ?_⟩)
  · obtain ⟨p, rfl, _⟩ := h; rfl
  · obtain ⟨p, rfl, hp, q⟩ := h
    refine ⟨_, rfl, p, 6, rfl, hp, by decide, by decide, fun road H1 d0 d7 b1 p1 => ?_⟩
    refine ⟨_, rfl, p, rfl, p1, fun n H2 n0 n1 b2 p2 => ⟨_, rfl, p, rfl, p2, fun one H3 o0 o1 b3 p3 => ⟨_, rfl, p, rfl, p3, fun other H4 r0 r1 b4 p4 => ?_⟩⟩⟩
    have b14 : But p H H4 := b1.trans (b2.trans (b3.trans b4))
    have fin : ∀ (d : Dd) (a : Addr), H4 a = none → d.In (10 ^ 31) → d.Ok → Q (.ref a) (upd H4 a (.tup d.vs)) := fun d a ha hi ho =>
      q a d _ (b14.trans (same_but (same_new ha _))) (p4.same (same_new ha _)) (b14.free (pot_ne p4 ha) ha) upd_same hi ho
    refine ⟨_, rfl, _, _, rfl, rfl, _, rfl, ite2 (fun c => ?_) (fun c => ?_)⟩
    · have c' : road < 2 := of_decide_eq_true c
      refine ⟨_, rfl, _, rfl, _, _, rfl, rfl, mulx 100 2 (by omega) (by omega), sz, fun a ha => fin ⟨_, none, none⟩ a ha (in_mk ?_ ?_ in_none in_none) (fun _ _ h => nomatch h)⟩
      · have : road = 0 ∨ road = 1 := by omega
        rcases this with rfl | rfl <;> omega
      · have : road = 0 ∨ road = 1 := by omega
        rcases this with rfl | rfl <;> omega
    have mm : (∃ y, -(10 ^ 31) ≤ y ∧ y ≤ 10 ^ 31 ∧ y = one) := ⟨one, by omega, by omega, rfl⟩
    by_cases c2 : road = 2
    · subst c2
      refine ⟨_, rfl, rfl, _, rfl, iteT (iteT ⟨_, rfl, _, rfl, sz, fun a ha => fin ⟨0, some one, some one⟩ a ha (in_mk (by decide) (by decide) (in_some (by omega) (by omega)) (in_some (by omega) (by omega))) fun l h e1 e2 => ?_⟩)⟩
      cases e1; cases e2
      exact .inr ⟨rfl, rfl⟩
    refine ⟨_, rfl, rfl, _, rfl, ifF (decide_eq_false fun z => c2 (V.int.inj z)) ⟨_, rfl, _, rfl, rfl, _, rfl, ite2 (fun c3 => ?_) (fun c3 => ?_)⟩⟩
    · refine ⟨_, rfl, _, rfl, sz, fun a ha => fin ⟨0, some one, some one⟩ a ha (in_mk (by decide) (by decide) (in_some (by omega) (by omega)) (in_some (by omega) (by omega))) fun l h e1 e2 => ?_⟩
      cases e1; cases e2
      exact .inr ⟨rfl, rfl⟩
    have c3' : one ≠ other := fun z => c3 (decide_eq_true (congrArg V.int z))
    refine ⟨_, rfl, rfl, _, rfl, ite2 (fun c4 => ?_) (fun c4 => ?_)⟩
    · exact ⟨_, rfl, _, rfl, sz, fun a ha => fin ⟨n, some one, none⟩ a ha (in_mk (by omega) (by omega) (in_some (by omega) (by omega)) in_none) (fun _ _ _ h => nomatch h)⟩
    refine ⟨_, rfl, rfl, _, rfl, ite2 (fun c5 => ?_) (fun c5 => ?_)⟩
    · exact ⟨_, rfl, _, rfl, sz, fun a ha => fin ⟨n, none, some one⟩ a ha (in_mk (by omega) (by omega) in_none (in_some (by omega) (by omega))) (fun _ _ h => nomatch h)⟩
    refine ⟨_, rfl, _, rfl, _, rfl, _, _, rfl, _, rfl, _, rfl, _, _, rfl, sz, fun a ha => fin ⟨n, some _, some _⟩ a ha (in_mk (by omega) (by omega) (in_some ?_ ?_) (in_some ?_ ?_)) ?_⟩
    · split <;> omega
    · split <;> omega
    · split <;> omega
    · split <;> omega
    · intro l h e1 e2
      cases e1; cases e2
      left
      split <;> split <;> omega
def spBoard : Sp := fun vs H Q _ => ∃ (p : Addr), vs = [.ref p] ∧ PotAt H p ∧ ∀ (b : Addr) (bs : List Int) H', But p H H' → PotAt H' p → H b = none → BoardAt H' b bs → Wi (10 ^ 30) bs → Q (.ref b) H'
theorem k__law_board (D : Df K mg "_law_board" s__law_board ["_law_pot_here"]) (D__law_draw : Dn P w K mg base 1 "_law_draw" ["_law_pot_here", "_law_many"] spTake) (D__law_number : Dn P w K mg base 2 "_law_number" ["_law_pot_here"] spNumber) : Dn P w K mg base 3 "_law_board" ["_law_pot_here"] spBoard := by
  refine D.ok fun f fd F => okG0 F sc__law_board (fun vs H Q E h => ?_) (fun cdv A outer s H vs Q E hr h => ⟨_, (pss_one (ps_ret (pe_callTy (tupOfK (K := K)) (by rfl) B.tuple_ (by decide +kernel) (pa_cons (pe_lc (own := [("_law_k", 1)]) (g := gName 1) (tt := tYes) rfl sc__law_board.nd (pi_range1 (by rfl) B.range_ (pa_cons (pe_op op_add pe_int (pe_cD D__law_draw (hr.less (by decide)) rfl (pa_cons (pv 0) (pa_cons pe_int pa_nil)))) pa_nil)) (blkOk_by (own := [("_law_k", 1)]) (N := ["_law_pot_here", "_law_k"]) (sc := defScope s__law_board) (by decide +kernel)) (fun _ _ _ _ _ => (pg_name (i := 1) sc__law_board.nd rfl (Or.inl rfl))) (fun _ _ _ _ _ => pts_nil) (fun _ _ _ _ _ => (pe_cD D__law_number (hr.less (by decide)) rfl (pa_cons (pv 0) pa_nil)))) pa_nil)))), ?_⟩)
  · obtain ⟨p, rfl, _⟩ := h; rfl
  · obtain ⟨p, rfl, hp, q⟩ := h
    refine ⟨_, rfl, p, 16, rfl, hp, by decide, by decide, fun m H1 m0 m1 b1 p1 => ⟨_, _, rfl, rfl, _, rfl, by omega, by omega, fun D hD => ?_⟩⟩
    have np := pot_ne p1 hD
    refine lc_range (lo := 0) (n := (1 + m).toNat) (fun i H2 => ∃ bs : List Int, But p H1 H2 ∧ PotAt H2 p ∧ H2 D = some (.lst (bs.map V.int)) ∧ bs.length = i ∧ Wi (10 ^ 30) bs) ⟨[], same_but (same_new hD _), p1.same (same_new hD _), upd_same, rfl, fun x hx => nomatch hx⟩ ?_ ?_
    · rintro i H2 hi ⟨bs, b2, p2, hD2, hl, hw⟩
      refine ⟨rfl, ?_⟩
      refine ⟨_, rfl, p, rfl, p2, fun x H3 x0 x1 b3 p3 => ?_⟩
      have hD3 := b3 _ _ np hD2
      refine ⟨_, hD3, small1000 (by rw [List.length_map]; omega), bs ++ [x], but_upd hD (b2.trans b3), p3.upd np.symm, by rw [upd_same, List.map_append] <;> rfl, by rw [List.length_append, hl] <;> rfl, ?_⟩
      exact hw.snoc x0 x1
    · rintro H2 ⟨bs, b2, p2, hD2, hl, hw⟩
      refine ⟨D, _, rfl, .inl ⟨SqL.of hD2, fun t ht => ?_⟩⟩
      have S := same_new ht (.tup (bs.map V.int))
      have B := b1.trans (b2.trans (same_but S))
      exact q t bs _ B (p2.same S) ((b1.trans b2).free (pot_ne p2 ht) ht) ⟨upd_same, by omega, by omega⟩ hw
def spAsks : Sp := fun vs H Q _ => ∃ (p b : Addr) (bs : List Int), vs = [.ref p, .ref b, .int 40] ∧ PotAt H p ∧ BoardAt H b bs ∧ ∀ (k : Addr) (as : List Ak) H', But p H H' → PotAt H' p → H k = none → AsksAt H' k as bs.length → Q (.ref k) H'
theorem k__law_asks (D : Df K mg "_law_asks" s__law_asks ["_law_pot_here", "_law_board_here", "_law_most"]) (D__law_draw : Dn P w K mg base 1 "_law_draw" ["_law_pot_here", "_law_many"] spTake) (D__law_deed : Dn P w K mg base 3 "_law_deed" ["_law_pot_here"] spDeed) : Dn P w K mg base 4 "_law_asks" ["_law_pot_here", "_law_board_here", "_law_most"] spAsks := by
  refine D.ok fun f fd F => okG0 F sc__law_asks (fun vs H Q E h => ?_) (fun cdv A outer s H vs Q E hr h => ⟨_, (pss_cons (ps_set (i := 3) sc__law_asks.nd rfl (Or.inl rfl) (pe_cD D__law_draw (hr.less (by decide)) rfl (pa_cons (pv 0) (pa_cons pe_int pa_nil))))
    (C8.pss_cut (ps_if (pt_cmpR op_eq (pv 3) pe_int (nomark _))
      (pss_one (ps_set (i := 3) sc__law_asks.nd rfl (Or.inl rfl) (pe_cD D__law_draw (hr.less (by decide)) rfl (pa_cons (pv 0) (pa_cons (pe_op op_add (pv 2) pe_int) pa_nil)))))
      pss_nil)
    (pss_cons (ps_set (i := 4) sc__law_asks.nd rfl (Or.inl rfl) (pe_op op_add pe_int (pe_cD D__law_draw (hr.less (by decide)) rfl (pa_cons (pv 0) (pa_cons (pe_callB (lenK (K := K)) (by rfl) B.len_ (by decide +kernel) (pa_cons (pv 1) pa_nil)) pa_nil)))))
    (pss_cons (ps_set (i := 5) sc__law_asks.nd rfl (Or.inl rfl) (pe_lst pa_nil))
    (pss_cons (ps_for PassesOwn.never rfl (pi_range1 (by rfl) B.range_ (pa_cons (pv 3) pa_nil)) (pg_name (i := 6) sc__law_asks.nd rfl (Or.inl rfl))
      (pss_one (ps_expr (kk (K := K) (F := fun K => tBM K "list" _ _ _) (P := PE _ _) (pe_bm PySem.F.plainAttrs_list PySem.F.slot_list_append PySem.F.type_list_append mt_append (pv 5) (pa_cons (pe_tup (pa_cons (pe_cD D__law_draw (hr.less (by decide)) rfl (pa_cons (pv 0) (pa_cons pe_int pa_nil))) (pa_cons (pe_cD D__law_draw (hr.less (by decide)) rfl (pa_cons (pv 0) (pa_cons (pv 4) pa_nil))) (pa_cons (pe_cD D__law_deed (hr.less (by decide)) rfl (pa_cons (pv 0) pa_nil)) pa_nil)))) pa_nil))))))
    (pss_one (ps_ret (pe_callTy (tupOfK (K := K)) (by rfl) B.tuple_ (by decide +kernel) (pa_cons (pv 5) pa_nil))))))))), ?_⟩)
  · obtain ⟨p, b, bs, rfl, _⟩ := h; rfl
  · obtain ⟨p, b, bs, rfl, hp, hb, q⟩ := h
    have nb : b ≠ p := fun z => by obtain ⟨_, _, h1, _⟩ := hp; have h2 := hb.1; rw [z, h1] at h2; cases h2
    refine ⟨_, rfl, p, 8, rfl, hp, by decide, by decide, fun m H1 m0 m1 b1 p1 => ?_⟩
    refine ⟨fun σ H2 => ∃ m : Int, σ = [some (.ref p), some (.ref b), some (.int 40), some (.int m), none, none, none] ∧ But p H H2 ∧ PotAt H2 p ∧ 0 ≤ m ∧ m ≤ 40, ?_, ?_⟩
    · refine ⟨_, rfl, rfl, _, rfl, ite2 (fun c => ?_) (fun c => ?_)⟩
      · exact ⟨_, rfl, _, rfl, _, _, rfl, rfl, p, _, rfl, p1, by decide, by decide, fun e H2 e0 e1 b2 p2 => ⟨e, rfl, b1.trans b2, p2, e0, by omega⟩⟩
      · exact ⟨m, rfl, b1, p1, m0, by omega⟩
    clear b1 p1 m0 m1
    rintro _ H2 ⟨m, rfl, b2, p2, m0, m1⟩
    have hb2 : BoardAt H2 b bs := ⟨b2 _ _ nb hb.1, hb.2⟩
    refine ⟨_, rfl, _, rfl, b, _, rfl, .inr (SqT.of hb2.1), p, _, rfl, p2, by rw [List.length_map]; have := hb.2; omega, Int.lt_of_le_of_lt (b := 16) (by rw [List.length_map]; have := hb.2; omega) (by decide), fun near H3 n0 n1 b3 p3 => ⟨_, _, rfl, rfl, ?_⟩⟩
    rw [List.length_map] at n1
    refine ⟨sz, fun L hL => ?_⟩
    have npL := pot_ne p3 hL
    have b13 := b2.trans b3
    refine ⟨_, rfl, _, rfl, by omega, by omega, ?_⟩
    refine for_range (lo := 0) (n := m.toNat) (fun i σ H4 => ∃ (as : List Ak) (v : Option V), σ = [some (.ref p), some (.ref b), some (.int 40), some (.int m), some (.int (1 + near)), some (.ref L), v] ∧ But p H3 H4 ∧ PotAt H4 p ∧ H4 L = some (.lst (as.map fun x => .ref x.a)) ∧ as.length = i ∧ ∀ x ∈ as, x.at_ H4 bs.length)
      ⟨[], none, rfl, same_but (same_new hL _), p3.same (same_new hL _), upd_same, rfl, fun x hx => nomatch hx⟩ ?_ ?_
    · rintro i σ H4 hi ⟨as, v, rfl, b4, p4, hL4, hl, hw⟩
      have hL3 : ∀ {H' : Hp}, But p H4 H' → H' L = some (.lst (as.map fun x => .ref x.a)) := fun b => b _ _ npL hL4
      refine ⟨_, rfl, .inl ⟨rfl, _, SqL.of hL4⟩, _, rfl, p, 16, rfl, p4, by decide, by decide, fun hand H5 h0 h1 b5 p5 => ?_⟩
      refine ⟨_, rfl, _, rfl, p, _, rfl, p5, by omega, Int.lt_of_le_of_lt (b := 16) (by have := hb2.2; omega) (by decide), fun box H6 x0 x1 b6 p6 => ?_⟩
      refine ⟨_, rfl, p, rfl, p6, fun da d H7 b7 p7 nda hda hdi hdo => ⟨sz, fun a ha => ?_⟩⟩
      have B7 := b5.trans (b6.trans b7)
      obtain ⟨bx, rfl⟩ : ∃ n : Nat, box = (n : Int) := ⟨box.toNat, by omega⟩
      have S8 := same_new ha (.tup [.int hand, .int bx, .ref da])
      have nLa : L ≠ a := ne_of_none (hL3 B7) ha
      have nLda : da ≠ L := fun z => by rw [z] at hda; rw [hL3 B7] at hda; cases hda
      obtain ⟨_, _, hp4, _⟩ := p4
      refine ⟨L, _, _, rfl, rfl, S8 _ _ (hL3 B7), small1000 (by rw [List.length_map]; omega), as ++ [⟨a, hand, bx, da, d⟩], _, rfl, but_upd hL (b4.trans (B7.trans (same_but S8))), (p7.same S8).upd npL.symm, by rw [upd_same, List.map_append] <;> rfl, by rw [List.length_append, hl] <;> rfl, fun x hx => ?_⟩
      rcases List.mem_append.mp hx with h3 | h3
      · exact (((hw x h3).but B7 hp4).same S8).but But.upd (S8 _ _ (hL3 B7))
      · have := List.mem_singleton.mp h3
        subst this
        exact ⟨by rw [upd_ne nLa.symm]; exact upd_same, ⟨by rw [upd_ne nLda]; exact S8 _ _ hda, In.le hdi (by decide), hdo⟩, h0, h1, show bx < _ by omega⟩
    · rintro σ H4 ⟨as, v, rfl, b4, p4, hL4, hl, hw⟩
      refine ⟨_, rfl, L, _, rfl, .inl ⟨SqL.of hL4, fun t ht => ?_⟩⟩
      have S := same_new ht (.tup (as.map fun x => .ref x.a))
      exact q t as _ (b13.trans (b4.trans (same_but S))) (p4.same S) ((b13.trans b4).free (pot_ne p4 ht) ht) ⟨upd_same, by omega, fun x hx => (hw x hx).same S⟩
theorem k__law_done (D : Df K mg "_law_done" s__law_done ["_law_deed_here", "_law_value"]) : Dn P w K mg base 1 "_law_done" ["_law_deed_here", "_law_value"] (spPut K) := by
  refine D.ok fun f fd F => okG0 F sc__law_done (fun vs H Q E h => ?_) (fun cdv A outer s H vs Q E hr h => ⟨_, (pss_cons (ps_asg (pv 0) (kk (K := K) (F := fun K => gTup K _ _) (P := PG _ _) (pg_tup rfl (pgs_cons (pg_name (i := 2) sc__law_done.nd rfl (Or.inl rfl)) (pgs_cons (pg_name (i := 3) sc__law_done.nd rfl (Or.inl rfl)) (pgs_cons (pg_name (i := 4) sc__law_done.nd rfl (Or.inl rfl)) pgs_nil))))))
    (pss_cons (ps_set (i := 1) sc__law_done.nd rfl (Or.inl rfl) (pe_op op_add (pv 1) (pv 2)))
    (C8.pss_cut (ps_if (PW.pt (pw_and (pt_cmpR op_notN (pv 3) pe_non (nomark _)) (pw_and1 (pt_cmpR op_lt (pv 1) (pv 3) (nomark _)))))
      (pss_one (ps_set (i := 1) sc__law_done.nd rfl (Or.inl rfl) (pv 3)))
      pss_nil)
    (pss_cons (ps_if (PW.pt (pw_and (pt_cmpR op_notN (pv 4) pe_non (nomark _)) (pw_and1 (pt_cmpR op_gt (pv 1) (pv 4) (nomark _)))))
      (pss_one (ps_set (i := 1) sc__law_done.nd rfl (Or.inl rfl) (pv 4)))
      pss_nil)
    (pss_one (ps_ret (pv 1))))))), ?_⟩)
  · obtain ⟨a, d, v, rfl, _⟩ := h; rfl
  · obtain ⟨a, d, v, rfl, hx, q⟩ := h
    refine ⟨_, rfl, a, _, rfl, hx, rfl, _, _, rfl, _, _, rfl, _, _, rfl, rfl, ?_⟩
    refine ⟨_, rfl, _, rfl, _, _, rfl, rfl, ?_⟩
    obtain ⟨add, low, high⟩ := d
    refine ⟨fun σ H1 => H1 = H ∧ σ = [some (.ref a), some (.int (up low (v + add))), some (.int add), some (oV low), some (oV high)], ?_, ?_⟩
    · cases low with
      | none => exact ⟨_, rfl, rfl, _, rfl, iteF ⟨rfl, rfl⟩⟩
      | some l =>
        refine ⟨_, rfl, rfl, _, rfl, iteT ⟨_, rfl, _, rfl, _, _, rfl, rfl, _, rfl, ite2 (fun c => ⟨_, rfl, rfl, ?_⟩) (fun c => ⟨rfl, ?_⟩)⟩⟩
        · have c' : v + add < l := of_decide_eq_true c
          show _ = [_, some (V.int (if v + add > l then v + add else l)), _, _, _]
          rw [if_neg (by omega)] <;> rfl
        · have c' : ¬ v + add < l := of_decide_eq_false (Bool.eq_false_iff.mpr c)
          show _ = [_, some (V.int (if v + add > l then v + add else l)), _, _, _]
          by_cases c2 : v + add > l
          · rw [if_pos c2] <;> rfl
          · have : v + add = l := by omega
            rw [if_neg c2, ← this] <;> rfl
    · rintro _ _ ⟨rfl, rfl⟩
      have q' : Q (.int (dn high (up low (v + add)))) _ := q
      generalize up low (v + add) = u at q'
      cases high with
      | none => exact ⟨_, rfl, rfl, _, rfl, iteF (iteF ⟨_, rfl, q'⟩)⟩
      | some h =>
        refine ⟨_, rfl, rfl, _, rfl, iteT ⟨_, rfl, _, rfl, _, _, rfl, rfl, _, rfl, ite2 (fun c => ⟨_, rfl, _, rfl, ?_⟩) (fun c => ⟨_, rfl, ?_⟩)⟩⟩
        · have c' : u > h := of_decide_eq_true c
          exact qi q' (by show (if u < h then u else h) = h; rw [if_neg (by omega)])
        · have c' : ¬ u > h := of_decide_eq_false (Bool.eq_false_iff.mpr c)
          refine qi q' ?_
          show (if u < h then u else h) = u
          by_cases c2 : u < h
          · rw [if_pos c2]
          · rw [if_neg c2]; omega
theorem k__law_behind (D : Df K mg "_law_behind" s__law_behind ["_law_one", "_law_other"]) (D__law_done : Dn P w K mg base 1 "_law_done" ["_law_deed_here", "_law_value"] (spPut K)) : Dn P w K mg base 2 "_law_behind" ["_law_one", "_law_other"] (spBehind K) := by
  refine D.ok fun f fd F => okG0 F sc__law_behind (fun vs H Q E h => ?_) (fun cdv A outer s H vs Q E hr h => ⟨_, (pss_cons (ps_set (i := 2) sc__law_behind.nd rfl (Or.inl rfl) (pe_ix (kk (K := K) (F := rIxT) (P := IxR _) ix_tup) (pv 1) pe_int (fun _ _ => rfl)))
    (pss_cons (ps_set (i := 3) sc__law_behind.nd rfl (Or.inl rfl) (pe_ix (kk (K := K) (F := rIxT) (P := IxR _) ix_tup) (pv 1) pe_int (fun _ _ => rfl)))
    (C8.pss_cut (ps_if (pt_cmpR op_notN (pe_ix (kk (K := K) (F := rIxT) (P := IxR _) ix_tup) (pv 0) pe_int (fun _ _ => rfl)) pe_non (nomark _))
      (pss_one (ps_set (i := 2) sc__law_behind.nd rfl (Or.inl rfl) (pe_cD D__law_done (hr.less (by decide)) rfl (pa_cons (pv 1) (pa_cons (pe_ix (kk (K := K) (F := rIxT) (P := IxR _) ix_tup) (pv 0) pe_int (fun _ _ => rfl)) pa_nil)))))
      pss_nil)
    (C8.pss_cut (ps_if (pt_cmpR op_notN (pe_ix (kk (K := K) (F := rIxT) (P := IxR _) ix_tup) (pv 0) pe_int (fun _ _ => rfl)) pe_non (nomark _))
      (pss_one (ps_set (i := 3) sc__law_behind.nd rfl (Or.inl rfl) (pe_cD D__law_done (hr.less (by decide)) rfl (pa_cons (pv 1) (pa_cons (pe_ix (kk (K := K) (F := rIxT) (P := IxR _) ix_tup) (pv 0) pe_int (fun _ _ => rfl)) pa_nil)))))
      pss_nil)
    (pss_cons (ps_if (PW.pt (pw_and (pt_cmpR op_notN (pv 2) pe_non (nomark _)) (pw_and1 (pt_cmpR op_eq (pv 2) (pv 3) (nomark _)))))
      (pss_one (ps_ret (pe_tup (pa_cons pe_int (pa_cons (pv 2) (pa_cons (pv 2) pa_nil))))))
      pss_nil)
    (pss_one (ps_ret (pe_tup (pa_cons (pe_op op_add (pe_ix (kk (K := K) (F := rIxT) (P := IxR _) ix_tup) (pv 0) pe_int (fun _ _ => rfl)) (pe_ix (kk (K := K) (F := rIxT) (P := IxR _) ix_tup) (pv 1) pe_int (fun _ _ => rfl))) (pa_cons (pv 2) (pa_cons (pv 3) pa_nil))))))))))), ?_⟩)
  · obtain ⟨a, b, d, e, rfl, _⟩ := h; rfl
  · obtain ⟨a, b, d, e, rfl, ha, hb, q⟩ := h
    refine ⟨_, rfl, b, _, _, _, rfl, rfl, hb, at_of (j := 1) rfl rfl, _, rfl, b, _, _, _, rfl, rfl, hb, at_of (j := 2) rfl rfl, ?_⟩
    refine ⟨fun σ H1 => H1 = H ∧ σ = [some (.ref a), some (.ref b), some (oV (endBeh e d.low e.low)), some (oV e.high)], ?_, ?_⟩
    · refine ⟨_, rfl, a, _, _, _, rfl, rfl, ha, at_of (j := 1) rfl rfl, rfl, _, rfl, ?_⟩
      cases el : d.low with
      | none => exact iteF ⟨rfl, rfl⟩
      | some k => exact iteT ⟨_, rfl, _, rfl, a, _, _, _, rfl, rfl, ha, at_of (j := 1) rfl rfl, b, e, k, by rw [el] <;> rfl, hb, rfl, rfl⟩
    rintro _ G ⟨hG, rfl⟩
    subst hG
    refine ⟨fun σ H1 => H1 = G ∧ σ = [some (.ref a), some (.ref b), some (oV (endBeh e d.low e.low)), some (oV (endBeh e d.high e.high))], ?_, ?_⟩
    · refine ⟨_, rfl, a, _, _, _, rfl, rfl, ha, at_of (j := 2) rfl rfl, rfl, _, rfl, ?_⟩
      cases el : d.high with
      | none => exact iteF ⟨rfl, rfl⟩
      | some k => exact iteT ⟨_, rfl, _, rfl, a, _, _, _, rfl, rfl, ha, at_of (j := 2) rfl rfl, b, e, k, by rw [el] <;> rfl, hb, rfl, rfl⟩
    rintro _ G2 ⟨hG, rfl⟩
    subst hG
    have q' : NewD G2 Q (wholeD (d.add + e.add) (endBeh e d.low e.low) (endBeh e d.high e.high)) := q
    generalize endBeh e d.low e.low = lo at q'
    generalize endBeh e d.high e.high = hi at q'
    have last : lo ≠ none ∧ lo = hi ∨ wholeD (d.add + e.add) lo hi = ⟨d.add + e.add, lo, hi⟩ := by
      by_cases c : lo ≠ none ∧ lo = hi
      · exact .inl c
      · exact .inr (if_neg c)
    have fin : wholeD (d.add + e.add) lo hi = ⟨d.add + e.add, lo, hi⟩ → tRet (tTup (tCons (tOp (rI0 fun i j => V.int (i + j)) (tOp (rIxT K) (tVar 0) (tC (.int 0))) (tOp (rIxT K) (tVar 1) (tC (.int 0)))) (tCons (tVar 2) (tCons (tVar 3) tNil)))) { nx := fun _ H' => Q .non H', rt := Q } [some (.ref a), some (.ref b), some (oV lo), some (oV hi)] G2 := fun h => by
      rw [h] at q'
      exact ⟨_, rfl, a, _, _, _, rfl, rfl, ha, at_of (j := 0) rfl rfl, _, rfl, b, _, _, _, rfl, rfl, hb, at_of (j := 0) rfl rfl, _, _, rfl, rfl, _, rfl, _, rfl, sz, fun p hp => q' p _ (same_new hp _) hp upd_same⟩
    cases lo with
    | none => exact ⟨_, rfl, rfl, _, rfl, iteF (iteF (fin (if_neg fun z => z.1 rfl)))⟩
    | some l =>
      refine ⟨_, rfl, rfl, _, rfl, iteT ⟨_, rfl, _, rfl, ?_⟩⟩
      cases hi with
      | none => exact ⟨rfl, _, rfl, iteF (fin (if_neg fun z => nomatch z.2))⟩
      | some h =>
        refine ⟨rfl, _, rfl, ite2 (fun c => ?_) (fun c => ?_)⟩
        · have c' : l = h := by have := of_decide_eq_true c; cases this; rfl
          subst c'
          rw [show wholeD (d.add + e.add) (some l) (some l) = ⟨0, some l, some l⟩ from if_pos ⟨Option.some_ne_none l, rfl⟩] at q'
          exact ⟨_, rfl, _, rfl, sz, fun p hp => q' p _ (same_new hp _) hp upd_same⟩
        · exact fin (if_neg fun z => c (decide_eq_true (by rw [Option.some.inj z.2])))
def spValues (K : PySem.W.Frag) : Sp := fun vs H Q _ => ∃ (p D : Addr) (ps : List (Addr × Dd)), vs = [.ref p, .ref D] ∧ PotAt H p ∧ D ≠ p ∧ H D = some (.lst (ps.map fun x => V.ref x.1)) ∧ RefsAt K H ps ∧ ∀ (L : Addr) (ws : List Int) (H' : Hp), But p H H' → PotAt H' p → L ≠ p → H' L = some (.lst (ws.map V.int)) → Q (.ref L) H'
theorem k__law_values (D : Df K mg "_law_values" s__law_values ["_law_pot_here", "_law_deeds"]) (D__law_number : Dn P w K mg base 2 "_law_number" ["_law_pot_here"] spNumber) (D__law_draw : Dn P w K mg base 1 "_law_draw" ["_law_pot_here", "_law_many"] spTake) : Dn P w K mg base 3 "_law_values" ["_law_pot_here", "_law_deeds"] (spValues K) := by
  refine D.ok fun f fd F => okG0 F sc__law_values (fun vs H Q E h => ?_) (fun cdv A outer s H vs Q E hr h => ⟨_, (pss_cons (ps_set (i := 2) sc__law_values.nd rfl (Or.inl rfl) (pe_lst (pa_cons (pe_cD D__law_number (hr.less (by decide)) rfl (pa_cons (pv 0) pa_nil)) (pa_cons (pe_cD D__law_number (hr.less (by decide)) rfl (pa_cons (pv 0) pa_nil)) (pa_cons pe_int pa_nil)))))
    (pss_cons (ps_for PassesOwn.never rfl (kk (K := K) (F := fun K => iList K _) (P := PI _ _ _) (pi_list (pe_slice (kk (K := K) (F := rSlL) (P := L2.SlR _) sl_list) (pv 1) po_none (po_some pe_int)))) (kk (K := K) (F := fun K => gTup K _ _) (P := PG _ _) (pg_tup rfl (pgs_cons (pg_name (i := 3) sc__law_values.nd rfl (Or.inr rfl)) (pgs_cons (pg_name (i := 4) sc__law_values.nd rfl (Or.inl rfl)) (pgs_cons (pg_name (i := 5) sc__law_values.nd rfl (Or.inl rfl)) pgs_nil)))))
      (pss_one (ps_expr (kk (K := K) (F := fun K => tBM K "list" _ _ _) (P := PE _ _) (pe_bm PySem.F.plainAttrs_list PySem.F.slot_list_extend PySem.F.type_list_extend mt_extend (pv 2) (pa_cons (pe_lc (own := [("_law_end", 6)]) (g := gName 6) rfl sc__law_values.nd (kk (K := K) (F := fun K => iTup K _) (P := PI _ _ _) (pi_tup (pe_tup (pa_cons (pv 4) (pa_cons (pv 5) pa_nil))))) (blkOk_by (own := [("_law_end", 6)]) (N := ["_law_pot_here", "_law_deeds", "_law_found", "_law_add", "_law_low", "_law_high", "_law_end"]) (sc := defScope s__law_values) (by decide +kernel)) (fun _ _ _ _ _ => (pg_name (i := 6) sc__law_values.nd rfl (Or.inl rfl))) (fun _ _ _ _ _ => (pts_one (pt_cmpR op_notN (pv 6) pe_non (nomark _)))) (fun _ _ _ _ _ => (pe_op op_sub (pe_op op_add (pe_op op_sub (pv 6) (pv 3)) (pe_cD D__law_draw (hr.less (by decide)) rfl (pa_cons (pv 0) (pa_cons pe_int pa_nil)))) pe_int))) pa_nil))))))
    (pss_one (ps_ret (pv 2))))), ?_⟩)
  · obtain ⟨p, D, ps, rfl, _⟩ := h; rfl
  · obtain ⟨p, D, ps, rfl, hp, nD, hD, hps, q⟩ := h
    refine ⟨_, rfl, p, rfl, hp, fun n1 H1 _ _ b1 p1 => ⟨_, rfl, p, rfl, p1, fun n2 H2 _ _ b2 p2 => ⟨sz, fun L hL => ?_⟩⟩⟩
    have B2 := b1.trans b2
    have nL := pot_ne p2 hL
    obtain ⟨_, _, hp0, _⟩ := id hp
    have hD2 := B2 _ _ nD hD
    have S3 := same_new hL (.lst [.int n1, .int n2, .int 0])
    obtain ⟨us, eus, lus, mus⟩ : ∃ us : List (Addr × Dd), cutV (ps.map fun x => V.ref x.1) none (some 8) = us.map (fun x => V.ref x.1) ∧ us.length ≤ 8 ∧ ∀ x ∈ us, x ∈ ps := by
      obtain ⟨us, h1, h2, h3⟩ := cut_mapG (g := fun x : Addr × Dd => V.ref x.1) ps none (some 8)
      refine ⟨us, h1, ?_, h3⟩
      have := congrArg List.length h1
      rw [List.length_map] at this
      rw [← this]
      unfold cutV
      rw [List.length_take]
      have : HT.sIx (ps.map fun x : Addr × Dd => V.ref x.1).length (ps.map fun x : Addr × Dd => V.ref x.1).length (some 8) ≤ 8 := by simp only [HT.sIx]; split <;> omega
      omega
    refine ⟨_, rfl, _, rfl, D, _, rfl, SqL.of (S3 _ _ hD2), fun C hC => ?_⟩
    have nLC : L ≠ C := ne_of_none upd_same hC
    have nC := pot_ne (p2.same S3) hC
    have hC2 : H2 C = none := S3.free hC
    have S4 := same_new hC (.lst (cutV (ps.map fun x => V.ref x.1) none (some 8)))
    obtain ⟨_, _, hp2, _⟩ := id p2
    have hps2 := hps.but B2 hp0
    refine ⟨C, rfl, ⟨_, SqL.of upd_same⟩, ?_⟩
    refine for_list (K := K) (a := C) (xs := us.map fun x => V.ref x.1) (fun i σ H3 => ∃ (ws : List Int) (v3 v4 v5 v6 : Option V), σ = [some (.ref p), some (.ref D), some (.ref L), v3, v4, v5, v6] ∧ But p H2 H3 ∧ PotAt H3 p ∧ H3 L = some (.lst (ws.map V.int)) ∧ ws.length ≤ 3 + 2 * i ∧ H3 C = some (.lst (us.map fun x => V.ref x.1)))
      ⟨[n1, n2, 0], none, none, none, none, rfl, same_but (S3.trans S4), p2.same (S3.trans S4), by rw [upd_ne nLC, upd_same] <;> rfl, Nat.le_refl _, by rw [upd_same, eus]⟩ (fun i σ H3 _ h => by obtain ⟨_, _, _, _, _, _, _, _, _, _, h2⟩ := h; exact SqL.of h2) ?_ ?_
    · rintro i y σ H3 hi ⟨ws, v3, v4, v5, v6, rfl, b3, p3, hL3, hl3, hC3⟩
      rw [List.getElem?_map] at hi
      obtain ⟨d, hd, rfl⟩ := Option.map_eq_some_iff.mp hi
      have hil : i < us.length := (List.getElem?_eq_some_iff.mp hd).1
      have hd3 := but_tup b3 hp2 (hps2 d (mus d (List.mem_of_getElem? hd)))
      refine ⟨d.1, _, rfl, hd3, rfl, _, _, rfl, _, _, rfl, _, _, rfl, rfl, ?_⟩
      refine ⟨_, rfl, .inl ⟨rfl, _, SqL.of hL3⟩, _, rfl, _, rfl, sz, fun t ht => ⟨t, rfl, ⟨_, SqT.of upd_same⟩, fun E hE => ?_⟩⟩
      have S5 := same_new ht (.tup [oV d.2.low, oV d.2.high])
      have nE := pot_ne (p3.same S5) hE
      have hE3 : H3 E = none := S5.free hE
      have ntE : t ≠ E := ne_of_none upd_same hE
      have ntp := pot_ne p3 ht
      have nLE : L ≠ E := ne_of_none (S5 _ _ hL3) hE
      have nCE : C ≠ E := ne_of_none (S5 _ _ hC3) hE
      obtain ⟨_, _, hp3, _⟩ := id p3
      refine lc_tup (K := K) (a := t) (xs := [oV d.2.low, oV d.2.high]) (fun j H4 => ∃ es : List Int, But p H3 H4 ∧ PotAt H4 p ∧ H4 t = some (.tup [oV d.2.low, oV d.2.high]) ∧ H4 E = some (.lst (es.map V.int)) ∧ es.length ≤ j)
        ⟨[], same_but (S5.trans (same_new hE _)), (p3.same S5).same (same_new hE _), by rw [upd_ne ntE]; exact upd_same, upd_same, Nat.le_refl _⟩ (fun j H4 _ h => by obtain ⟨_, _, _, h2, _⟩ := h; exact SqT.of h2) ?_ ?_
      · rintro j y H4 hj ⟨es, b4, p4, ht4, hE4, hl4⟩
        have hj2 : j < 2 := (List.getElem?_eq_some_iff.mp hj).1
        obtain ⟨o, rfl⟩ : ∃ o : Option Int, y = oV o := by
          match j, hj with
          | 0, hj => exact ⟨d.2.low, (Option.some.inj hj).symm⟩
          | 1, hj => exact ⟨d.2.high, (Option.some.inj hj).symm⟩
          | n + 2, hj => simp at hj
        refine ⟨rfl, ?_⟩
        cases o with
        | none => exact ⟨_, rfl, rfl, _, rfl, iteF ⟨es, b4, p4, ht4, hE4, by omega⟩⟩
        | some e =>
          refine ⟨_, rfl, rfl, _, rfl, iteT ⟨_, rfl, _, rfl, _, _, rfl, rfl, _, rfl, p, 3, rfl, p4, by decide, by decide, fun g H5 g0 g1 b5 p5 => ⟨_, _, rfl, rfl, _, _, rfl, rfl, ?_⟩⟩⟩
          have hE5 := b5 _ _ nE hE4
          refine ⟨_, hE5, small1000 (by rw [List.length_map]; omega), es ++ [e - d.2.add + g - 1], but_upd hE3 (b4.trans b5), p5.upd nE.symm, by rw [upd_ne ntE]; exact b5 _ _ ntp ht4, by rw [upd_same, List.map_append] <;> rfl, by rw [List.length_append]; show _ + 1 ≤ _; omega⟩
      · rintro H4 ⟨es, b4, p4, ht4, hE4, hl4⟩
        have hl4' : es.length ≤ 2 := hl4
        have hL4 := b4 _ _ nL hL3
        refine ⟨L, E, _, _, rfl, rfl, hL4, hE4, small (by rw [List.length_map, List.length_map]; omega), ws ++ es, _, _, _, _, rfl, but_upd hL (b3.trans b4), p4.upd nL.symm, by rw [upd_same, List.map_append], by rw [List.length_append]; omega, ?_⟩
        rw [upd_ne nLC.symm]
        exact b4 _ _ nC hC3
    · rintro σ H3 ⟨ws, v3, v4, v5, v6, rfl, b3, p3, hL3, hl3, hC3⟩
      exact ⟨_, rfl, q L ws _ (B2.trans b3) p3 nL hL3⟩
def spOBO (K : PySem.W.Frag) : Sp := fun vs H Q _ => ∃ (D : Addr) (ps : List (Addr × Dd)) (x : Int), vs = [.ref D, .int x] ∧ H D = some (.lst (ps.map fun x => V.ref x.1)) ∧ RefsAt K H ps ∧ Q (.int (aps x (dsOf ps))) H
theorem k__law_one_by_one (D : Df K mg "_law_one_by_one" s__law_one_by_one ["_law_deeds", "_law_value"]) (D__law_done : Dn P w K mg base 1 "_law_done" ["_law_deed_here", "_law_value"] (spPut K)) : Dn P w K mg base 2 "_law_one_by_one" ["_law_deeds", "_law_value"] (spOBO K) := by
  refine D.ok fun f fd F => okG0 F sc__law_one_by_one (fun vs H Q E h => ?_) (fun cdv A outer s H vs Q E hr h => ⟨_, (pss_cons (ps_for PassesOwn.never rfl (kk (K := K) (F := fun K => iList K _) (P := PI _ _ _) (pi_list (pv 0))) (pg_name (i := 2) sc__law_one_by_one.nd rfl (Or.inl rfl))
      (pss_one (ps_set (i := 1) sc__law_one_by_one.nd rfl (Or.inl rfl) (pe_cD D__law_done (hr.less (by decide)) rfl (pa_cons (pv 2) (pa_cons (pv 1) pa_nil))))))
    (pss_one (ps_ret (pv 1)))), ?_⟩)
  · obtain ⟨D, ps, x, rfl, _⟩ := h; rfl
  · obtain ⟨D, ps, x, rfl, hD, hps, q⟩ := h
    refine ⟨_, rfl, D, rfl, ⟨_, SqL.of hD⟩, ?_⟩
    refine for_list (K := K) (a := D) (xs := ps.map fun x => V.ref x.1) (fun i σ H2 => H2 = H ∧ ∃ v : Option V, σ = [some (.ref D), some (.int (aps x ((dsOf ps).take i))), v]) ⟨rfl, none, rfl⟩ (fun i σ H2 _ h => by rw [h.1]; exact SqL.of hD) ?_ ?_
    · rintro i y σ H2 hi ⟨rfl, v, rfl⟩
      rw [List.getElem?_map] at hi
      obtain ⟨d, hd, rfl⟩ := Option.map_eq_some_iff.mp hi
      have hdi : (dsOf ps)[i]? = some d.2 := by unfold dsOf; rw [List.getElem?_map, hd] <;> rfl
      refine ⟨_, rfl, _, rfl, d.1, d.2, _, rfl, hps d (List.mem_of_getElem? hd), rfl, some (V.ref d.1), ?_⟩
      rw [take_snoc hdi, aps_snoc] <;> rfl
    · rintro σ H2 ⟨rfl, v, rfl⟩
      refine ⟨_, rfl, ?_⟩
      rw [show (dsOf ps).take (List.map (fun x : Addr × Dd => V.ref x.1) ps).length = dsOf ps by rw [List.length_map]; unfold dsOf; exact List.take_of_length_le (by rw [List.length_map]; omega)]
      exact q
def spMakes2 (K : PySem.W.Frag) : Sp := fun vs H Q _ => ∃ (p a D : Addr) (d : Dd) (ps : List (Addr × Dd)), vs = [.ref p, .ref a, .ref D] ∧ PotAt H p ∧ D ≠ p ∧ H D = some (.lst (ps.map fun x => V.ref x.1)) ∧ RefsAt K H ps ∧ SqT K H a d.vs ∧ (∀ v, d.ap v = aps v (dsOf ps)) ∧ ∀ H', But p H H' → PotAt H' p → Q (.bl true) H'
theorem k__law_makes (D : Df K mg "_law_makes" s__law_makes ["_law_pot_here", "_law_told", "_law_deeds"]) (D__law_values : Dn P w K mg base 3 "_law_values" ["_law_pot_here", "_law_deeds"] (spValues K)) (D__law_done : Dn P w K mg base 1 "_law_done" ["_law_deed_here", "_law_value"] (spPut K)) (D__law_one_by_one : Dn P w K mg base 2 "_law_one_by_one" ["_law_deeds", "_law_value"] (spOBO K)) : Dn P w K mg base 4 "_law_makes" ["_law_pot_here", "_law_told", "_law_deeds"] (spMakes2 K) := by
  refine D.ok fun f fd F => okG0 F sc__law_makes (fun vs H Q E h => ?_) (fun cdv A outer s H vs Q E hr h => ⟨_, (pss_cons (ps_for PassesOwn.never rfl (kk (K := K) (F := fun K => iList K _) (P := PI _ _ _) (pi_list (pe_cD D__law_values (hr.less (by decide)) rfl (pa_cons (pv 0) (pa_cons (pv 2) pa_nil))))) (pg_name (i := 3) sc__law_makes.nd rfl (Or.inl rfl))
      (pss_one (ps_if (pt_cmpR op_ne (pe_cD D__law_done (hr.less (by decide)) rfl (pa_cons (pv 1) (pa_cons (pv 3) pa_nil))) (pe_cD D__law_one_by_one (hr.less (by decide)) rfl (pa_cons (pv 2) (pa_cons (pv 3) pa_nil))) (nomark _))
       (pss_one (ps_ret pe_bl))
       pss_nil)))
    (pss_one (ps_ret pe_bl))), ?_⟩)
  · obtain ⟨p, a, D, d, ps, rfl, _⟩ := h; rfl
  · obtain ⟨p, a, D, d, ps, rfl, hp, nD, hD, hps, ha, hv, q⟩ := h
    refine ⟨_, rfl, _, rfl, p, D, ps, rfl, hp, nD, hD, hps, fun L ws H1 b1 p1 nL hL => ⟨L, rfl, ⟨_, SqL.of hL⟩, ?_⟩⟩
    obtain ⟨_, _, hp0, _⟩ := id hp
    have hD1 := b1 _ _ nD hD
    have hps1 := hps.but b1 hp0
    have ha1 := but_tup b1 hp0 ha
    refine for_list (K := K) (a := L) (xs := ws.map V.int) (fun i σ H2 => H2 = H1 ∧ ∃ v : Option V, σ = [some (.ref p), some (.ref a), some (.ref D), v]) ⟨rfl, none, rfl⟩ (fun i σ H2 _ h => by rw [h.1]; exact SqL.of hL) ?_ ?_
    · rintro i y σ H2 hi ⟨rfl, v, rfl⟩
      obtain ⟨x, rfl, _⟩ := at_map hi
      refine ⟨_, rfl, _, rfl, a, d, x, rfl, ha1, _, rfl, _, rfl, D, ps, x, rfl, hD1, hps1, rfl, _, rfl, ifF (dec_ne (by rw [hv])) ⟨rfl, _, rfl⟩⟩
    · rintro σ H2 ⟨rfl, v, rfl⟩
      exact q _ b1 p1
def spRight (K : PySem.W.Frag) : Sp := fun vs H Q _ => ∃ (p : Addr), vs = [.ref p] ∧ PotAt H p ∧ ∀ H', But p H H' → Q (.bl true) H'
theorem k__law_right (D : Df K mg "_law_right" s__law_right ["_law_pot_here"]) (D__law_board : Dn P w K mg base 3 "_law_board" ["_law_pot_here"] spBoard) (D__law_asks : Dn P w K mg base 4 "_law_asks" ["_law_pot_here", "_law_board_here", "_law_most"] spAsks) (D_all_of : Dn P w K mg base 7 "all_of" ["board", "asks"] (spAll K)) (D_ahead_of : Dn P w K mg base 7 "ahead_of" ["board", "asks"] (spAhead K)) (D__law_behind : Dn P w K mg base 2 "_law_behind" ["_law_one", "_law_other"] (spBehind K)) (D__law_makes : Dn P w K mg base 4 "_law_makes" ["_law_pot_here", "_law_told", "_law_deeds"] (spMakes2 K)) (D_played : Dn P w K mg base 7 "played" ["board", "asks"] (spPlay K)) (D__law_done : Dn P w K mg base 1 "_law_done" ["_law_deed_here", "_law_value"] (spPut K)) : Dn P w K mg base 8 "_law_right" ["_law_pot_here"] (spRight K) := by
  refine D.ok fun f fd F => okG0 F sc__law_right (fun vs H Q E h => ?_) (fun cdv A outer s H vs Q E hr h => ⟨_, (pss_cons (ps_set (i := 1) sc__law_right.nd rfl (Or.inl rfl) (pe_cD D__law_board (hr.less (by decide)) rfl (pa_cons (pv 0) pa_nil)))
    (pss_cons (ps_set (i := 2) sc__law_right.nd rfl (Or.inl rfl) (pe_cD D__law_asks (hr.less (by decide)) rfl (pa_cons (pv 0) (pa_cons (pv 1) (pa_cons pe_int pa_nil)))))
    (pss_cons (ps_set (i := 3) sc__law_right.nd rfl (Or.inl rfl) (pe_callB (reprK (K := K) hr) (by rfl) B.repr_ (by decide +kernel) (pa_cons (pe_lst (pa_cons (pv 1) (pa_cons (pv 2) pa_nil))) pa_nil)))
    (pss_cons (ps_par (i := 4) (j := 5) rfl sc__law_right.nd rfl rfl (by decide) rfl rfl (pa_cons (pe_cD D_all_of (hr.less (by decide)) rfl (pa_cons (pv 1) (pa_cons (pv 2) pa_nil))) (pa_cons (pe_cD D_ahead_of (hr.less (by decide)) rfl (pa_cons (pv 1) (pa_cons (pv 2) pa_nil))) pa_nil)) (by rfl))
    (pss_cons (ps_setLc (i := 6) (own := [("_law_value", 13)]) (g := gName 13) (tt := tYes) rfl sc__law_right.nd rfl rfl (sw_true rfl rfl rfl (by decide +kernel)) (kk (K := K) (F := fun K => iTup K _) (P := PI _ _ _) (pi_tup (pv 1))) (blkOk_by (own := [("_law_value", 13)]) (N := ["_law_pot_here", "_law_board_here", "_law_asks_here", "_law_kept", "_law_together", "_law_ahead", "_law_made", "_law_due", "_law_hand", "_law_box", "_law_deed_here", "_law_ask", "_law_k", "_law_value"]) (sc := defScope s__law_right) (by decide +kernel)) (fun _ _ _ _ _ => (pg_name (i := 13) sc__law_right.nd rfl (Or.inl rfl))) (fun _ _ _ _ _ => pts_nil) (fun _ _ _ _ _ => (pe_tup (pa_cons pe_int (pa_cons pe_non (pa_cons pe_non pa_nil))))))
    (pss_cons (ps_set (i := 7) sc__law_right.nd rfl (Or.inl rfl) (pe_lst pa_nil))
    (pss_cons (ps_for PassesOwn.never rfl (kk (K := K) (F := fun K => iTup K _) (P := PI _ _ _) (pi_tup (pv 2))) (kk (K := K) (F := fun K => gTup K _ _) (P := PG _ _) (pg_tup rfl (pgs_cons (pg_name (i := 8) sc__law_right.nd rfl (Or.inl rfl)) (pgs_cons (pg_name (i := 9) sc__law_right.nd rfl (Or.inr rfl)) (pgs_cons (pg_name (i := 10) sc__law_right.nd rfl (Or.inl rfl)) pgs_nil)))))
      (pss_cons (ps_expr (kk (K := K) (F := fun K => tBM K "list" _ _ _) (P := PE _ _) (pe_bm PySem.F.plainAttrs_list PySem.F.slot_list_append PySem.F.type_list_append mt_append (pv 7) (pa_cons (pe_ix (kk (K := K) (F := rIxL) (P := IxR _) ix_list) (pv 6) (pv 9) (fun _ _ => rfl)) pa_nil))))
      (pss_one (ps_asg (pe_cD D__law_behind (hr.less (by decide)) rfl (pa_cons (pe_ix (kk (K := K) (F := rIxL) (P := IxR _) ix_list) (pv 6) (pv 9) (fun _ _ => rfl)) (pa_cons (pv 10) pa_nil))) (pg_sub (pv 6) (pv 9) set_list)))))
    (pss_cons (ps_if (PW.pt (pw_or (pt_cmpR op_ne (pe_callB (reprK (K := K) hr) (by rfl) B.repr_ (by decide +kernel) (pa_cons (pv 4) pa_nil)) (pe_callB (reprK (K := K) hr) (by rfl) B.repr_ (by decide +kernel) (pa_cons (pe_callTy (tupOfK (K := K)) (by rfl) B.tuple_ (by decide +kernel) (pa_cons (pv 6) pa_nil)) pa_nil)) (nomark _)) (pw_or1 (pt_cmpR op_ne (pe_callB (reprK (K := K) hr) (by rfl) B.repr_ (by decide +kernel) (pa_cons (pv 5) pa_nil)) (pe_callB (reprK (K := K) hr) (by rfl) B.repr_ (by decide +kernel) (pa_cons (pe_callTy (tupOfK (K := K)) (by rfl) B.tuple_ (by decide +kernel) (pa_cons (pv 7) pa_nil)) pa_nil)) (nomark _)))))
      (pss_one (ps_ret pe_bl))
      pss_nil)
    (pss_cons (ps_for PassesOwn.never rfl (pi_range1 (by rfl) B.range_ (pa_cons (pe_callB (lenK (K := K)) (by rfl) B.len_ (by decide +kernel) (pa_cons (pv 1) pa_nil)) pa_nil)) (pg_name (i := 9) sc__law_right.nd rfl (Or.inr rfl))
      (pss_one (ps_if (pt_not (pt_val (pe_cD D__law_makes (hr.less (by decide)) rfl (pa_cons (pv 0) (pa_cons (pe_ix (kk (K := K) (F := rIxT) (P := IxR _) ix_tup) (pv 4) (pv 9) (fun _ _ => rfl)) (pa_cons (pe_lc (own := [("_law_ask", 11)]) (g := gName 11) rfl sc__law_right.nd (kk (K := K) (F := fun K => iTup K _) (P := PI _ _ _) (pi_tup (pv 2))) (blkOk_by (own := [("_law_ask", 11)]) (N := ["_law_pot_here", "_law_board_here", "_law_asks_here", "_law_kept", "_law_together", "_law_ahead", "_law_made", "_law_due", "_law_hand", "_law_box", "_law_deed_here", "_law_ask", "_law_k", "_law_value"]) (sc := defScope s__law_right) (by decide +kernel)) (fun _ _ _ _ _ => (pg_name (i := 11) sc__law_right.nd rfl (Or.inl rfl))) (fun _ _ _ _ _ => (pts_one (pt_cmpR op_eq (pe_ix (kk (K := K) (F := rIxT) (P := IxR _) ix_tup) (pv 11) pe_int (fun _ _ => rfl)) (pv 9) (nomark _)))) (fun _ _ _ _ _ => (pe_ix (kk (K := K) (F := rIxT) (P := IxR _) ix_tup) (pv 11) pe_int (fun _ _ => rfl)))) pa_nil))))))
       (pss_one (ps_ret pe_bl))
       pss_nil)))
    (pss_cons (ps_for PassesOwn.never rfl (kk (K := K) (F := fun K => iEnumT K _) (P := PI _ _ _) (pi_enumT (by rfl) B.enumerate_ (pa_cons (pv 2) pa_nil))) (kk (K := K) (F := fun K => gTup K _ _) (P := PG _ _) (pg_tup rfl (pgs_cons (pg_name (i := 12) sc__law_right.nd rfl (Or.inl rfl)) (pgs_cons (pg_name (i := 11) sc__law_right.nd rfl (Or.inl rfl)) pgs_nil))))
      (pss_one (ps_if (pt_cmpR op_ne (pe_ix (kk (K := K) (F := rIxT) (P := IxR _) ix_tup) (pe_ix (kk (K := K) (F := rIxT) (P := IxR _) ix_tup) (pe_cD D_played (hr.less (by decide)) rfl (pa_cons (pv 1) (pa_cons (pv 2) pa_nil))) pe_int (fun _ _ => rfl)) (pv 12) (fun _ _ => rfl)) (pe_cD D__law_done (hr.less (by decide)) rfl (pa_cons (pe_ix (kk (K := K) (F := rIxT) (P := IxR _) ix_tup) (pv 5) (pv 12) (fun _ _ => rfl)) (pa_cons (pe_ix (kk (K := K) (F := rIxT) (P := IxR _) ix_tup) (pv 1) (pe_ix (kk (K := K) (F := rIxT) (P := IxR _) ix_tup) (pv 11) pe_int (fun _ _ => rfl)) (fun _ _ => rfl)) pa_nil))) (nomark _))
       (pss_one (ps_ret pe_bl))
       pss_nil)))
    (pss_cons (ps_if (pt_cmpR op_ne (pe_callB (reprK (K := K) hr) (by rfl) B.repr_ (by decide +kernel) (pa_cons (pe_lst (pa_cons (pe_cD D_all_of (hr.less (by decide)) rfl (pa_cons (pv 1) (pa_cons (pv 2) pa_nil))) (pa_cons (pe_cD D_ahead_of (hr.less (by decide)) rfl (pa_cons (pv 1) (pa_cons (pv 2) pa_nil))) pa_nil))) pa_nil)) (pe_callB (reprK (K := K) hr) (by rfl) B.repr_ (by decide +kernel) (pa_cons (pe_lst (pa_cons (pv 4) (pa_cons (pv 5) pa_nil))) pa_nil)) (nomark _))
      (pss_one (ps_ret pe_bl))
      pss_nil)
    (pss_one (ps_ret (pe_cmpR op_eq (pe_callB (reprK (K := K) hr) (by rfl) B.repr_ (by decide +kernel) (pa_cons (pe_lst (pa_cons (pv 1) (pa_cons (pv 2) pa_nil))) pa_nil)) (pv 3) (nomark _))))))))))))))), ?_⟩)
  · obtain ⟨p, rfl, _⟩ := h; rfl
  · obtain ⟨p, rfl, hp, q⟩ := h
    refine ⟨_, rfl, p, rfl, hp, fun b bs H1 b1 p1 nb hb hw => ?_⟩
    refine ⟨_, rfl, _, rfl, p, b, bs, rfl, p1, hb, fun k as H2 b2 p2 nk hk => ?_⟩
    have hb2 : BoardAt H2 b bs := ⟨b2 _ _ (pot_ne hp nb) hb.1, hb.2⟩
    have hn := hb.2
    have B2 := b1.trans b2
    clear b1 b2 hb hp p1 nb nk
    obtain ⟨kd, ekd⟩ : ∃ d : PyData, d = .list [intsD bs, akD as] := ⟨_, rfl⟩
    have skd : Sh kd 4 2000000 := by
      rw [ekd]
      refine Sh.lst (f := id) (n := 3) (c := 800000) (j := 2) (xs := [intsD bs, akD as]) ?_ (Nat.le_refl _) (Nat.le_refl _) (by decide)
      intro x hx
      simp only [List.mem_cons, List.mem_nil_iff, or_false] at hx
      rcases hx with rfl | rfl
      · exact (ints_sh1 hw (by decide) hn.2).mono (by decide) (by decide)
      · exact hk.sh hn.2
    have dkd : ∀ {H' : Hp} {z : Addr}, BoardAt H' b bs → AsksAt H' k as bs.length → H' z = some (.lst [.ref b, .ref k]) → Dp K H' (.ref z) kd := fun h1 h2 hz => by
      rw [ekd]
      exact .lst (SqL.of hz) (.cons h1.dp (.cons h2.dp .nil))
    have h40 := hk.2.1
    have mi := made_in (n := bs.length) fun x hx => (hk.2.2 x hx).2.1.2.1
    obtain ⟨ml1, ml2⟩ := made_len (as := as) (n := bs.length)
    have sh1 := refs_sh mi.1 (by omega) (by omega)
    have sh2 := refs_sh mi.2 (by omega) (by omega)
    have ab := ahead_get (bs := bs) fun x hx => ⟨(hk.2.2 x hx).2.2.2.2, (hk.2.2 x hx).2.1.2.2⟩
    have mg' : ∀ c, c < bs.length → (madeOf as bs.length).2.getD c look = behs (boxd c as) := fun c hc => made_get hc fun x hx => (hk.2.2 x hx).2.2.2.2
    have bok : ∀ c, Oks (boxd c as) := fun c => boxd_ok fun x hx => (hk.2.2 x hx).2.1.2.2
    refine ⟨_, rfl, _, rfl, sz, fun z hz => rep_ (dkd (hb2.same (same_new hz _)) (hk.same (same_new hz _)) upd_same) skd (q := ?_)⟩
    have S3 := same_new hz (.lst [.ref b, .ref k])
    have hb3 := hb2.same S3
    have hk3 := hk.same S3
    refine ⟨_, rfl, _, rfl, b, k, bs, as, rfl, hb3, hk3, fun T1 q1 H4 S4 t1 d1 r1 => ?_⟩
    refine ⟨_, rfl, _, rfl, b, k, bs, as, rfl, hb3.same S4, hk3.same S4, fun T2 q2 H5 S5 t2 d2 r2 => ?_⟩
    have S35 := S4.trans S5
    have hb5 := hb3.same S35
    have hk5 := hk3.same S35
    have t15 := S5 _ _ t1
    have r15 := r1.same S5
    have p5 := p2.same (S3.trans S35)
    have B5 := B2.trans (same_but (S3.trans S35))
    clear S35 S5 S4 S3 hb3 hk3 t1 r1 hb2 p2 B2
    -- the law's own rows
    refine ⟨_, _, rfl, _, rfl, b, rfl, ⟨_, SqT.of hb5.1⟩, fun L hL => ?_⟩
    refine lc_tup (K := K) (a := b) (xs := bs.map V.int) (fun i H6 => ∃ ms : List (Addr × Dd), Same H5 H6 ∧ H6 L = some (.lst (ms.map fun x => V.ref x.1)) ∧ dsOf ms = List.replicate i look ∧ RefsAt K H6 ms)
      ⟨[], same_new hL _, upd_same, rfl, fun x hx => nomatch hx⟩ (fun i H6 _ h => by obtain ⟨_, h2, _⟩ := h; exact SqT.of (h2 _ _ hb5.1)) ?_ ?_
    · rintro i y H6 hi ⟨ms, S6, hL6, hd6, hm6⟩
      have hi2 : i < bs.length := by have := (List.getElem?_eq_some_iff.mp hi).1; rwa [List.length_map] at this
      refine ⟨rfl, sz, fun a ha => ?_⟩
      have S7 := same_new ha (.tup [.int 0, .non, .non])
      have hL7 := S7 _ _ hL6
      have naL : a ≠ L := (ne_of_none hL6 ha).symm
      refine ⟨_, hL7, small1000 (by rw [List.length_map, dsOf_len hd6, List.length_replicate]; omega), ms ++ [(a, look)], but_same hL (S6.trans S7) But.upd, by rw [upd_same, List.map_append] <;> rfl, ?_, ?_⟩
      · unfold dsOf at hd6 ⊢
        rw [List.map_append, hd6, List.replicate_succ'] <;> rfl
      · intro x hx
        have hx' : SqT K (upd H6 a (.tup [.int 0, .non, .non])) x.1 x.2.vs := by
          rcases List.mem_append.mp hx with h3 | h3
          · exact same_tup S7 (hm6 x h3)
          · have := List.mem_singleton.mp h3; subst this; exact SqT.of upd_same
        exact but_tup But.upd hL7 hx'
    rintro H6 ⟨ms, S6, hL6, hd6, hm6⟩
    rw [List.length_map] at hd6
    have hb6 := hb5.same S6
    have hk6 := hk5.same S6
    refine ⟨sz, fun M hM => ?_⟩
    have nLM : L ≠ M := ne_of_none hL6 hM
    have hM5 : H5 M = none := S6.free hM
    have S57 := S6.trans (same_new hM (.lst []))
    refine ⟨_, rfl, k, rfl, ⟨_, SqT.of ((same_new hM _) _ _ hk6.1)⟩, ?_⟩
    refine for_tup (K := K) (a := k) (xs := as.map fun x => .ref x.a) (fun i σ H7 => ∃ (v8 v9 v10 : Option V), σ = [some (.ref p), some (.ref b), some (.ref k), some (.str kd.shown), some (.ref T1), some (.ref T2), some (.ref L), some (.ref M), v8, v9, v10, none, none, none] ∧ Same H5 H7 ∧ MadeAt K H7 L M (madeOf (as.take i) bs.length))
      ⟨none, none, none, rfl, S57, MadeAt.new (by rw [upd_ne nLM]; exact hL6) upd_same (hm6.same (same_new hM _)) hd6⟩ (fun i σ H7 _ h => by obtain ⟨_, _, _, _, h2, _⟩ := h; exact SqT.of (h2 _ _ hk5.1)) ?_ ?_
    · rintro i y σ H7 hi ⟨v8, v9, v10, rfl, S7, hm⟩
      rw [List.getElem?_map] at hi
      obtain ⟨x, hx, rfl⟩ := Option.map_eq_some_iff.mp hi
      have hx1 := (hk5.2.2 x (List.mem_of_getElem? hx)).same S7
      have hil : i < as.length := (List.getElem?_eq_some_iff.mp hx).1
      rw [made_snoc hx]
      obtain ⟨l1, l2⟩ := made_len (as := as.take i) (n := bs.length)
      have l1' : (madeOf (as.take i) bs.length).1.length ≤ 40 := by rw [l1, List.length_take]; omega
      generalize madeOf (as.take i) bs.length = st at hm l2 l1'
      obtain ⟨y, ey, hy, hyM, fin⟩ := hm.turn (x := x) (by rw [l2]; exact hx1.2.2.2.2)
      refine ⟨x.a, _, rfl, SqT.of hx1.1, rfl, _, _, rfl, _, _, rfl, _, _, rfl, rfl, ?_⟩
      obtain ⟨ps1, ps2, hM4, hL4, e1, e2, r1, r2⟩ := id hm
      refine ⟨_, rfl, .inl ⟨rfl, _, SqL.of hM4⟩, _, rfl, _, rfl, L, _, _, _, rfl, rfl, SqL.of hL4, at_of (j := x.box) rfl (ey _ hL4), M, _, _, rfl, rfl, hM4, small1000 (by rw [List.length_map, dsOf_len e1]; omega), ?_⟩
      have b1 : But M H7 (upd H7 M (.lst (ps1.map (fun x => V.ref x.1) ++ [V.ref y.1]))) := But.upd
      have hL5 := b1 _ _ nLM hL4
      refine ⟨_, rfl, _, rfl, L, _, _, _, rfl, rfl, SqL.of hL5, at_of (j := x.box) rfl (ey _ hL4), _, rfl, y.1, x.da, y.2, x.d, rfl, but_tup b1 hM4 hy, but_tup b1 hM4 (SqT.of hx1.2.1.1), fun c H8 S8 _ hc => ?_⟩
      have hL6 := S8 _ _ hL5
      refine ⟨_, rfl, _, rfl, L, _, _, _, rfl, rfl, hL6, ixn (by rw [List.length_map, dsOf_len e2, l2]; exact hx1.2.2.2.2), ?_⟩
      refine ⟨_, _, _, rfl, fun a o ha => ?_, ?_⟩
      · rw [upd_ne (ne_of_none ha hL)]
        exact S8 _ _ (by rw [upd_ne (ne_of_none ha hM5)]; exact S7 _ _ ha)
      · exact fin ps1 ps2 _ c nLM e1 e2 r1 r2 hM4 S8 hL6 hc
    rintro σ H7 ⟨v8, v9, v10, rfl, S7, hm⟩
    rw [List.length_map, List.take_length] at hm
    obtain ⟨ps1, ps2, hM7, hL7, e1, e2, m1, m2⟩ := hm
    have t17 := S7 _ _ t15
    have t27 := S7 _ _ t2
    have r17 := r15.same S7
    have r27 := r2.same S7
    have hb7 := hb5.same S7
    have hk7 := hk5.same S7
    refine ⟨_, rfl, rep_ (refs_dp' d1 (SqT.of t17) r17) sh2 (q := ⟨_, rfl, L, _, rfl, .inl ⟨SqL.of hL7, fun u1 hu1 => ?_⟩⟩)⟩
    have S8 := same_new hu1 (.tup (ps2.map fun x => V.ref x.1))
    refine rep_ (refs_dp' e2 (SqT.of upd_same) (m2.same S8)) sh2 (q := ⟨rfl, _, rfl, ifF (dec_ne rfl) ?_⟩)
    refine ⟨_, rfl, rep_ (refs_dp' d2 (SqT.of (S8 _ _ t27)) (r27.same S8)) sh1 (q := ⟨_, rfl, M, _, rfl, .inl ⟨SqL.of (S8 _ _ hM7), fun u2 hu2 => ?_⟩⟩)⟩
    have S9 := same_new hu2 (.tup (ps1.map fun x => V.ref x.1))
    refine rep_ (refs_dp' e1 (SqT.of upd_same) ((m1.same S8).same S9)) sh1 (q := ⟨rfl, _, rfl, ifF (dec_ne rfl) ?_⟩)
    have S89 := S8.trans S9
    have hb9 := hb7.same S89
    have hk9 := hk7.same S89
    have t19 := S89 _ _ t17
    have t29 := S89 _ _ t27
    have r19 := r17.same S89
    have r29 := r27.same S89
    have p9 := p5.same (S7.trans S89)
    have B9 := B5.trans (same_but (S7.trans S89))
    generalize upd (upd H7 u1 (.tup (ps2.map fun x => V.ref x.1))) u2 (.tup (ps1.map fun x => V.ref x.1)) = H9 at hb9 hk9 t19 t29 r19 r29 p9 B9
    clear S89 S9 S8 hb7 hk7 t17 t27 r17 r27 hb5 hk5 t15 r15 t2 r2 p5 B5 hm6 hL6 S6 hb6 hk6 hL7 hM7 m1 m2 S7
    obtain ⟨_, _, hp9, _⟩ := id p9
    -- box by box
    refine ⟨_, rfl, b, _, rfl, .inr (SqT.of hb9.1), _, rfl, by rw [List.length_map]; omega, by rw [List.length_map]; omega, ?_⟩
    rw [List.length_map, show ((bs.length : Nat) : Int).toNat = bs.length from Int.toNat_natCast _]
    refine for_range (lo := 0) (n := bs.length) (fun i σ H => ∃ (v8 v9 v10 v11 v12 v13 : Option V), σ = [some (.ref p), some (.ref b), some (.ref k), some (.str kd.shown), some (.ref T1), some (.ref T2), some (.ref L), some (.ref M), v8, v9, v10, v11, v12, v13] ∧ But p H9 H ∧ PotAt H p)
      ⟨_, _, _, _, _, _, rfl, But.refl, p9⟩ ?_ ?_
    · rintro i σ H hi ⟨v8, v9, v10, v11, v12, v13, rfl, bH, pH⟩
      have hkH := hk9.but bH hp9
      have tH := bH _ _ (ne_of t19 hp9 (by intro z; cases z)) t19
      have rH := r19.but bH hp9
      obtain ⟨y, hy, hym, hyd, hyr⟩ := refs_get (ps := q1) (i := i) (by rw [dsOf_len d1, ml2]; exact hi)
      rw [d1, mg' i hi] at hyd
      refine ⟨_, rfl, _, rfl, _, rfl, T1, _, _, _, rfl, rfl, SqT.of tH, at_of (j := i) (Int.zero_add _) hyr, _, rfl, k, rfl, ⟨_, SqT.of hkH.1⟩, fun D hD => ?_⟩
      have nD := pot_ne pH hD
      refine lc_tup (K := K) (a := k) (xs := as.map fun x => .ref x.a) (fun j H' => ∃ es : List (Addr × Dd), Same H H' ∧ H' D = some (.lst (es.map fun x => V.ref x.1)) ∧ dsOf es = boxd i (as.take j) ∧ es.length ≤ j ∧ RefsAt K H' es)
        ⟨[], same_new hD _, upd_same, rfl, Nat.le_refl _, fun x hx => nomatch hx⟩ (fun j H' _ h => by obtain ⟨_, h2, _⟩ := h; exact SqT.of (h2 _ _ hkH.1)) ?_ ?_
      · rintro j y H' hj ⟨es, S', hD', hde, hle, hme⟩
        rw [List.getElem?_map] at hj
        obtain ⟨x, hx, rfl⟩ := Option.map_eq_some_iff.mp hj
        have hx1 := (hkH.2.2 x (List.mem_of_getElem? hx)).same S'
        have hjl : j < as.length := (List.getElem?_eq_some_iff.mp hx).1
        refine ⟨rfl, ?_⟩
        rw [take_snoc hx, boxd_snoc]
        refine ⟨_, rfl, x.a, _, _, _, rfl, rfl, SqT.of hx1.1, at_of (j := 1) rfl rfl, _, rfl, rfl, _, rfl, ite2 (fun c => ?_) (fun c => ?_)⟩
        · have c' : x.box = i := by have := V.int.inj (of_decide_eq_true c); omega
          rw [if_pos c']
          refine ⟨_, rfl, x.a, _, _, _, rfl, rfl, SqT.of hx1.1, at_of (j := 2) rfl rfl, ?_⟩
          refine ⟨_, hD', small1000 (by rw [List.length_map]; omega), es ++ [(x.da, x.d)], but_same hD S' But.upd, by rw [upd_same, List.map_append] <;> rfl, ?_, by rw [List.length_append]; show _ + 1 ≤ _; omega, ?_⟩
          · unfold dsOf at hde ⊢
            rw [List.map_append, hde] <;> rfl
          · intro z hz
            have hz' : SqT K H' z.1 z.2.vs := by
              rcases List.mem_append.mp hz with h3 | h3
              · exact hme z h3
              · have := List.mem_singleton.mp h3; subst this; exact SqT.of hx1.2.1.1
            exact but_tup But.upd hD' hz'
        · have c' : ¬ x.box = i := fun e => c (decide_eq_true (congrArg V.int (by omega)))
          rw [if_neg c']
          exact ⟨es, S', hD', hde, by omega, hme⟩
      · rintro H' ⟨es, S', hD', hde, hle, hme⟩
        rw [List.length_map, List.take_length] at hde
        refine ⟨p, y.1, D, y.2, es, rfl, pH.same S', nD, hD', hme, same_tup S' (rH y hym), fun v => by rw [hyd, behs_ap (bok i), hde], fun H'' b'' p'' => ⟨_, rfl, iteF ⟨_, _, _, _, _, _, rfl, bH.trans ((same_but S').trans b''), p''⟩⟩⟩
    rintro σ H ⟨v8, v9, v10, v11, v12, v13, rfl, bH, pH⟩
    have hkH := hk9.but bH hp9
    have hbH : BoardAt H b bs := ⟨bH _ _ (ne_of hb9.1 hp9 (by intro z; cases z)) hb9.1, hb9.2⟩
    have t1H := bH _ _ (ne_of t19 hp9 (by intro z; cases z)) t19
    have t2H := bH _ _ (ne_of t29 hp9 (by intro z; cases z)) t29
    have r1H := r19.but bH hp9
    have r2H := r29.but bH hp9
    have BH := B9.trans bH
    clear hb9 hk9 t19 t29 r19 r29 p9 B9 bH
    -- ask by ask
    refine ⟨_, rfl, k, _, rfl, SqT.of hkH.1, ?_⟩
    refine for_enumT (K := K) (a := k) (xs := as.map fun x => .ref x.a) (fun i σ H' => ∃ (v8 v9 v10 v11 v12 v13 : Option V), σ = [some (.ref p), some (.ref b), some (.ref k), some (.str kd.shown), some (.ref T1), some (.ref T2), some (.ref L), some (.ref M), v8, v9, v10, v11, v12, v13] ∧ Same H H')
      ⟨_, _, _, _, _, _, rfl, Same.refl H⟩ (fun i σ H' _ h => by obtain ⟨_, _, _, _, _, _, _, h2⟩ := h; exact SqT.of (h2 _ _ hkH.1)) ?_ ?_
    · rintro i y T σ H' hi ⟨v8, v9, v10, v11, v12, v13, rfl, S'⟩ hT
      rw [List.getElem?_map] at hi
      obtain ⟨x, hx, rfl⟩ := Option.map_eq_some_iff.mp hi
      have hil : i < as.length := (List.getElem?_eq_some_iff.mp hx).1
      have S1 := same_new hT (.tup [.int i, .ref x.a])
      have S2 := S'.trans S1
      have hk1 := hkH.same S2
      have hb1 := hbH.same S2
      have hx1 := hk1.2.2 x (List.mem_of_getElem? hx)
      obtain ⟨pl1, pl2⟩ := play_len (as := as) (bs := bs)
      refine ⟨T, _, rfl, SqT.of upd_same, rfl, _, _, rfl, _, _, rfl, rfl, ?_⟩
      refine ⟨_, rfl, _, rfl, b, k, bs, as, rfl, hb1, hk1, fun r u1 u2 H'' S'' g1 g2 g3 => ?_⟩
      refine ⟨r, _, _, _, rfl, rfl, SqT.of g1, at_of (j := 0) rfl rfl, _, rfl, u1, _, _, _, rfl, rfl, SqT.of g2, at_of (j := i) rfl (map_getD (by rw [pl1]; exact hil)), ?_⟩
      obtain ⟨y, hy, hym, hyd, hyr⟩ := refs_get (ps := q2) (i := i) (by rw [dsOf_len d2, ml1]; exact hil)
      rw [d2] at hyd
      have hx2 := hx1.same S''
      refine ⟨_, rfl, _, rfl, T2, _, _, _, rfl, rfl, SqT.of (S'' _ _ (S2 _ _ t2H)), at_of (j := i) rfl hyr, _, rfl, _, rfl, x.a, _, _, _, rfl, rfl, SqT.of hx2.1, at_of (j := 1) rfl rfl, b, _, _, _, rfl, rfl, SqT.of (hb1.same S'').1, at_of (j := x.box) rfl (map_getD hx2.2.2.2.2), y.1, y.2, _, rfl, (r2H.same (S2.trans S'')) y hym, rfl, _, rfl, ifF (dec_ne ?_) ⟨_, _, _, _, _, _, rfl, S2.trans S''⟩⟩
      rw [hyd, ab i x hx]
    rintro σ H' ⟨v8, v9, v10, v11, v12, v13, rfl, S'⟩
    have sdd : Sh (.list [refsD (madeOf as bs.length).2, refsD (madeOf as bs.length).1]) 3 600000 := by
      refine Sh.lst (f := id) (n := 2) (c := 250000) (j := 2) (xs := [refsD (madeOf as bs.length).2, refsD (madeOf as bs.length).1]) ?_ (Nat.le_refl _) (Nat.le_refl _) (by decide)
      intro x hx
      simp only [List.mem_cons, List.mem_nil_iff, or_false] at hx
      rcases hx with rfl | rfl
      · exact sh2
      · exact sh1
    refine ⟨_, rfl, _, rfl, b, k, bs, as, rfl, hbH.same S', hkH.same S', fun T3 q3 H3 S3 t3 d3 r3 => ⟨_, rfl, _, rfl, b, k, bs, as, rfl, (hbH.same S').same S3, (hkH.same S').same S3, fun T4 q4 H4 S4 t4 d4 r4 => ⟨sz, fun w1 hw1 => ?_⟩⟩⟩
    have S5 := same_new hw1 (.lst [.ref T3, .ref T4])
    refine rep_ (.lst (SqL.of upd_same) (.cons (refs_dp' d3 (SqT.of (S5 _ _ (S4 _ _ t3))) ((r3.same S4).same S5)) (.cons (refs_dp' d4 (SqT.of (S5 _ _ t4)) (r4.same S5)) .nil))) sdd (q := ⟨_, rfl, _, rfl, sz, fun w2 hw2 => ?_⟩)
    have S6 := same_new hw2 (.lst [.ref T1, .ref T2])
    have SA := S'.trans (S3.trans (S4.trans (S5.trans S6)))
    refine rep_ (.lst (SqL.of upd_same) (.cons (refs_dp' d1 (SqT.of (SA _ _ t1H)) (r1H.same SA)) (.cons (refs_dp' d2 (SqT.of (SA _ _ t2H)) (r2H.same SA)) .nil))) sdd (q := ⟨rfl, _, rfl, ifF (dec_ne rfl) ?_⟩)
    refine ⟨_, rfl, _, rfl, sz, fun w3 hw3 => ?_⟩
    have SB := SA.trans (same_new hw3 (.lst [.ref b, .ref k]))
    refine rep_ (dkd (hbH.same SB) (hkH.same SB) upd_same) skd (q := ⟨_, rfl, rfl, ?_⟩)
    rw [dec_self]
    exact q _ (BH.trans (same_but SB))
def spLaw (K : PySem.W.Frag) : Sp := fun vs H Q _ => ∃ (a : Addr) (ns : List Int), vs = [.ref a] ∧ SqL K H a (ns.map V.int) ∧ ns.length ≤ 63 ∧ ∀ H', Q (.bl true) H'
theorem k_law {f : Addr} {fd : FuncData} (F : Fun K "law" "law" s_law f fd) (D__law_pot : Dn P w K mg base 1 "_law_pot" ["_law_script", "_law_k"] (spPot2 K)) (D__law_right : Dn P w K mg base 8 "_law_right" ["_law_pot_here"] (spRight K)) : FnG P w K mg base CX0 51 f fd ["_law_script"] (spLaw K) := by
  refine okG0 F sc_law (fun vs H Q E h => ?_) (fun cdv A outer s H vs Q E hr h => ⟨_, (pss_one (ps_ret (pe_callB (kk (K := K) (F := rAll) (P := CallR _ _) (cr_all rfl)) (by rfl) B.all_ (by decide +kernel) (pa_cons (pe_lc (own := [("_law_k", 1)]) (g := gName 1) (tt := tYes) rfl sc_law.nd (pi_range1 (by rfl) B.range_ (pa_cons (pe_callB (call_max2 rfl) (by rfl) B.max_ (by decide +kernel) (pa_cons pe_int (pa_cons (pe_callB (call_min2 rfl) (by rfl) B.min_ (by decide +kernel) (pa_cons (pe_callB (lenK (K := K)) (by rfl) B.len_ (by decide +kernel) (pa_cons (pv 0) pa_nil)) (pa_cons pe_int pa_nil))) pa_nil))) pa_nil)) (blkOk_by (own := [("_law_k", 1)]) (N := ["_law_script", "_law_k"]) (sc := defScope s_law) (by decide +kernel)) (fun _ _ _ _ _ => (pg_name (i := 1) sc_law.nd rfl (Or.inl rfl))) (fun _ _ _ _ _ => pts_nil) (fun _ _ _ _ _ => (pe_cD D__law_right (hr.less (by decide)) rfl (pa_cons (pe_cD D__law_pot (hr.less (by decide)) rfl (pa_cons (pv 0) (pa_cons (pv 1) pa_nil))) pa_nil)))) pa_nil)))), ?_⟩)
  · obtain ⟨a, ns, rfl, _⟩ := h; rfl
  · obtain ⟨a, ns, rfl, hs, hn, q⟩ := h
    refine ⟨_, rfl, a, _, rfl, .inl hs, _, _, rfl, _, _, rfl, _, rfl, ?_, ?_, fun D hD => ?_⟩
    · split <;> split <;> omega
    · split <;> split <;> omega
    have hN : (if (if (6 : Int) < ((ns.map V.int).length : Nat) then (6 : Int) else ((ns.map V.int).length : Nat)) > 1 then (if (6 : Int) < ((ns.map V.int).length : Nat) then (6 : Int) else ((ns.map V.int).length : Nat)) else 1).toNat ≤ 6 := by split <;> split <;> omega
    generalize (if (if (6 : Int) < ((ns.map V.int).length : Nat) then (6 : Int) else ((ns.map V.int).length : Nat)) > 1 then (if (6 : Int) < ((ns.map V.int).length : Nat) then (6 : Int) else ((ns.map V.int).length : Nat)) else 1).toNat = n at hN
    refine lc_range (lo := 0) (n := n) (fun i H2 => Same H H2 ∧ H2 D = some (.lst ((List.replicate i true).map V.bl))) ⟨same_new hD _, upd_same⟩ ?_ ?_
    · rintro i H2 hi ⟨S2, hD2⟩
      refine ⟨rfl, ?_⟩
      refine ⟨_, rfl, _, rfl, a, ns, i, by show [V.ref a, V.int (0 + (i : Int))] = _; rw [Int.zero_add], S2.seq hs, by omega, fun p H3 np S3 p3 => ?_⟩
      refine ⟨p, rfl, p3, fun H4 b4 => ?_⟩
      have S4 := but_same np S3 b4
      exact ⟨_, S4 _ _ hD2, by rw [rep_len]; exact small1000 (by omega), but_same hD (S2.trans S4) But.upd, by rw [upd_same, rep_snoc]⟩
    · rintro H2 ⟨S2, hD2⟩
      refine ⟨D, _, rfl, SqL.of hD2, ?_⟩
      rw [rep_all]
      exact q _
end
structure AllD (K : PySem.W.Frag) (mg : Str → Option Value) : Prop where
  d_is_whole : Df K mg "is_whole" s_is_whole ["thing"]
  d_is_row_of : Df K mg "is_row_of" s_is_row_of ["thing", "many"]
  d_is_end : Df K mg "is_end" s_is_end ["thing"]
  d_is_deed : Df K mg "is_deed" s_is_deed ["thing"]
  d_put_through : Df K mg "put_through" s_put_through ["deed", "value"]
  d_whole_deed : Df K mg "whole_deed" s_whole_deed ["add", "low", "high"]
  d_one_behind : Df K mg "one_behind" s_one_behind ["one", "other"]
  d_is_board : Df K mg "is_board" s_is_board ["thing"]
  d_want_board : Df K mg "want_board" s_want_board ["board"]
  d_is_ask : Df K mg "is_ask" s_is_ask ["board", "thing"]
  d_are_asks : Df K mg "are_asks" s_are_asks ["board", "thing"]
  d_want_asks : Df K mg "want_asks" s_want_asks ["board", "asks"]
  d_played : Df K mg "played" s_played ["board", "asks"]
  d_all_of : Df K mg "all_of" s_all_of ["board", "asks"]
  d_ahead_of : Df K mg "ahead_of" s_ahead_of ["board", "asks"]
  d__law_pot : Df K mg "_law_pot" s__law_pot ["_law_script", "_law_k"]
  d__law_draw : Df K mg "_law_draw" s__law_draw ["_law_pot_here", "_law_many"]
  d__law_number : Df K mg "_law_number" s__law_number ["_law_pot_here"]
  d__law_deed : Df K mg "_law_deed" s__law_deed ["_law_pot_here"]
  d__law_board : Df K mg "_law_board" s__law_board ["_law_pot_here"]
  d__law_asks : Df K mg "_law_asks" s__law_asks ["_law_pot_here", "_law_board_here", "_law_most"]
  d__law_done : Df K mg "_law_done" s__law_done ["_law_deed_here", "_law_value"]
  d__law_behind : Df K mg "_law_behind" s__law_behind ["_law_one", "_law_other"]
  d__law_values : Df K mg "_law_values" s__law_values ["_law_pot_here", "_law_deeds"]
  d__law_one_by_one : Df K mg "_law_one_by_one" s__law_one_by_one ["_law_deeds", "_law_value"]
  d__law_makes : Df K mg "_law_makes" s__law_makes ["_law_pot_here", "_law_told", "_law_deeds"]
  d__law_right : Df K mg "_law_right" s__law_right ["_law_pot_here"]
  d_law : Df K mg "law" s_law ["_law_script"]
  bl : Bl K mg
theorem all_mk {w : World} {K : PySem.W.Frag} {h : Heap} {mg : Str → Option Value} (X : K.In h) (G : h.Ns mainGlobals mg)
    {f1 f2 f3 f4 f5 f6 f7 f8 f9 f10 f11 f12 f13 f14 f15 f16 f17 f18 f19 f20 f21 f22 f23 f24 f25 f26 f27 f28 : Addr} {od1 an1 od2 an2 od3 an3 od4 an4 od5 an5 od6 an6 od7 an7 od8 an8 od9 an9 od10 an10 od11 an11 od12 an12 od13 an13 od14 an14 od15 an15 od16 an16 od17 an17 od18 an18 od19 an19 od20 an20 od21 an21 od22 an22 od23 an23 od24 an24 od25 an25 od26 an26 od27 an27 od28 an28 : Option Addr} {sl1 sl2 sl3 sl4 sl5 sl6 sl7 sl8 sl9 sl10 sl11 sl12 sl13 sl14 sl15 sl16 sl17 sl18 sl19 sl20 sl21 sl22 sl23 sl24 sl25 sl26 sl27 sl28 : Array (Option Value)} {oc1 kV1 dc1 pm1 cd1 ct1 oc2 kV2 dc2 pm2 cd2 ct2 oc3 kV3 dc3 pm3 cd3 ct3 oc4 kV4 dc4 pm4 cd4 ct4 oc5 kV5 dc5 pm5 cd5 ct5 oc6 kV6 dc6 pm6 cd6 ct6 oc7 kV7 dc7 pm7 cd7 ct7 oc8 kV8 dc8 pm8 cd8 ct8 oc9 kV9 dc9 pm9 cd9 ct9 oc10 kV10 dc10 pm10 cd10 ct10 oc11 kV11 dc11 pm11 cd11 ct11 oc12 kV12 dc12 pm12 cd12 ct12 oc13 kV13 dc13 pm13 cd13 ct13 oc14 kV14 dc14 pm14 cd14 ct14 oc15 kV15 dc15 pm15 cd15 ct15 oc16 kV16 dc16 pm16 cd16 ct16 oc17 kV17 dc17 pm17 cd17 ct17 oc18 kV18 dc18 pm18 cd18 ct18 oc19 kV19 dc19 pm19 cd19 ct19 oc20 kV20 dc20 pm20 cd20 ct20 oc21 kV21 dc21 pm21 cd21 ct21 oc22 kV22 dc22 pm22 cd22 ct22 oc23 kV23 dc23 pm23 cd23 ct23 oc24 kV24 dc24 pm24 cd24 ct24 oc25 kV25 dc25 pm25 cd25 ct25 oc26 kV26 dc26 pm26 cd26 ct26 oc27 kV27 dc27 pm27 cd27 ct27 oc28 kV28 dc28 pm28 cd28 ct28 : Value}
    (a1 : PySem.W.nsIn K mainGlobals "is_whole" = some (some (.ref f1))) (l1 : K.lookup f1 = some ⟨oc1, od1, .func (PySem.W.fnOf "is_whole" "is_whole" (defArgs s_is_whole) (defBody s_is_whole) (defScope s_is_whole) .none kV1 dc1 pm1 an1 cd1 ct1), sl1⟩) (c1 : PySem.W.codeIn K cd1 "is_whole" = true) (k1 : PySem.W.keepIn K (.ref f1) = true)
    (a2 : PySem.W.nsIn K mainGlobals "is_row_of" = some (some (.ref f2))) (l2 : K.lookup f2 = some ⟨oc2, od2, .func (PySem.W.fnOf "is_row_of" "is_row_of" (defArgs s_is_row_of) (defBody s_is_row_of) (defScope s_is_row_of) .none kV2 dc2 pm2 an2 cd2 ct2), sl2⟩) (c2 : PySem.W.codeIn K cd2 "is_row_of" = true) (k2 : PySem.W.keepIn K (.ref f2) = true)
    (a3 : PySem.W.nsIn K mainGlobals "is_end" = some (some (.ref f3))) (l3 : K.lookup f3 = some ⟨oc3, od3, .func (PySem.W.fnOf "is_end" "is_end" (defArgs s_is_end) (defBody s_is_end) (defScope s_is_end) .none kV3 dc3 pm3 an3 cd3 ct3), sl3⟩) (c3 : PySem.W.codeIn K cd3 "is_end" = true) (k3 : PySem.W.keepIn K (.ref f3) = true)
    (a4 : PySem.W.nsIn K mainGlobals "is_deed" = some (some (.ref f4))) (l4 : K.lookup f4 = some ⟨oc4, od4, .func (PySem.W.fnOf "is_deed" "is_deed" (defArgs s_is_deed) (defBody s_is_deed) (defScope s_is_deed) .none kV4 dc4 pm4 an4 cd4 ct4), sl4⟩) (c4 : PySem.W.codeIn K cd4 "is_deed" = true) (k4 : PySem.W.keepIn K (.ref f4) = true)
    (a5 : PySem.W.nsIn K mainGlobals "put_through" = some (some (.ref f5))) (l5 : K.lookup f5 = some ⟨oc5, od5, .func (PySem.W.fnOf "put_through" "put_through" (defArgs s_put_through) (defBody s_put_through) (defScope s_put_through) .none kV5 dc5 pm5 an5 cd5 ct5), sl5⟩) (c5 : PySem.W.codeIn K cd5 "put_through" = true) (k5 : PySem.W.keepIn K (.ref f5) = true)
    (a6 : PySem.W.nsIn K mainGlobals "whole_deed" = some (some (.ref f6))) (l6 : K.lookup f6 = some ⟨oc6, od6, .func (PySem.W.fnOf "whole_deed" "whole_deed" (defArgs s_whole_deed) (defBody s_whole_deed) (defScope s_whole_deed) .none kV6 dc6 pm6 an6 cd6 ct6), sl6⟩) (c6 : PySem.W.codeIn K cd6 "whole_deed" = true) (k6 : PySem.W.keepIn K (.ref f6) = true)
    (a7 : PySem.W.nsIn K mainGlobals "one_behind" = some (some (.ref f7))) (l7 : K.lookup f7 = some ⟨oc7, od7, .func (PySem.W.fnOf "one_behind" "one_behind" (defArgs s_one_behind) (defBody s_one_behind) (defScope s_one_behind) .none kV7 dc7 pm7 an7 cd7 ct7), sl7⟩) (c7 : PySem.W.codeIn K cd7 "one_behind" = true) (k7 : PySem.W.keepIn K (.ref f7) = true)
    (a8 : PySem.W.nsIn K mainGlobals "is_board" = some (some (.ref f8))) (l8 : K.lookup f8 = some ⟨oc8, od8, .func (PySem.W.fnOf "is_board" "is_board" (defArgs s_is_board) (defBody s_is_board) (defScope s_is_board) .none kV8 dc8 pm8 an8 cd8 ct8), sl8⟩) (c8 : PySem.W.codeIn K cd8 "is_board" = true) (k8 : PySem.W.keepIn K (.ref f8) = true)
    (a9 : PySem.W.nsIn K mainGlobals "want_board" = some (some (.ref f9))) (l9 : K.lookup f9 = some ⟨oc9, od9, .func (PySem.W.fnOf "want_board" "want_board" (defArgs s_want_board) (defBody s_want_board) (defScope s_want_board) .none kV9 dc9 pm9 an9 cd9 ct9), sl9⟩) (c9 : PySem.W.codeIn K cd9 "want_board" = true) (k9 : PySem.W.keepIn K (.ref f9) = true)
    (a10 : PySem.W.nsIn K mainGlobals "is_ask" = some (some (.ref f10))) (l10 : K.lookup f10 = some ⟨oc10, od10, .func (PySem.W.fnOf "is_ask" "is_ask" (defArgs s_is_ask) (defBody s_is_ask) (defScope s_is_ask) .none kV10 dc10 pm10 an10 cd10 ct10), sl10⟩) (c10 : PySem.W.codeIn K cd10 "is_ask" = true) (k10 : PySem.W.keepIn K (.ref f10) = true)
    (a11 : PySem.W.nsIn K mainGlobals "are_asks" = some (some (.ref f11))) (l11 : K.lookup f11 = some ⟨oc11, od11, .func (PySem.W.fnOf "are_asks" "are_asks" (defArgs s_are_asks) (defBody s_are_asks) (defScope s_are_asks) .none kV11 dc11 pm11 an11 cd11 ct11), sl11⟩) (c11 : PySem.W.codeIn K cd11 "are_asks" = true) (k11 : PySem.W.keepIn K (.ref f11) = true)
    (a12 : PySem.W.nsIn K mainGlobals "want_asks" = some (some (.ref f12))) (l12 : K.lookup f12 = some ⟨oc12, od12, .func (PySem.W.fnOf "want_asks" "want_asks" (defArgs s_want_asks) (defBody s_want_asks) (defScope s_want_asks) .none kV12 dc12 pm12 an12 cd12 ct12), sl12⟩) (c12 : PySem.W.codeIn K cd12 "want_asks" = true) (k12 : PySem.W.keepIn K (.ref f12) = true)
    (a13 : PySem.W.nsIn K mainGlobals "played" = some (some (.ref f13))) (l13 : K.lookup f13 = some ⟨oc13, od13, .func (PySem.W.fnOf "played" "played" (defArgs s_played) (defBody s_played) (defScope s_played) .none kV13 dc13 pm13 an13 cd13 ct13), sl13⟩) (c13 : PySem.W.codeIn K cd13 "played" = true) (k13 : PySem.W.keepIn K (.ref f13) = true)
    (a14 : PySem.W.nsIn K mainGlobals "all_of" = some (some (.ref f14))) (l14 : K.lookup f14 = some ⟨oc14, od14, .func (PySem.W.fnOf "all_of" "all_of" (defArgs s_all_of) (defBody s_all_of) (defScope s_all_of) .none kV14 dc14 pm14 an14 cd14 ct14), sl14⟩) (c14 : PySem.W.codeIn K cd14 "all_of" = true) (k14 : PySem.W.keepIn K (.ref f14) = true)
    (a15 : PySem.W.nsIn K mainGlobals "ahead_of" = some (some (.ref f15))) (l15 : K.lookup f15 = some ⟨oc15, od15, .func (PySem.W.fnOf "ahead_of" "ahead_of" (defArgs s_ahead_of) (defBody s_ahead_of) (defScope s_ahead_of) .none kV15 dc15 pm15 an15 cd15 ct15), sl15⟩) (c15 : PySem.W.codeIn K cd15 "ahead_of" = true) (k15 : PySem.W.keepIn K (.ref f15) = true)
    (a16 : PySem.W.nsIn K mainGlobals "_law_pot" = some (some (.ref f16))) (l16 : K.lookup f16 = some ⟨oc16, od16, .func (PySem.W.fnOf "_law_pot" "_law_pot" (defArgs s__law_pot) (defBody s__law_pot) (defScope s__law_pot) .none kV16 dc16 pm16 an16 cd16 ct16), sl16⟩) (c16 : PySem.W.codeIn K cd16 "_law_pot" = true) (k16 : PySem.W.keepIn K (.ref f16) = true)
    (a17 : PySem.W.nsIn K mainGlobals "_law_draw" = some (some (.ref f17))) (l17 : K.lookup f17 = some ⟨oc17, od17, .func (PySem.W.fnOf "_law_draw" "_law_draw" (defArgs s__law_draw) (defBody s__law_draw) (defScope s__law_draw) .none kV17 dc17 pm17 an17 cd17 ct17), sl17⟩) (c17 : PySem.W.codeIn K cd17 "_law_draw" = true) (k17 : PySem.W.keepIn K (.ref f17) = true)
    (a18 : PySem.W.nsIn K mainGlobals "_law_number" = some (some (.ref f18))) (l18 : K.lookup f18 = some ⟨oc18, od18, .func (PySem.W.fnOf "_law_number" "_law_number" (defArgs s__law_number) (defBody s__law_number) (defScope s__law_number) .none kV18 dc18 pm18 an18 cd18 ct18), sl18⟩) (c18 : PySem.W.codeIn K cd18 "_law_number" = true) (k18 : PySem.W.keepIn K (.ref f18) = true)
    (a19 : PySem.W.nsIn K mainGlobals "_law_deed" = some (some (.ref f19))) (l19 : K.lookup f19 = some ⟨oc19, od19, .func (PySem.W.fnOf "_law_deed" "_law_deed" (defArgs s__law_deed) (defBody s__law_deed) (defScope s__law_deed) .none kV19 dc19 pm19 an19 cd19 ct19), sl19⟩) (c19 : PySem.W.codeIn K cd19 "_law_deed" = true) (k19 : PySem.W.keepIn K (.ref f19) = true)
    (a20 : PySem.W.nsIn K mainGlobals "_law_board" = some (some (.ref f20))) (l20 : K.lookup f20 = some ⟨oc20, od20, .func (PySem.W.fnOf "_law_board" "_law_board" (defArgs s__law_board) (defBody s__law_board) (defScope s__law_board) .none kV20 dc20 pm20 an20 cd20 ct20), sl20⟩) (c20 : PySem.W.codeIn K cd20 "_law_board" = true) (k20 : PySem.W.keepIn K (.ref f20) = true)
    (a21 : PySem.W.nsIn K mainGlobals "_law_asks" = some (some (.ref f21))) (l21 : K.lookup f21 = some ⟨oc21, od21, .func (PySem.W.fnOf "_law_asks" "_law_asks" (defArgs s__law_asks) (defBody s__law_asks) (defScope s__law_asks) .none kV21 dc21 pm21 an21 cd21 ct21), sl21⟩) (c21 : PySem.W.codeIn K cd21 "_law_asks" = true) (k21 : PySem.W.keepIn K (.ref f21) = true)
    (a22 : PySem.W.nsIn K mainGlobals "_law_done" = some (some (.ref f22))) (l22 : K.lookup f22 = some ⟨oc22, od22, .func (PySem.W.fnOf "_law_done" "_law_done" (defArgs s__law_done) (defBody s__law_done) (defScope s__law_done) .none kV22 dc22 pm22 an22 cd22 ct22), sl22⟩) (c22 : PySem.W.codeIn K cd22 "_law_done" = true) (k22 : PySem.W.keepIn K (.ref f22) = true)
    (a23 : PySem.W.nsIn K mainGlobals "_law_behind" = some (some (.ref f23))) (l23 : K.lookup f23 = some ⟨oc23, od23, .func (PySem.W.fnOf "_law_behind" "_law_behind" (defArgs s__law_behind) (defBody s__law_behind) (defScope s__law_behind) .none kV23 dc23 pm23 an23 cd23 ct23), sl23⟩) (c23 : PySem.W.codeIn K cd23 "_law_behind" = true) (k23 : PySem.W.keepIn K (.ref f23) = true)
    (a24 : PySem.W.nsIn K mainGlobals "_law_values" = some (some (.ref f24))) (l24 : K.lookup f24 = some ⟨oc24, od24, .func (PySem.W.fnOf "_law_values" "_law_values" (defArgs s__law_values) (defBody s__law_values) (defScope s__law_values) .none kV24 dc24 pm24 an24 cd24 ct24), sl24⟩) (c24 : PySem.W.codeIn K cd24 "_law_values" = true) (k24 : PySem.W.keepIn K (.ref f24) = true)
    (a25 : PySem.W.nsIn K mainGlobals "_law_one_by_one" = some (some (.ref f25))) (l25 : K.lookup f25 = some ⟨oc25, od25, .func (PySem.W.fnOf "_law_one_by_one" "_law_one_by_one" (defArgs s__law_one_by_one) (defBody s__law_one_by_one) (defScope s__law_one_by_one) .none kV25 dc25 pm25 an25 cd25 ct25), sl25⟩) (c25 : PySem.W.codeIn K cd25 "_law_one_by_one" = true) (k25 : PySem.W.keepIn K (.ref f25) = true)
    (a26 : PySem.W.nsIn K mainGlobals "_law_makes" = some (some (.ref f26))) (l26 : K.lookup f26 = some ⟨oc26, od26, .func (PySem.W.fnOf "_law_makes" "_law_makes" (defArgs s__law_makes) (defBody s__law_makes) (defScope s__law_makes) .none kV26 dc26 pm26 an26 cd26 ct26), sl26⟩) (c26 : PySem.W.codeIn K cd26 "_law_makes" = true) (k26 : PySem.W.keepIn K (.ref f26) = true)
    (a27 : PySem.W.nsIn K mainGlobals "_law_right" = some (some (.ref f27))) (l27 : K.lookup f27 = some ⟨oc27, od27, .func (PySem.W.fnOf "_law_right" "_law_right" (defArgs s__law_right) (defBody s__law_right) (defScope s__law_right) .none kV27 dc27 pm27 an27 cd27 ct27), sl27⟩) (c27 : PySem.W.codeIn K cd27 "_law_right" = true) (k27 : PySem.W.keepIn K (.ref f27) = true)
    (a28 : PySem.W.nsIn K mainGlobals "law" = some (some (.ref f28))) (l28 : K.lookup f28 = some ⟨oc28, od28, .func (PySem.W.fnOf "law" "law" (defArgs s_law) (defBody s_law) (defScope s_law) .none kV28 dc28 pm28 an28 cd28 ct28), sl28⟩) (c28 : PySem.W.codeIn K cd28 "law" = true) (k28 : PySem.W.keepIn K (.ref f28) = true)
    (z0 : PySem.W.nsIn K mainGlobals "all" = some none)
    (z1 : PySem.W.nsIn K mainGlobals "bool" = some none)
    (z2 : PySem.W.nsIn K mainGlobals "enumerate" = some none)
    (z3 : PySem.W.nsIn K mainGlobals "int" = some none)
    (z4 : PySem.W.nsIn K mainGlobals "isinstance" = some none)
    (z5 : PySem.W.nsIn K mainGlobals "len" = some none)
    (z6 : PySem.W.nsIn K mainGlobals "list" = some none)
    (z7 : PySem.W.nsIn K mainGlobals "max" = some none)
    (z8 : PySem.W.nsIn K mainGlobals "min" = some none)
    (z9 : PySem.W.nsIn K mainGlobals "range" = some none)
    (z10 : PySem.W.nsIn K mainGlobals "repr" = some none)
    (z11 : PySem.W.nsIn K mainGlobals "tuple" = some none)
    {tc0_0 : Tok} {ga0 : Addr} {gd0 : Option Addr} {gn0 : Nat} {gs0 : Array (Option Value)} (cst0 : PySem.W.nsIn K mainGlobals "LOOK" = some (some (.ref ga0))) (cstl0 : K.lookup ga0 = some ⟨.type "tuple", gd0, .seq #[.int 0 tc0_0, .none, .none] gn0, gs0⟩)
    {tc1 : Tok} (cst1 : PySem.W.nsIn K mainGlobals "MOST_BOXES" = some (some (.int 16 tc1)))
    {tc2 : Tok} (cst2 : PySem.W.nsIn K mainGlobals "HANDS" = some (some (.int 16 tc2)))
    : AllD K mg := by
  exact ⟨Df.of l1 c1 k1 (PySem.W.mg_of X G a1) (fun _ _ _ _ _ _ us hl => match us, hl with | [_], _ => rfl), Df.of l2 c2 k2 (PySem.W.mg_of X G a2) (fun _ _ _ _ _ _ us hl => match us, hl with | [_, _], _ => rfl), Df.of l3 c3 k3 (PySem.W.mg_of X G a3) (fun _ _ _ _ _ _ us hl => match us, hl with | [_], _ => rfl), Df.of l4 c4 k4 (PySem.W.mg_of X G a4) (fun _ _ _ _ _ _ us hl => match us, hl with | [_], _ => rfl), Df.of l5 c5 k5 (PySem.W.mg_of X G a5) (fun _ _ _ _ _ _ us hl => match us, hl with | [_, _], _ => rfl), Df.of l6 c6 k6 (PySem.W.mg_of X G a6) (fun _ _ _ _ _ _ us hl => match us, hl with | [_, _, _], _ => rfl), Df.of l7 c7 k7 (PySem.W.mg_of X G a7) (fun _ _ _ _ _ _ us hl => match us, hl with | [_, _], _ => rfl), Df.of l8 c8 k8 (PySem.W.mg_of X G a8) (fun _ _ _ _ _ _ us hl => match us, hl with | [_], _ => rfl), Df.of l9 c9 k9 (PySem.W.mg_of X G a9) (fun _ _ _ _ _ _ us hl => match us, hl with | [_], _ => rfl), Df.of l10 c10 k10 (PySem.W.mg_of X G a10) (fun _ _ _ _ _ _ us hl => match us, hl with | [_, _], _ => rfl), Df.of l11 c11 k11 (PySem.W.mg_of X G a11) (fun _ _ _ _ _ _ us hl => match us, hl with | [_, _], _ => rfl), Df.of l12 c12 k12 (PySem.W.mg_of X G a12) (fun _ _ _ _ _ _ us hl => match us, hl with | [_, _], _ => rfl), Df.of l13 c13 k13 (PySem.W.mg_of X G a13) (fun _ _ _ _ _ _ us hl => match us, hl with | [_, _], _ => rfl), Df.of l14 c14 k14 (PySem.W.mg_of X G a14) (fun _ _ _ _ _ _ us hl => match us, hl with | [_, _], _ => rfl), Df.of l15 c15 k15 (PySem.W.mg_of X G a15) (fun _ _ _ _ _ _ us hl => match us, hl with | [_, _], _ => rfl), Df.of l16 c16 k16 (PySem.W.mg_of X G a16) (fun _ _ _ _ _ _ us hl => match us, hl with | [_, _], _ => rfl), Df.of l17 c17 k17 (PySem.W.mg_of X G a17) (fun _ _ _ _ _ _ us hl => match us, hl with | [_, _], _ => rfl), Df.of l18 c18 k18 (PySem.W.mg_of X G a18) (fun _ _ _ _ _ _ us hl => match us, hl with | [_], _ => rfl), Df.of l19 c19 k19 (PySem.W.mg_of X G a19) (fun _ _ _ _ _ _ us hl => match us, hl with | [_], _ => rfl), Df.of l20 c20 k20 (PySem.W.mg_of X G a20) (fun _ _ _ _ _ _ us hl => match us, hl with | [_], _ => rfl), Df.of l21 c21 k21 (PySem.W.mg_of X G a21) (fun _ _ _ _ _ _ us hl => match us, hl with | [_, _, _], _ => rfl), Df.of l22 c22 k22 (PySem.W.mg_of X G a22) (fun _ _ _ _ _ _ us hl => match us, hl with | [_, _], _ => rfl), Df.of l23 c23 k23 (PySem.W.mg_of X G a23) (fun _ _ _ _ _ _ us hl => match us, hl with | [_, _], _ => rfl), Df.of l24 c24 k24 (PySem.W.mg_of X G a24) (fun _ _ _ _ _ _ us hl => match us, hl with | [_, _], _ => rfl), Df.of l25 c25 k25 (PySem.W.mg_of X G a25) (fun _ _ _ _ _ _ us hl => match us, hl with | [_, _], _ => rfl), Df.of l26 c26 k26 (PySem.W.mg_of X G a26) (fun _ _ _ _ _ _ us hl => match us, hl with | [_, _, _], _ => rfl), Df.of l27 c27 k27 (PySem.W.mg_of X G a27) (fun _ _ _ _ _ _ us hl => match us, hl with | [_], _ => rfl), Df.of l28 c28 k28 (PySem.W.mg_of X G a28) (fun _ _ _ _ _ _ us hl => match us, hl with | [_], _ => rfl), ⟨PySem.W.mg_none_of X G z0, PySem.W.mg_none_of X G z1, PySem.W.mg_none_of X G z2, PySem.W.mg_none_of X G z3, PySem.W.mg_none_of X G z4, PySem.W.mg_none_of X G z5, PySem.W.mg_none_of X G z6, PySem.W.mg_none_of X G z7, PySem.W.mg_none_of X G z8, PySem.W.mg_none_of X G z9, PySem.W.mg_none_of X G z10, PySem.W.mg_none_of X G z11, ⟨_, PySem.W.mg_of X G cst0, _, _, _, cstl0, rfl, rfl, by show 3 ≤ sizeLine; decide, (.cons ⟨_, rfl⟩ (.cons rfl (.cons rfl .nil)))⟩, ⟨_, PySem.W.mg_of X G cst1⟩, ⟨_, PySem.W.mg_of X G cst2⟩⟩⟩

theorem law_fd {P : Program} {w : World} {K : PySem.W.Frag} {mg : Str → Option Value} {fa : Addr} (A : AllD K mg) (hfa : mg "law" = some (.ref fa)) :
    ∃ fd : FuncData, (∀ (s : Shared) (v : Value), BindsTo s fd ⟨[v], []⟩ [("_law_script", v)]) ∧ ∀ base : Heap, K.In base → base.Ns mainGlobals mg → FnG P w K mg base CX0 51 fa fd ["_law_script"] (spLaw K) := by
  obtain ⟨f, fd, F, m, b⟩ := A.d_law.ex
  have e := hfa.symm.trans m
  cases e
  refine ⟨fd, fun s v => by obtain ⟨oc, od, kV, doc, pm, an, cdv, ct, osl, rfl, lk, hcd⟩ := F.ex; exact .of_eq rfl, fun base _ _ => ?_⟩
  have B := A.bl
  have D_is_whole : Dn P w K mg base 1 "is_whole" ["thing"] spIsWhole := k_is_whole B A.d_is_whole 
  have D_is_row_of : Dn P w K mg base 1 "is_row_of" ["thing", "many"] (spIsRow K) := k_is_row_of B A.d_is_row_of 
  have D_is_end : Dn P w K mg base 2 "is_end" ["thing"] spIsEnd := k_is_end B A.d_is_end D_is_whole
  have D_is_deed : Dn P w K mg base 3 "is_deed" ["thing"] (spIsDeed K) := k_is_deed B A.d_is_deed D_is_whole D_is_row_of D_is_end
  have D_put_through : Dn P w K mg base 1 "put_through" ["deed", "value"] (spPut K) := k_put_through B A.d_put_through 
  have D_whole_deed : Dn P w K mg base 1 "whole_deed" ["add", "low", "high"] spWholeDeed := k_whole_deed B A.d_whole_deed 
  have D_one_behind : Dn P w K mg base 2 "one_behind" ["one", "other"] (spBehind K) := k_one_behind B A.d_one_behind D_put_through D_whole_deed
  have D_is_board : Dn P w K mg base 2 "is_board" ["thing"] (spIsBoard K) := k_is_board B A.d_is_board D_is_whole
  have D_want_board : Dn P w K mg base 3 "want_board" ["board"] (spWantBoard K) := k_want_board B A.d_want_board D_is_board
  have D_is_ask : Dn P w K mg base 4 "is_ask" ["board", "thing"] (spIsAsk K) := k_is_ask B A.d_is_ask D_is_whole D_is_deed
  have D_are_asks : Dn P w K mg base 5 "are_asks" ["board", "thing"] (spAreAsks K) := k_are_asks B A.d_are_asks D_want_board D_is_ask
  have D_want_asks : Dn P w K mg base 6 "want_asks" ["board", "asks"] (spWantAsks K) := k_want_asks B A.d_want_asks D_are_asks
  have D_played : Dn P w K mg base 7 "played" ["board", "asks"] (spPlay K) := k_played B A.d_played D_want_asks D_put_through
  have D_all_of : Dn P w K mg base 7 "all_of" ["board", "asks"] (spAll K) := k_all_of B A.d_all_of D_want_asks D_one_behind
  have D_ahead_of : Dn P w K mg base 7 "ahead_of" ["board", "asks"] (spAhead K) := k_ahead_of B A.d_ahead_of D_want_asks D_one_behind
  have D__law_pot : Dn P w K mg base 1 "_law_pot" ["_law_script", "_law_k"] (spPot2 K) := k__law_pot B A.d__law_pot 
  have D__law_draw : Dn P w K mg base 1 "_law_draw" ["_law_pot_here", "_law_many"] spTake := k__law_draw B A.d__law_draw 
  have D__law_number : Dn P w K mg base 2 "_law_number" ["_law_pot_here"] spNumber := k__law_number B A.d__law_number D__law_draw
  have D__law_deed : Dn P w K mg base 3 "_law_deed" ["_law_pot_here"] spDeed := k__law_deed B A.d__law_deed D__law_draw D__law_number
  have D__law_board : Dn P w K mg base 3 "_law_board" ["_law_pot_here"] spBoard := k__law_board B A.d__law_board D__law_draw D__law_number
  have D__law_asks : Dn P w K mg base 4 "_law_asks" ["_law_pot_here", "_law_board_here", "_law_most"] spAsks := k__law_asks B A.d__law_asks D__law_draw D__law_deed
  have D__law_done : Dn P w K mg base 1 "_law_done" ["_law_deed_here", "_law_value"] (spPut K) := k__law_done B A.d__law_done 
  have D__law_behind : Dn P w K mg base 2 "_law_behind" ["_law_one", "_law_other"] (spBehind K) := k__law_behind B A.d__law_behind D__law_done
  have D__law_values : Dn P w K mg base 3 "_law_values" ["_law_pot_here", "_law_deeds"] (spValues K) := k__law_values B A.d__law_values D__law_number D__law_draw
  have D__law_one_by_one : Dn P w K mg base 2 "_law_one_by_one" ["_law_deeds", "_law_value"] (spOBO K) := k__law_one_by_one B A.d__law_one_by_one D__law_done
  have D__law_makes : Dn P w K mg base 4 "_law_makes" ["_law_pot_here", "_law_told", "_law_deeds"] (spMakes2 K) := k__law_makes B A.d__law_makes D__law_values D__law_done D__law_one_by_one
  have D__law_right : Dn P w K mg base 8 "_law_right" ["_law_pot_here"] (spRight K) := k__law_right B A.d__law_right D__law_board D__law_asks D_all_of D_ahead_of D__law_behind D__law_makes D_played D__law_done
  exact k_law B F D__law_pot D__law_right

theorem walk {l : PySem.W.OpenLaw} {q : Program} {loose : List Str} {XP : (Str → Option Value) → Heap → Prop} {YP : World → Heap → Prop} {d : DefRec} {K : Params → PySem.W.Frag} (hn : l.most = some 63) (hdf : d.params.defaults = [])
    (hY : ∀ (w : World) (h : Heap), YP w h → (K w.params).In h) (hname : d.name = "law") (F : ∀ (w : World) (mg : Str → Option Value) (h : Heap), (K w.params).In h → h.Ns mainGlobals mg → AllD (K w.params) mg) :
    PySem.W.WalkO q loose XP YP l.row.toRowW d [] (fun f vs => PySem.call f vs) :=
  walk_G (n := 63) (k := 51) (x := "_law_script") (sp := spLaw) hn (by decide) hdf ⟨rfl, by decide, by decide⟩ hY
    (fun w mg fa h KX G hfa => law_fd (F w mg h KX G) (by rw [hname] at hfa; exact hfa)) fun _ _ a ns hl hS => ⟨a, ns, rfl, hS, hl, fun _ => rfl⟩
end Toy
open PySem PySem.W PyProof.Rows
set_option maxRecDepth 100000 in
set_option maxHeartbeats 0 in
theorem PySem.Challenge.cw_joinedasks_k23_whole_all_and_ahead_holds : PySem.Challenge.rw_joinedasks_k23_whole_all_and_ahead.Holds := by
  w_on; o_law; k_head; (case hw => w_witness2)
  k_fill
  refine Toy.walk (l := PySem.Challenge.rw_joinedasks_k23_whole_all_and_ahead) rfl rfl (fun w h Y => PySem.W.kIn_of Y) rfl ?F
  case F =>
    intro w mg h KX G
    refine' Toy.all_mk (w := w) KX G ?a1 ?l1 ?c1 ?k1 ?a2 ?l2 ?c2 ?k2 ?a3 ?l3 ?c3 ?k3 ?a4 ?l4 ?c4 ?k4 ?a5 ?l5 ?c5 ?k5 ?a6 ?l6 ?c6 ?k6 ?a7 ?l7 ?c7 ?k7 ?a8 ?l8 ?c8 ?k8 ?a9 ?l9 ?c9 ?k9 ?a10 ?l10 ?c10 ?k10 ?a11 ?l11 ?c11 ?k11 ?a12 ?l12 ?c12 ?k12 ?a13 ?l13 ?c13 ?k13 ?a14 ?l14 ?c14 ?k14 ?a15 ?l15 ?c15 ?k15 ?a16 ?l16 ?c16 ?k16 ?a17 ?l17 ?c17 ?k17 ?a18 ?l18 ?c18 ?k18 ?a19 ?l19 ?c19 ?k19 ?a20 ?l20 ?c20 ?k20 ?a21 ?l21 ?c21 ?k21 ?a22 ?l22 ?c22 ?k22 ?a23 ?l23 ?c23 ?k23 ?a24 ?l24 ?c24 ?k24 ?a25 ?l25 ?c25 ?k25 ?a26 ?l26 ?c26 ?k26 ?a27 ?l27 ?c27 ?k27 ?a28 ?l28 ?c28 ?k28 ?z0 ?z1 ?z2 ?z3 ?z4 ?z5 ?z6 ?z7 ?z8 ?z9 ?z10 ?z11 ?cst0 ?cstl0 ?cst1 ?cst2
    (case a1 => k_is)
    (case l1 => k_is)
    (case c1 => k_is)
    (case k1 => k_is)
    (case a2 => k_is)
    (case l2 => k_is)
    (case c2 => k_is)
    (case k2 => k_is)
    (case a3 => k_is)
    (case l3 => k_is)
    (case c3 => k_is)
    (case k3 => k_is)
    (case a4 => k_is)
    (case l4 => k_is)
    (case c4 => k_is)
    (case k4 => k_is)
    (case a5 => k_is)
    (case l5 => k_is)
    (case c5 => k_is)
    (case k5 => k_is)
    (case a6 => k_is)
    (case l6 => k_is)
    (case c6 => k_is)
    (case k6 => k_is)
    (case a7 => k_is)
    (case l7 => k_is)
    (case c7 => k_is)
    (case k7 => k_is)
    (case a8 => k_is)
    (case l8 => k_is)
    (case c8 => k_is)
    (case k8 => k_is)
    (case a9 => k_is)
    (case l9 => k_is)
    (case c9 => k_is)
    (case k9 => k_is)
    (case a10 => k_is)
    (case l10 => k_is)
    (case c10 => k_is)
    (case k10 => k_is)
    (case a11 => k_is)
    (case l11 => k_is)
    (case c11 => k_is)
    (case k11 => k_is)
    (case a12 => k_is)
    (case l12 => k_is)
    (case c12 => k_is)
    (case k12 => k_is)
    (case a13 => k_is)
    (case l13 => k_is)
    (case c13 => k_is)
    (case k13 => k_is)
    (case a14 => k_is)
    (case l14 => k_is)
    (case c14 => k_is)
    (case k14 => k_is)
    (case a15 => k_is)
    (case l15 => k_is)
    (case c15 => k_is)
    (case k15 => k_is)
    (case a16 => k_is)
    (case l16 => k_is)
    (case c16 => k_is)
    (case k16 => k_is)
    (case a17 => k_is)
    (case l17 => k_is)
    (case c17 => k_is)
    (case k17 => k_is)
    (case a18 => k_is)
    (case l18 => k_is)
    (case c18 => k_is)
    (case k18 => k_is)
    (case a19 => k_is)
    (case l19 => k_is)
    (case c19 => k_is)
    (case k19 => k_is)
    (case a20 => k_is)
    (case l20 => k_is)
    (case c20 => k_is)
    (case k20 => k_is)
    (case a21 => k_is)
    (case l21 => k_is)
    (case c21 => k_is)
    (case k21 => k_is)
    (case a22 => k_is)
    (case l22 => k_is)
    (case c22 => k_is)
    (case k22 => k_is)
    (case a23 => k_is)
    (case l23 => k_is)
    (case c23 => k_is)
    (case k23 => k_is)
    (case a24 => k_is)
    (case l24 => k_is)
    (case c24 => k_is)
    (case k24 => k_is)
    (case a25 => k_is)
    (case l25 => k_is)
    (case c25 => k_is)
    (case k25 => k_is)
    (case a26 => k_is)
    (case l26 => k_is)
    (case c26 => k_is)
    (case k26 => k_is)
    (case a27 => k_is)
    (case l27 => k_is)
    (case c27 => k_is)
    (case k27 => k_is)
    (case a28 => k_is)
    (case l28 => k_is)
    (case c28 => k_is)
    (case k28 => k_is)
    (case z0 => k_is)
    (case z1 => k_is)
    (case z2 => k_is)
    (case z3 => k_is)
    (case z4 => k_is)
    (case z5 => k_is)
    (case z6 => k_is)
    (case z7 => k_is)
    (case z8 => k_is)
    (case z9 => k_is)
    (case z10 => k_is)
    (case z11 => k_is)
    (case cst0 => k_is)
    (case cstl0 => k_is)
    (case cst1 => k_is)
    (case cst2 => k_is)
#print axioms PySem.Challenge.cw_joinedasks_k23_whole_all_and_ahead_holds

