import PyProof.Rows.All
import Wide.All
import OpenK.AllK
import Wide.FinOn
import HandS.ForMost
import HandS.WideBits
import HandS.Conv
import HandS.IsInst
import HandS.RaiseMore
import HandS.SortInts
import HandS.Style
import HandS.Codes
import HandS.ForExc
import HandS.TryMany
import HandS.Flow
import KE.KEqSeq
import PyProof.ReprRoads
import PySem.Challenge.RW_joinedasks_k27_halved_and_chained
set_option Elab.async false
set_option linter.all false
set_option maxRecDepth 100000
set_option maxHeartbeats 4000000
set_option exponentiation.threshold 100000
namespace Toy
open PySem PySem.Spec PyProof.Rows L2
/-- a def of the text stands behind its name -/
structure Df (K : PySem.W.Frag) (mg : Str → Option Value) (x : Str) (st : Stmt) (ps : List Str) : Prop where
  ex : ∃ f fd, Fun K x x st f fd ∧ mg x = some (.ref f) ∧ Binds K fd ps []
theorem Df.of {K : PySem.W.Frag} {mg : Str → Option Value} {x : Str} {st : Stmt} {ps : List Str} {f : Addr} {oc : Value} {od an : Option Addr} {osl : Array (Option Value)} {kV doc pm cdv ct : Value}
    (l : K.lookup f = some ⟨oc, od, .func (PySem.W.fnOf x x (defArgs st) (defBody st) (defScope st) .none kV doc pm an cdv ct), osl⟩) (c : PySem.W.codeIn K cdv x = true) (k : PySem.W.keepIn K (.ref f) = true) (m : mg x = some (.ref f))
    (h : ∀ (kV doc pm : Value) (an : Option Addr) (cdv ct : Value) (us : List Value), us.length = ps.length → bindArgs (PySem.W.fnOf x x (defArgs st) (defBody st) (defScope st) .none kV doc pm an cdv ct) ⟨us, []⟩ = pure (ps.zip us)) : Df K mg x st ps :=
  ⟨_, _, fun_mk l c k, m, (fun_mk l c k).binds h⟩
end Toy
namespace Toy
open PySem PySem.Spec PyProof.Rows L2
/-- room for calls, and nothing is being shown (repr, str of containers ask that) -/
structure RoomG (k : Nat) (A : Around) : Prop where
  room : Room k A
  idle : A.guards = some []
theorem RoomG.less {j k : Nat} {A : Around} (r : RoomG k A) (h : j ≤ k) : RoomG j A := ⟨r.room.mono h, r.idle⟩
theorem RoomG.units {k : Nat} {A : Around} (r : RoomG k A) : A.units + 64 < cLine := r.room.units
theorem RoomG.in_ {k : Nat} {A : Around} (r : RoomG (k + 1) A) (env : Env) : RoomG k (A.deeper env) := ⟨r.room.deeper env, r.idle⟩
/-- a def's promise under such a call -/
structure FnG (P : Program) (w : World) (K : PySem.W.Frag) (mg : Str → Option Value) (base : Heap) (CX : CXT) (k : Nat) (f : Addr) (fd : FuncData) (ps : List Str) (sp : Sp) : Prop where
  arity : ∀ vs H Q E, sp vs H Q E → vs.length = ps.length
  go : ∀ {A : Around} {outer : List Env} {s : Shared} {H : Hp} {args : Args} {us : List Value} {vs : List V} {Q : VK} {E : XK}, RoomG k A → Env0 P w K mg base A outer s H →
    BindsTo s fd args (ps.zip us) → Vals vs us → sp vs H Q E → codeAny (model P w) A (.call (.ref f) args) (CR CX outer P w H s Q E) s
section
variable {P : Program} {w : World} {K : PySem.W.Frag} {mg : Str → Option Value} {base : Heap} {CX : CXT}
/-- a body that ends well ends the call well -/
theorem flow_end {N : List Str} {qual : Str} {scope : Scope} {f : Addr} {cd : Value} {A : Around} {outer : List Env} {s : Shared} {H : Hp} {Q : VK} {E : XK} {fl : Flow} {s' : Shared}
    (h : SP (cxOf CX P w K mg base N qual scope f cd A outer s H E) [] { nx := fun _ H' => Q .non H', rt := Q } fl s') :
    ∃ u, (fl = .next ∧ u = Value.none ∨ fl = .ret u) ∧ CE outer P w H s Q u s' := by
  cases fl with
  | next =>
    obtain ⟨σ, H1, J, q⟩ := h
    exact ⟨_, .inl ⟨rfl, rfl⟩, .non, H1, J.os, J.bare, J.base, J.hok, rfl, q⟩
  | ret u =>
    obtain ⟨v, σ, H1, J, r, q⟩ := h
    exact ⟨u, .inr rfl, v, H1, J.os, J.bare, J.base, J.hok, r, q⟩
  | brk =>
    obtain ⟨_, _, _, q⟩ := h
    cases q
  | cont =>
    obtain ⟨_, _, _, q⟩ := h
    cases q
theorem okG {x qual : Str} {st : Stmt} {f : Addr} {fd : FuncData} {N ps : List Str} {k : Nat} {sp : Sp} (F : Fun K x qual st f fd) (S : FnScope N ps (defScope st)) (ar : ∀ vs H Q E, sp vs H Q E → vs.length = ps.length)
    (body : ∀ (cdv : Value) (A : Around) (outer : List Env) (s : Shared) (H : Hp) (vs : List V) (Q : VK) (E : XK), RoomG k (A.deeper (envOfC qual (defScope st) s.heap.objs.size f cdv)) → sp vs H Q E →
      ∃ t, PSs (cxOf CX P w K mg base N qual (defScope st) f cdv A outer s H E) (defBody st) t ∧ t { nx := fun _ H' => Q .non H', rt := Q } (start N vs) H) : FnG P w K mg base CX (k + 1) f fd ps sp := by
  obtain ⟨oc, od, kV, doc, pm, an, cdv, ct, osl, rfl, lk, hcd⟩ := F.ex
  refine ⟨ar, ?_⟩
  intro A outer s H args us vs Q E room e0 hb rv hsp
  have kin : K.In s.heap := e0.mod.kin.keeps fun b o z => (e0.bs b o z).1
  have nolim : s.heap.NoLimit := e0.mod.nolimit.keeps fun b o z => (e0.bs b o z).1
  have kinds : ∀ y ∈ ps.zip us, (defScope st).names.lookup y.1 = some .local ∨ ((defScope st).names.lookup y.1 = some .cell ∧ ((cellsFrom (s.heap.objs.size + 1) (defScope st).names []).lookup y.1).isSome = true) := by
    rintro ⟨n, v⟩ hy
    exact (S.par n (List.of_mem_zip hy).1).imp _root_.id fun q => ⟨q, PySem.W.cellsFrom_some _ _ _ (.inl q)⟩
  refine codeAny_call_function room.room.depth (kin _ _ lk) rfl S.co S.gen rfl (PySem.W.codeRec_of kin hcd) (hb _ _ _ _ (wpAny_newFunctionEnv_cells S.kind kinds fun env he s1 inC => ?_))
  subst he
  obtain ⟨t, ht, hq⟩ := body cdv A outer s H vs Q E (room.in_ _) hsp
  refine ⟨nolim.keeps inC.toInCall.keep, codeAny_func (wpAny_mono (ht.run [] s1 (start N vs) H _ (inv_start S room.room.hd e0 (ar _ _ _ _ hsp) rv inC) hq) (fun fl s' z => ?_) fun e s' z => z)⟩
  obtain ⟨u, c, q⟩ := flow_end z
  rcases c with ⟨rfl, rfl⟩ | rfl
  · exact q
  · exact q
theorem okG0 {x qual : Str} {st : Stmt} {f : Addr} {fd : FuncData} {N ps : List Str} {k : Nat} {sp : Sp} (F : Fun K x qual st f fd) (S : FnScope N ps (defScope st)) (ar : ∀ vs H Q E, sp vs H Q E → vs.length = ps.length)
    (body : ∀ (cdv : Value) (A : Around) (outer : List Env) (s : Shared) (H : Hp) (vs : List V) (Q : VK) (E : XK), RoomG k (A.deeper (envOfC qual (defScope st) s.heap.objs.size f cdv)) → sp vs H Q E →
      ∃ t, PSs (cxOf CX0 P w K mg base N qual (defScope st) f cdv A outer s H E).nox (defBody st) t ∧ t { nx := fun _ H' => Q .non H', rt := Q } (start N vs) H) : FnG P w K mg base CX0 (k + 1) f fd ps sp :=
  okG F S ar fun cdv A outer s H vs Q E hr hsp => (body cdv A outer s H vs Q E hr hsp).imp fun _ z => ⟨z.1.nox, z.2⟩
end
section
variable {X : Cx} {CX : CXT} {k : Nat} {f : Addr} {fd : FuncData} {ps : List Str} {sp : Sp}
theorem run_G {pins : List (Addr × Obj)} {σ : L2.St} {H : Hp} {s : Shared} {Q : VK} {E : XK} {us : List Value} {vs : List V} (F : FnG X.prog X.w X.K X.mg X.base CX k f fd ps sp) (hr : RoomG k X.A) (hb : Binds X.K fd ps [])
    (out : ∀ e s', CX X.stack H s E e s' → X.xe e s') (I : Inv X pins σ H s) (r : Vals vs us) (h : sp vs H Q E) : wpAny (model X.prog X.w) X.A (call (.ref f) us) (EP X pins σ Q) X.xe s := by
  have n := (r.length).symm.trans (F.arity _ _ _ _ h)
  have b := hb s us I.kIn (by rw [List.append_nil, n])
  rw [List.append_nil] at b
  refine wpAny_call (codeAny_mono (F.go hr I.env0 b r h) ?_)
  rintro (e | fl) s' q
  · exact out e s' q
  · match fl, q with
    | .ret u, q => exact I.after q
/-- a def and its promise, by its name -/
structure Dn (P : Program) (w : World) (K : PySem.W.Frag) (mg : Str → Option Value) (base : Heap) (k : Nat) (x : Str) (ps : List Str) (sp : Sp) : Prop where
  ex : ∃ f fd, FnG P w K mg base CX0 k f fd ps sp ∧ PySem.W.keepIn K (.ref f) = true ∧ mg x = some (.ref f) ∧ Binds K fd ps []
/-- .. that may raise -/
structure Dx (P : Program) (w : World) (K : PySem.W.Frag) (mg : Str → Option Value) (base : Heap) (k : Nat) (x : Str) (ps : List Str) (sp : Sp) : Prop where
  ex : ∃ f fd, FnG P w K mg base (L2.CX P w) k f fd ps sp ∧ PySem.W.keepIn K (.ref f) = true ∧ mg x = some (.ref f) ∧ Binds K fd ps []
theorem Df.ok {P : Program} {w : World} {K : PySem.W.Frag} {mg : Str → Option Value} {base : Heap} {x : Str} {st : Stmt} (D : Df K mg x st ps)
    (h : ∀ f fd, Fun K x x st f fd → FnG P w K mg base CX0 k f fd ps sp) : Dn P w K mg base k x ps sp := by
  obtain ⟨f, fd, F, m, b⟩ := D.ex
  exact ⟨f, fd, h f fd F, F.kp, m, b⟩
theorem Df.okX {P : Program} {w : World} {K : PySem.W.Frag} {mg : Str → Option Value} {base : Heap} {x : Str} {st : Stmt} (D : Df K mg x st ps)
    (h : ∀ f fd, Fun K x x st f fd → FnG P w K mg base (L2.CX P w) k f fd ps sp) : Dx P w K mg base k x ps sp := by
  obtain ⟨f, fd, F, m, b⟩ := D.ex
  exact ⟨f, fd, h f fd F, F.kp, m, b⟩
variable {x : Str} {p pos : Pos} {e : Expr} {es : List Expr} {t : TA}
theorem pe_cD (D : Dn X.prog X.w X.K X.mg X.base k x ps sp) (hr : RoomG k X.A) (hg : Gl X x) (ha : PA X (e :: es) t) (hdb : (x == ("__debug__" : Str)) = false := by decide)
    (he : starEach (e :: es) X.env = (false, eval e X.env) :: starEach es X.env := by rfl) (hpl : (backTo pos (starEach es X.env)).any (·.1) = false := by rfl) : PE X (.Call (.Name x p) (e :: es) [] pos) (tCall sp [] E0 t) := by
  obtain ⟨f, fd, F, hk, hm, hb⟩ := D.ex
  refine ⟨fun pins s σ H Q I h => wpAny_Call_Name_kw (ld_glob I hg hm (PySem.W.callWith_K (h₀ := X.base) I.ok.mod.kin hk (thn (ha.run pos pins s σ H _ I h) fun us s1 ⟨vs, H1, I1, r, q⟩ => ⟨I1.kIn, ?_⟩) he hpl) hdb)⟩
  have q' : sp vs H1 Q E0 := by
    have z : sp (vs ++ []) H1 Q E0 := q
    rw [List.append_nil] at z
    exact z
  exact run_G F hr hb (fun _ _ z => z.elim) I1 r q'
theorem pe_cD0 (D : Dn X.prog X.w X.K X.mg X.base k x ps sp) (hr : RoomG k X.A) (hg : Gl X x) (hdb : (x == ("__debug__" : Str)) = false := by decide) : PE X (.Call (.Name x p) [] [] pos) (tCall sp [] E0 tNil) := by
  obtain ⟨f, fd, F, hk, hm, hb⟩ := D.ex
  refine ⟨fun pins s σ H Q I h => wpAny_Call_Name_kw (ld_glob I hg hm (PySem.W.callWith_K0 I.kIn hk (run_G (us := []) F hr hb (fun _ _ z => z.elim) I .nil h)) hdb)⟩
/-- a call within a try: what is raised is wished at the slots -/
theorem pe_cX {E : L2.St → XK} (D : Dx X.prog X.w X.K X.mg X.base k x ps sp) (hr : RoomG k X.A) (hg : Gl X x) (hx : ∀ σ, PassesAt (L2.CX X.prog X.w) X σ (E σ)) (ha : PA X (e :: es) t) (hdb : (x == ("__debug__" : Str)) = false := by decide)
    (he : starEach (e :: es) X.env = (false, eval e X.env) :: starEach es X.env := by rfl) (hpl : (backTo pos (starEach es X.env)).any (·.1) = false := by rfl) : PE X (.Call (.Name x p) (e :: es) [] pos) (tCallS sp E t) := by
  obtain ⟨f, fd, F, hk, hm, hb⟩ := D.ex
  exact ⟨fun pins s σ H Q I h => wpAny_Call_Name_kw (ld_glob I hg hm (PySem.W.callWith_K (h₀ := X.base) I.ok.mod.kin hk (thn (ha.run pos pins s σ H _ I h) fun us s1 ⟨vs, H1, I1, r, q⟩ =>
    ⟨I1.kIn, run_G F hr hb (fun e s' z => hx σ pins H1 s1 e s' I1 z) I1 r q⟩) he hpl) hdb)⟩
/-- repr of what is data -/
def rRepr (K : PySem.W.Frag) : List V → Hp → VK → Prop := fun xs H Q => ∃ (x : V) (d : PyData), xs = [x] ∧ Dp K H x d ∧ d.showable = true ∧ d.depth ≤ 60 ∧ d.shown.length ≤ sizeLine ∧ Q (.str d.shown) H
mutual
theorem dp_noDict {K : PySem.W.Frag} {H : Hp} : ∀ (d : PyData) (x : V), Dp K H x d → d.hasDict = false
  | .none, _, _ => rfl
  | .bool _, _, _ => rfl
  | .int _, _, _ => rfl
  | .str _, _, _ => rfl
  | .list ds, _, h => by
    cases h with
    | lst _ ha => simpa [PyData.hasDict] using dp_noDicts ds _ ha
  | .tuple ds, _, h => by
    cases h with
    | tup _ ha => simpa [PyData.hasDict] using dp_noDicts ds _ ha
  | .dict _, _, h => by cases h
theorem dp_noDicts {K : PySem.W.Frag} {H : Hp} : ∀ (ds : List PyData) (xs : List V), DpAll K H xs ds → PyData.hasDictAll ds = false
  | [], _, _ => by simp [PyData.hasDictAll]
  | d :: ds, _, h => by
    cases h with
    | cons a b => simp [PyData.hasDictAll, dp_noDict d _ a, dp_noDicts ds _ b]
end
theorem reprK {K : PySem.W.Frag} (hr : RoomG k X.A) (eK : X.K = K := by rfl) : CallR X (.builtin "repr") (rRepr K) := by
  cases eK
  intro pins s σ H xs us Q I r h
  obtain ⟨x, d, rfl, hd, hs, hdep, hz, q⟩ := h
  obtain ⟨u, rfl, rx⟩ := vals1 r
  obtain ⟨as, rd⟩ := Dp.reads I d x u hd rx
  have hu := hr.units
  have nd := dp_noDict d x hd
  cases hd with
  | non => cases rx; exact PySem.P.repr_of_none ⟨.str _, H, I.tok _, ⟨_, rfl⟩, q⟩
  | bl b => cases rx; exact PySem.P.repr_of_bool ⟨.str _, H, I.tok _, ⟨_, rfl⟩, q⟩
  | int i => obtain ⟨t, rfl⟩ := rx; exact PySem.P.repr_of_int (of_decide_eq_true (by simpa [PyData.showable] using hs)) ⟨.str _, H, I.tok _, ⟨_, rfl⟩, q⟩
  | str z => obtain ⟨t, rfl⟩ := rx; exact PySem.P.repr_of_str ⟨.str _, H, I.tok _, ⟨_, rfl⟩, q⟩ hz
  | lst hq ha =>
    cases rx
    refine repr_of_reads' rd hs (PyData.noDict_hsm nd) hr.idle (by omega) (fun _ _ z => z) (fun h' u tk hk => ⟨.str _, H, I.kept hk, ⟨_, rfl⟩, q⟩) hz
  | tup hq ha =>
    cases rx
    refine repr_of_reads' rd hs (PyData.noDict_hsm nd) hr.idle (by omega) (fun _ _ z => z) (fun h' u tk hk => ⟨.str _, H, I.kept hk, ⟨_, rfl⟩, q⟩) hz
end
end Toy
namespace Toy
open PySem PySem.Spec PyProof.Rows L2
/-- what was tracked stays, but for one object -/
def But (p : Addr) (H H' : Hp) : Prop := ∀ b o, b ≠ p → H b = some o → H' b = some o
theorem But.refl {p : Addr} {H : Hp} : But p H H := fun _ _ _ h => h
theorem But.trans {p : Addr} {H H1 H2 : Hp} (a : But p H H1) (b : But p H1 H2) : But p H H2 := fun c o n h => b c o n (a c o n h)
theorem But.free {p : Addr} {H H' : Hp} (e : But p H H') {l : Addr} (n : l ≠ p) (h : H' l = Option.none) : H l = Option.none := by
  cases q : H l with
  | none => rfl
  | some o =>
    rw [e l o n q] at h
    cases h
theorem same_but {p : Addr} {H H' : Hp} (a : Same H H') : But p H H' := fun c o _ h => a c o h
theorem But.upd {p : Addr} {H : Hp} {o : HO} : But p H (upd H p o) := fun b u n h => by rw [upd_ne n]; exact h
theorem same_new {H : Hp} {p : Addr} (h : H p = none) (o : HO) : Same H (upd H p o) := fun b u q => by rw [upd_ne (ne_of_none q h)]; exact q
theorem but_tup {p : Addr} {K : PySem.W.Frag} {H H' : Hp} {a : Addr} {xs ys : List V} (e : But p H H') (hp : H p = some (.lst ys)) (h : SqT K H a xs) : SqT K H' a xs := by
  rcases h with (h | ⟨o, h⟩) | h
  · exact .inl (.inl (e _ _ (ne_of h hp (by intro z; cases z)) h))
  · exact .inl (.inr ⟨o, e _ _ (ne_of h hp (by intro z; cases z)) h⟩)
  · exact .inr h
theorem same_tup {K : PySem.W.Frag} {H H' : Hp} {a : Addr} {xs : List V} (e : Same H H') (h : SqT K H a xs) : SqT K H' a xs := by
  rcases h with (h | ⟨o, h⟩) | h
  · exact .inl (.inl (e _ _ h))
  · exact .inl (.inr ⟨o, e _ _ h⟩)
  · exact .inr h
/-- the script stays -/
theorem but_seq {p : Addr} {K : PySem.W.Frag} {H H' : Hp} {a : Addr} {xs : List V} (e : But p H H') (n : a ≠ p) (h : SqL K H a xs) : SqL K H' a xs := by
  rcases h with (h | ⟨o, h⟩) | h
  · exact .inl (.inl (e _ _ n h))
  · exact .inl (.inr ⟨o, e _ _ n h⟩)
  · exact .inr h
theorem small {n : Nat} (h : n ≤ 1000) : n ≤ sizeLine := Nat.le_of_lt (small1000 h)
theorem log_lt {i : Int} {n : Nat} (h0 : 0 < n) (h : i.natAbs < 2 ^ n) : i.natAbs.log2 < n := PySem.Flt.log2_lt_of h0 h
theorem divp_small {i j : Int} (hj : 0 < j) (h : j < 2 ^ 8000) : CDivP i j := by
  refine ⟨hj, PyProof.noPylong_of_log2 ?_⟩
  exact Nat.lt_trans (log_lt (n := 8000) (by decide) (by omega)) (by decide)
end Toy
namespace Toy
open PySem PySem.Spec PyProof.Rows L2
theorem ifT {c : Bool} {A B : Prop} (hc : c = true) (h : A) : if c = true then A else B := by rw [if_pos hc]; exact h
theorem ifF {c : Bool} {A B : Prop} (hc : c = false) (h : B) : if c = true then A else B := by rw [hc]; exact iteF h
theorem pj {j : Int} (h : decide ((0 : Int) < j) = true := by decide) : 0 < j := of_decide_eq_true h
theorem sz {xs : List V} (h : Nat.ble xs.length 1000 = true := by rfl) : xs.length ≤ sizeLine := small (Nat.le_of_ble_eq_true h)
theorem but_same {p : Addr} {H H1 H2 : Hp} (n : H p = none) (a : Same H H1) (b : But p H1 H2) : Same H H2 := fun c o h => b c o (ne_of_none h n) (a c o h)
/-- two ways of a value meet -/
theorem ifE {ta tb : TE} {σ : L2.St} {H : Hp} {Q : VK} {b : Bool} (R : V → Hp → Prop) (h : ∀ v H', R v H' → Q v H') (h1 : b = true → ∀ Q' : VK, (∀ v H', R v H' → Q' v H') → ta σ H Q') (h2 : b = false → ∀ Q' : VK, (∀ v H', R v H' → Q' v H') → tb σ H Q') :
    if b = true then ta σ H Q else tb σ H Q := by
  cases b with
  | true => exact iteT (h1 rfl Q h)
  | false => exact iteF (h2 rfl Q h)
theorem mulx {i j : Int} (a b : Nat) (ha : i.natAbs < 2 ^ a) (hb : j.natAbs < 2 ^ b) (h : a + b ≤ 134217728 := by decide) : CMulX i j := mulx_ok ha hb h
end Toy
namespace Toy
open PySem PySem.Spec PyProof.Rows L2
theorem qi {Q : VK} {H : Hp} {a b : Int} (q : Q (.int a) H) (e : a = b) : Q (.int b) H := e ▸ q
end Toy
namespace Toy
open PySem PySem.Spec PyProof.Rows L2
/-- the written part by its letter -/
theorem kk {α : Sort _} {P : α → Prop} {F : PySem.W.Frag → α} {K0 K : PySem.W.Frag} (h : P (F K0)) (e : K0 = K := by rfl) : P (F K) := e ▸ h
def rLen (K : PySem.W.Frag) : List V → Hp → VK → Prop := fun xs H Q => ∃ p ys, xs = [.ref p] ∧ (SqL K H p ys ∨ SqT K H p ys) ∧ Q (.int ys.length) H
theorem lenK {X : Cx} {K : PySem.W.Frag} (e : X.K = K := by rfl) : CallR X (.builtin "len") (rLen K) := by cases e; exact call_len_seq
def rLstOf (K : PySem.W.Frag) : List V → Hp → VK → Prop := fun xs H Q => ∃ p ys, xs = [.ref p] ∧ (SqL K H p ys ∨ SqT K H p ys) ∧ ∀ l, H l = none → Q (.ref l) (upd H l (.lst ys))
theorem lstOfK {X : Cx} {K : PySem.W.Frag} (e : X.K = K := by rfl) : CallR X (.type "list") (rLstOf K) := by cases e; exact call_list_of
def rTupOf (K : PySem.W.Frag) : List V → Hp → VK → Prop := fun xs H Q => ∃ p ys, xs = [.ref p] ∧ ((SqL K H p ys ∧ ∀ l, H l = none → Q (.ref l) (upd H l (.tup ys))) ∨ (SqT K H p ys ∧ Q (.ref p) H))
theorem tupOfK {X : Cx} {K : PySem.W.Frag} (e : X.K = K := by rfl) : CallR X (.type "tuple") (rTupOf K) := by cases e; exact call_tuple_of
theorem dec_ne {α : Type} [DecidableEq α] {a b : α} (h : a = b) : (!decide (a = b)) = false := by rw [decide_eq_true h] <;> rfl
end Toy
namespace Toy
open PySem PySem.Spec PyProof.Rows L2
/-- a tuple of the written part; a tuple that never changes -/
def KTup (K : PySem.W.Frag) (a : Addr) (xs : List V) : Prop := ∃ (o : Obj) (its : Array Value) (n : Nat), K.lookup a = some o ∧ o.cls = .type "tuple" ∧ o.data = .seq its n ∧ its.size ≤ sizeLine ∧ Vals xs its.toList
def TupAt (K : PySem.W.Frag) (H : Hp) (a : Addr) (xs : List V) : Prop := H a = some (.tup xs) ∨ KTup K a xs
theorem TupAt.sq {K : PySem.W.Frag} {H : Hp} {a : Addr} {xs : List V} (h : TupAt K H a xs) : SqT K H a xs := by
  rcases h with h | h
  · exact SqT.of h
  · exact .inr h
theorem TupAt.ty {K : PySem.W.Frag} {H : Hp} {a : Addr} {xs : List V} (h : TupAt K H a xs) : TyX K H (.ref a) (.type "tuple") := by
  rcases h with h | ⟨o, its, n, h1, h2, _⟩
  · exact .base (.tup h)
  · exact .kTuple h1 h2
theorem TupAt.same {K : PySem.W.Frag} {H H' : Hp} {a : Addr} {xs : List V} (e : Same H H') (h : TupAt K H a xs) : TupAt K H' a xs := h.imp (e _ _) id
theorem TupAt.but {K : PySem.W.Frag} {H H' : Hp} {a p : Addr} {xs ys : List V} (e : But p H H') (hp : H p = some (.lst ys)) (h : TupAt K H a xs) : TupAt K H' a xs := h.imp (fun h => e _ _ (ne_of h hp (by intro z; cases z)) h) id
end Toy
namespace Toy
open PySem PySem.Spec PyProof.Rows L2
theorem ints_dp {K : PySem.W.Frag} {H : Hp} : ∀ ns : List Int, DpAll K H (ns.map V.int) (ns.map PyData.int)
  | [] => .nil
  | n :: r => .cons (.int n) (ints_dp r)
theorem ints_sh (ns : List Int) : SeqAt.shaped (.list (ns.map PyData.int)) = true := PySem.W.ke_shaped_ints ns
theorem ints_refl (ns : List Int) : PyData.eqv (.list (ns.map PyData.int)) (.list (ns.map PyData.int)) = true := SeqAt.eqv_refl _ (SeqAt.canLay_of_shaped (ints_sh ns))
theorem lst_dp {K : PySem.W.Frag} {H : Hp} {a : Addr} {ns : List Int} (h : SqL K H a (ns.map V.int)) : Dp K H (.ref a) (.list (ns.map PyData.int)) := .lst h (ints_dp ns)
theorem tupI_dp {K : PySem.W.Frag} {H : Hp} {a : Addr} {ns : List Int} (h : SqT K H a (ns.map V.int)) : Dp K H (.ref a) (.tuple (ns.map PyData.int)) := .tup h (ints_dp ns)
theorem tupI_sh (ns : List Int) : SeqAt.shaped (.tuple (ns.map PyData.int)) = true := ints_sh ns
theorem tupI_refl (ns : List Int) : PyData.eqv (.tuple (ns.map PyData.int)) (.tuple (ns.map PyData.int)) = true := SeqAt.eqv_refl _ (SeqAt.canLay_of_shaped (tupI_sh ns))
theorem cut_map (us : List Int) (lo hi : Option Int) : ∃ ws : List Int, cutV (us.map V.int) lo hi = ws.map V.int ∧ ws.length ≤ us.length ∧ ∀ x ∈ ws, x ∈ us := by
  refine ⟨(us.drop (HT.sIx (us.map V.int).length 0 lo)).take (HT.sIx (us.map V.int).length (us.map V.int).length hi - HT.sIx (us.map V.int).length 0 lo), ?_, ?_, fun x hx => List.mem_of_mem_drop (List.mem_of_mem_take hx)⟩
  · unfold cutV; rw [List.map_take, List.map_drop]
  · rw [List.length_take, List.length_drop]; omega
theorem at_map {us : List Int} {i : Nat} {y : V} (h : (us.map V.int)[i]? = some y) : ∃ x : Int, y = .int x ∧ us[i]? = some x := by
  rw [List.getElem?_map] at h
  cases e : us[i]? with
  | none => rw [e] at h; cases h
  | some x => rw [e] at h; exact ⟨x, (Option.some.inj h).symm, rfl⟩
end Toy
namespace Toy
open PySem PySem.Spec PyProof.Rows L2
/-- the heap in which the script alone stands, unless the text's own part holds it -/
def scriptH (K : PySem.W.Frag) (a : Addr) (o : Obj) (ns : List Int) : Hp := fun c => if (K.lookup a).isNone = true ∧ c = a then some (.frz o (.lst (ns.map V.int))) else none
theorem scriptH_none {K : PySem.W.Frag} {a b : Addr} {o : Obj} {ns : List Int} : scriptH K a o ns b = none ∨ (b = a ∧ K.lookup a = none ∧ scriptH K a o ns b = some (.frz o (.lst (ns.map V.int)))) := by
  unfold scriptH
  by_cases c : (K.lookup a).isNone = true ∧ b = a
  · exact .inr ⟨c.2, Option.isNone_iff_eq_none.mp c.1, if_pos c⟩
  · exact .inl (if_neg c)
theorem law_G {P : Program} {w : World} {K : PySem.W.Frag} {mg mb : Str → Option Value} {k : Nat} {fa a : Addr} {fd : FuncData} {x : Str} {sp : Sp} {s : Shared} {vs : List Value} {ns : List Int}
    (KX : K.In s.heap) (hns : s.heap.Ns mainGlobals mg) (hb : s.heap.Ns builtinsNs mb) (hbb : ∀ x : Str, x ≠ "__name__" → mb x = bootBuiltins x) (hlim : s.heap.NoLimit) (hg : s.gens = #[])
    (ha : s.heap.get? a = some { cls := .type "list", data := .seq vs.toArray }) (hi : IntsAre vs ns) (hl : ns.length ≤ sizeLine) (hr : Room k PySem.callerA)
    (F : ∀ base : Heap, K.In base → base.Ns mainGlobals mg → FnG P w K mg base CX0 k fa fd [x] sp) (hbind : ∀ (s : Shared) (u : Value), BindsTo s fd ⟨[u], []⟩ [(x, u)])
    (hsp : ∀ H : Hp, SqL K H a (ns.map V.int) → sp [.ref a] H (fun v _ => v = .bl true) fun _ _ _ => False) :
    codeAny (model P w) PySem.callerA (.call (.ref fa) ⟨[.ref a], []⟩) (fun r s' => r = .ok (.ret (.bool true)) ∧ OldK s.heap s'.heap ∧ s'.os = s.os ∧ AllBare s'.gens) s := by
  let H : Hp := scriptH K a { cls := .type "list", data := .seq vs.toArray } ns
  have hH : ∀ b, H b = none ∨ (b = a ∧ K.lookup a = none ∧ H b = some (.frz { cls := .type "list", data := .seq vs.toArray } (.lst (ns.map V.int)))) := fun b => scriptH_none
  have rv := vals_ints hi
  have hok : HOk P w H s.heap := by
    intro b u e
    rcases hH b with z | ⟨rfl, _, z⟩
    · rw [z] at e; cases e
    · rw [z] at e
      cases e
      exact ⟨ha, by rw [List.length_map]; exact hl, vs, _, rv, ha⟩
  have hS : SqL K H a (ns.map V.int) := by
    cases q : K.lookup a with
    | none => exact .inl (.inr ⟨_, show scriptH K a _ ns a = _ from if_pos ⟨by rw [q] <;> rfl, rfl⟩⟩)
    | some o =>
      have e := KX a o q
      rw [ha] at e
      cases e
      exact .inr ⟨_, vs.toArray, _, q, rfl, rfl, rfl, by rw [List.size_toArray, hi.length]; exact hl, by simpa using rv⟩
  -- what is no list is not the script
  have notA : ∀ {b : Addr} {o : Obj} {es : Array DictEntry} {ep : Nat}, s.heap.get? b = some o → o.data = .dict es ep → H b = none := by
    intro b o es ep e d
    rcases hH b with z | ⟨rfl, _, _⟩
    · exact z
    · rw [ha] at e
      cases e
      cases (show Data.seq vs.toArray _ = Data.dict es ep from d)
  have ns' : ∀ {b : Addr} {m : Str → Option Value}, s.heap.Ns b m → (hidT s.heap H).Ns b m := by
    rintro b m ⟨o, es, ep, e, d, r⟩
    exact ⟨o, es, ep, hidT_get e (notA e d), d, r⟩
  have kin' : K.In (hidT s.heap H) := by
    intro b o e
    refine hidT_get (KX b o e) ?_
    rcases hH b with z | ⟨rfl, q, _⟩
    · exact z
    · rw [q] at e; cases e
  have md : Mod K mg (hidT s.heap H) := ⟨kin', ns' hns, ⟨mb, ns' hb, hbb⟩, hlim.imp fun _ z => ⟨ns' z.1, z.2⟩⟩
  have e0 : Env0 P w K mg (hidT s.heap H) PySem.callerA [] s H := ⟨rfl, md, fun _ _ z => of_hidT z, Nat.le_of_eq (hidT_size _ _), trivial, (by intro b z; cases z), hok, .of_eq hg⟩
  refine codeAny_mono ((F _ kin' (ns' hns)).go (us := [.ref a]) (vs := [.ref a]) ⟨hr, rfl⟩ e0 (hbind s (.ref a)) (.cons rfl .nil) (hsp H hS)) ?_
  rintro (e | fl) s' q
  · exact q.elim
  match fl, q with
  | .ret u, ⟨v, H', os, bare, un, ok', r', q⟩ =>
    have q' : v = .bl true := q
    subst q'
    obtain rfl : u = Value.bool true := r'
    refine ⟨rfl, OldK.of_keep fun b o e => ?_, os, bare⟩
    rcases hH b with z | ⟨_, _, z⟩
    · exact un.keep b o e z (by intro y; cases y) (by intro y; cases y)
    · have z1 := (hok b _ z).1
      have z2 := (ok' b _ (un.frzs b _ _ z)).1
      rw [e] at z1
      cases z1
      exact z2
theorem walk_G {l : PySem.W.OpenLaw} {n k : Nat} {q : Program} {loose : List Str} {XP : (Str → Option Value) → Heap → Prop} {YP : World → Heap → Prop} {d : DefRec} {K : Params → PySem.W.Frag} {sp : PySem.W.Frag → Sp} {x : Str}
    (hn : l.most = some n) (hn2 : n ≤ sizeLine) (hdf : d.params.defaults = []) (hr : Room k PySem.callerA) (hY : ∀ (w : World) (h : Heap), YP w h → (K w.params).In h)
    (F : ∀ (w : World) (mg : Str → Option Value) (fa : Addr) (h : Heap), (K w.params).In h → h.Ns mainGlobals mg → mg d.name = some (.ref fa) →
      ∃ fd : FuncData, (∀ (s : Shared) (u : Value), BindsTo s fd ⟨[u], []⟩ [(x, u)]) ∧ ∀ base : Heap, (K w.params).In base → base.Ns mainGlobals mg → FnG l.prog w (K w.params) mg base CX0 k fa fd [x] (sp (K w.params)))
    (hsp : ∀ (K : PySem.W.Frag) (H : Hp) (a : Addr) (ns : List Int), ns.length ≤ n → SqL K H a (ns.map V.int) → sp K [.ref a] H (fun v _ => v = .bl true) fun _ _ _ => False) :
    PySem.W.WalkO q loose XP YP l.row.toRowW d [] (fun f vs => PySem.call f vs) :=
  Att.attach_call hn hdf fun w s0 s1 mg mb fa o pm cd doc a vs ns G Y ho hd hcd hmg hobj hints hlen hg => by
    have KX := hY w _ Y
    obtain ⟨fd, hbd, hF⟩ := F w mg fa _ KX G.T.g hmg
    exact law_G KX G.T.g G.T.b G.T.builtins G.T.nolimit hg hobj hints (Nat.le_trans hlen hn2) hr hF hbd fun H hS => hsp _ H a ns hlen hS
end Toy
namespace Toy
open PySem PySem.Spec PyProof.Rows L2
/-! ### how long a shown datum is -/
mutual
def cst : PyData → Nat
  | .none => 5
  | .bool _ => 5
  | .int _ => 1921
  | .str x => (reprText x).length
  | .list xs => csts xs + 4
  | .tuple xs => csts xs + 4
  | .dict _ => 0
def csts : List PyData → Nat
  | [] => 0
  | x :: xs => cst x + 4 + csts xs
end
theorem tupT_len (ts : List Str) : (tupleText ts).length ≤ piled ts + 4 := by
  unfold tupleText
  rw [strLen_append, strLen_append]
  have e1 : ((("(" : String) : Str)).length = 1 := rfl
  have e3 : (((if ts.length == 1 then ",)" else ")" : String) : Str)).length ≤ 2 := by split <;> decide +kernel
  by_cases h : ts = []
  · subst h; decide +kernel
  · have := join_length_add ts h; omega
theorem txtFrom_len : ∀ (ts : List Str) (k : Nat) (acc : Str), (textFrom k acc ts).length ≤ acc.length + piled ts
  | [], k, acc => Nat.le_add_right _ _
  | t :: r, k, acc => by
    have h := txtFrom_len r (k + 1) (acc ++ (if k > 0 then ", " else "" : String) ++ t)
    have e : (acc ++ (if k > 0 then ", " else "" : String) ++ t).length = acc.length + (if k > 0 then 2 else 0) + t.length := by
      rw [strLen_append, strLen_append]
      split <;> rfl
    rw [e] at h
    rw [piled_cons]
    have h2 : (textFrom k acc (t :: r)).length = (textFrom (k + 1) (acc ++ (if k > 0 then ", " else "" : String) ++ t) r).length := rfl
    rw [h2]
    have e2 : (if k > 0 then 2 else 0) ≤ 2 := by split <;> omega
    omega
theorem lstT_len (ts : List Str) : (listText ts).length ≤ piled ts + 4 := by
  unfold listText
  rw [strLen_append]
  have h := txtFrom_len ts 0 "["
  have e1 : ((("[" : String) : Str)).length = 1 := rfl
  have e2 : ((("]" : String) : Str)).length = 1 := rfl
  omega
mutual
theorem shown_le : ∀ d : PyData, d.showable = true → d.hasDict = false → d.shown.length ≤ cst d
  | .none, _, _ => by show (("None" : String) : Str).length ≤ 5; decide +kernel
  | .bool b, _, _ => by cases b <;> (show _ ≤ 5; decide +kernel)
  | .int i, h, _ => PyProof.Rows.int_text_len_1921 (of_decide_eq_true (by simpa [PyData.showable] using h))
  | .str x, _, _ => Nat.le_refl _
  | .list ds, h, g => by
    have h1 := showns_le ds (by simpa [PyData.showable] using h) (by simpa [PyData.hasDict] using g)
    have h2 := lstT_len (PyData.shownAll ds)
    show (listText (PyData.shownAll ds)).length ≤ csts ds + 4
    omega
  | .tuple ds, h, g => by
    have h1 := showns_le ds (by simpa [PyData.showable] using h) (by simpa [PyData.hasDict] using g)
    have h2 := tupT_len (PyData.shownAll ds)
    show (tupleText (PyData.shownAll ds)).length ≤ csts ds + 4
    omega
  | .dict _, _, g => by simp [PyData.hasDict] at g
theorem showns_le : ∀ ds : List PyData, PyData.showableAll ds = true → PyData.hasDictAll ds = false → piled (PyData.shownAll ds) ≤ csts ds
  | [], _, _ => Nat.le_refl _
  | d :: ds, h, g => by
    have h1 := shown_le d (by simp [PyData.showableAll] at h; exact h.1) (by simp [PyData.hasDictAll] at g; exact g.1)
    have h2 := showns_le ds (by simp [PyData.showableAll] at h; exact h.2) (by simp [PyData.hasDictAll] at g; exact g.2)
    show piled (d.shown :: PyData.shownAll ds) ≤ _
    rw [piled_cons]
    show _ ≤ cst d + 4 + csts ds
    omega
end
theorem shown_sz {d : PyData} (h : d.showable = true) (g : d.hasDict = false) (c : cst d ≤ 10000000) : d.shown.length ≤ sizeLine :=
  Nat.le_trans (shown_le d h g) (Nat.le_trans c (by decide))
end Toy
namespace Toy
open PySem PySem.Spec PyProof.Rows L2
/-- a list of ints grown by a part of another one -/
theorem ext_cut {L z : Addr} {ws es : List Int} {lo hi : Option Int} {H : Hp} {R : VK} (hL : H L = some (.lst (ws.map V.int))) (hz : H z = some (.lst (cutV (es.map V.int) lo hi))) (hs : ws.length + es.length ≤ 1000)
    (q : ∀ us : List Int, us.length ≤ es.length → (∀ x ∈ us, x ∈ es) → R .non (upd H L (.lst ((ws ++ us).map V.int)))) : rExtend (.ref L) [.ref z] H R := by
  obtain ⟨us, e, h1, h2⟩ := cut_map es lo hi
  rw [e] at hz
  refine ⟨L, z, _, _, rfl, rfl, hL, hz, small (by rw [List.length_map, List.length_map]; omega), ?_⟩
  have := q us h1 h2
  rw [List.map_append] at this
  exact this
theorem rep_len {n : Nat} : ((List.replicate n true).map V.bl).length = n := by rw [List.length_map, List.length_replicate]
theorem rep_snoc {n : Nat} : (List.replicate n true).map V.bl ++ [V.bl true] = (List.replicate (n + 1) true).map V.bl := by rw [List.replicate_succ', List.map_append] <;> rfl
theorem rep_all (n : Nat) : (List.replicate n true).all id = true := by rw [List.all_eq_true]; intro x hx; rw [List.mem_replicate] at hx; exact hx.2
theorem ixn {n j : Nat} (hj : j < n) : ixN n (j : Int) = some j := by
  unfold ixN
  rw [if_pos (by omega), if_pos (by omega)]
  exact congrArg some (Int.toNat_natCast j)
theorem dec_self (a : V) : decide (a = a) = true := decide_eq_true rfl
end Toy
namespace Toy
open PySem L2
def top (i : Nat) : Stmt := PySem.Challenge.pw_joinedasks_k27_halved_and_chained.main.body.getD i (.Pass ⟨0, 0, 0, 0⟩)
abbrev s_is_whole : Stmt := top 4
theorem sc_is_whole : FnScope ["thing"] ["thing"] (defScope s_is_whole) := ⟨rfl, rfl, rfl, by decide +kernel, rfl, by decide +kernel, by decide +kernel⟩
abbrev s_is_within : Stmt := top 5
theorem sc_is_within : FnScope ["thing", "least", "most"] ["thing", "least", "most"] (defScope s_is_within) := ⟨rfl, rfl, rfl, by decide +kernel, rfl, by decide +kernel, by decide +kernel⟩
abbrev s_want_within : Stmt := top 6
theorem sc_want_within : FnScope ["thing", "least", "most"] ["thing", "least", "most"] (defScope s_want_within) := ⟨rfl, rfl, rfl, by decide +kernel, rfl, by decide +kernel, by decide +kernel⟩
abbrev s_want_many : Stmt := top 9
theorem sc_want_many : FnScope ["many"] ["many"] (defScope s_want_many) := ⟨rfl, rfl, rfl, by decide +kernel, rfl, by decide +kernel, by decide +kernel⟩
abbrev s_halved_from : Stmt := top 10
theorem sc_halved_from : FnScope ["first", "many", "left"] ["first", "many"] (defScope s_halved_from) := ⟨rfl, rfl, rfl, by decide +kernel, rfl, by decide +kernel, by decide +kernel⟩
abbrev s_halved : Stmt := top 11
theorem sc_halved : FnScope ["many"] ["many"] (defScope s_halved) := ⟨rfl, rfl, rfl, by decide +kernel, rfl, by decide +kernel, by decide +kernel⟩
abbrev s_chained : Stmt := top 12
theorem sc_chained : FnScope ["many", "found", "number"] ["many"] (defScope s_chained) := ⟨rfl, rfl, rfl, by decide +kernel, rfl, by decide +kernel, by decide +kernel⟩
abbrev s__law_count : Stmt := top 14
theorem sc__law_count : FnScope ["_law_tree"] ["_law_tree"] (defScope s__law_count) := ⟨rfl, rfl, rfl, by decide +kernel, rfl, by decide +kernel, by decide +kernel⟩
abbrev s__law_is_halved : Stmt := top 15
theorem sc__law_is_halved : FnScope ["_law_tree", "_law_first", "_law_left"] ["_law_tree", "_law_first"] (defScope s__law_is_halved) := ⟨rfl, rfl, rfl, by decide +kernel, rfl, by decide +kernel, by decide +kernel⟩
abbrev s__law_right : Stmt := top 16
theorem sc__law_right : FnScope ["_law_many", "_law_told", "_law_due", "_law_number"] ["_law_many"] (defScope s__law_right) := ⟨rfl, rfl, rfl, by decide +kernel, rfl, by decide +kernel, by decide +kernel⟩
abbrev s_law : Stmt := top 17
theorem sc_law : FnScope ["_law_script", "_law_some", "_law_cell", "_law_many"] ["_law_script"] (defScope s_law) := ⟨rfl, rfl, rfl, by decide +kernel, rfl, by decide +kernel, by decide +kernel⟩
structure Bl (K : PySem.W.Frag) (mg : Str → Option Value) : Prop where
  all_ : mg "all" = none
  bool_ : mg "bool" = none
  int_ : mg "int" = none
  isinstance_ : mg "isinstance" = none
  len_ : mg "len" = none
  range_ : mg "range" = none
  repr_ : mg "repr" = none
  tuple_ : mg "tuple" = none
  MOST_DEEDS_ : ∃ t, mg "MOST_DEEDS" = some (.int 40 t)

/-! ### shown data: one look -/
structure Sh (d : PyData) (n c : Nat) : Prop where
  s : d.showable = true
  dep : d.depth ≤ n
  c : cst d ≤ c
theorem shAll {α : Type} {f : α → PyData} {n c : Nat} : ∀ {xs : List α}, (∀ x ∈ xs, Sh (f x) n c) → PyData.showableAll (xs.map f) = true ∧ PyData.depthAll (xs.map f) ≤ n ∧ csts (xs.map f) ≤ (c + 4) * xs.length
  | [], _ => ⟨rfl, Nat.zero_le _, Nat.zero_le _⟩
  | x :: r, h => by
    obtain ⟨h1, h2, h3⟩ := shAll (xs := r) fun y hy => h y (List.mem_cons_of_mem _ hy)
    obtain ⟨g1, g2, g3⟩ := h x List.mem_cons_self
    refine ⟨?_, ?_, ?_⟩
    · simp only [List.map_cons, PyData.showableAll, g1, h1, Bool.and_self]
    · simp only [List.map_cons, PyData.depthAll]; omega
    · simp only [List.map_cons, csts, List.length_cons, Nat.mul_add, Nat.mul_one]; omega
theorem Sh.tup {α : Type} {f : α → PyData} {n c m k j : Nat} {xs : List α} (h : ∀ x ∈ xs, Sh (f x) n c) (hm : n + 1 ≤ m) (hl : xs.length ≤ j) (hk : (c + 4) * j + 4 ≤ k) : Sh (.tuple (xs.map f)) m k := by
  obtain ⟨h1, h2, h3⟩ := shAll h
  have h4 := Nat.mul_le_mul_left (c + 4) hl
  refine ⟨h1, ?_, ?_⟩
  · simp only [PyData.depth]; omega
  · show csts _ + 4 ≤ k; omega
theorem Sh.lst {α : Type} {f : α → PyData} {n c m k j : Nat} {xs : List α} (h : ∀ x ∈ xs, Sh (f x) n c) (hm : n + 1 ≤ m) (hl : xs.length ≤ j) (hk : (c + 4) * j + 4 ≤ k) : Sh (.list (xs.map f)) m k := by
  obtain ⟨h1, h2, h3⟩ := shAll h
  have h4 := Nat.mul_le_mul_left (c + 4) hl
  refine ⟨h1, ?_, ?_⟩
  · simp only [PyData.depth]; omega
  · show csts _ + 4 ≤ k; omega
theorem int_sh {i : Int} (h1 : -(10 ^ 100) ≤ i) (h2 : i ≤ 10 ^ 100) : Sh (.int i) 0 1921 := by
  refine ⟨?_, Nat.le_refl _, Nat.le_refl _⟩
  have : i.natAbs.log2 < 1920 := log_lt (by decide) (Nat.lt_of_le_of_lt (m := 10 ^ 100) (by omega) (by decide))
  simpa [PyData.showable] using this
theorem Sh.mono {d : PyData} {n c n' c' : Nat} (h : Sh d n c) (h1 : n ≤ n') (h2 : c ≤ c') : Sh d n' c' := ⟨h.s, Nat.le_trans h.dep h1, Nat.le_trans h.c h2⟩
theorem rep_ {K : PySem.W.Frag} {σ : L2.St} {H : Hp} {x : V} {d : PyData} {n c : Nat} {Q : VK} (hd : Dp K H x d) (s : Sh d n c) (hn : n ≤ 60 := by decide) (hc : c ≤ 10000000 := by decide) (q : Q (.str d.shown) H) :
    tNil σ H (fun xs H2 => (fun vs H1 => rRepr K vs H1 Q) (x :: xs) H2) :=
  ⟨x, d, rfl, hd, s.s, Nat.le_trans s.dep hn, shown_sz s.s (dp_noDict d x hd) (Nat.le_trans s.c hc), q⟩
theorem dps {α : Type} {K : PySem.W.Frag} {H : Hp} {g : α → V} {f : α → PyData} : ∀ {xs : List α}, (∀ x ∈ xs, Dp K H (g x) (f x)) → DpAll K H (xs.map g) (xs.map f)
  | [], _ => .nil
  | x :: r, h => .cons (h x List.mem_cons_self) (dps fun y hy => h y (List.mem_cons_of_mem _ hy))
/-! ### trees -/
inductive Tr where
  | leaf (n : Nat)
  | node (l r : Tr)
def Tr.cnt : Tr → Nat
  | .leaf _ => 1
  | .node l r => l.cnt + r.cnt
def Tr.h : Tr → Nat
  | .leaf _ => 1
  | .node l r => max l.h r.h + 1
def Tr.d : Tr → PyData
  | .leaf n => .int n
  | .node l r => .tuple [l.d, r.d]
def Tr.big : Tr → Nat
  | .leaf n => n
  | .node l r => max l.big r.big
def TrAt (H : Hp) : V → Tr → Prop
  | v, .leaf n => v = .int n
  | v, .node l r => ∃ a x y, v = .ref a ∧ H a = some (.tup [x, y]) ∧ TrAt H x l ∧ TrAt H y r
theorem TrAt.same {H H' : Hp} (e : Same H H') : ∀ {t : Tr} {v : V}, TrAt H v t → TrAt H' v t
  | .leaf _, _, h => h
  | .node l r, _, ⟨a, x, y, h1, h2, h3, h4⟩ => ⟨a, x, y, h1, e _ _ h2, TrAt.same e h3, TrAt.same e h4⟩
theorem TrAt.dp {K : PySem.W.Frag} {H : Hp} : ∀ {t : Tr} {v : V}, TrAt H v t → Dp K H v t.d
  | .leaf n, _, h => by
    cases (show _ = V.int n from h)
    exact .int n
  | .node l r, _, ⟨a, x, y, h1, h2, h3, h4⟩ => by
    cases h1
    exact .tup (SqT.of h2) (.cons h3.dp (.cons h4.dp .nil))
theorem Tr.sh : ∀ {t : Tr} {b : Nat}, t.big ≤ b → b ≤ 10 ^ 9 → t.d.showable = true ∧ t.d.depth + 1 ≤ t.h ∧ cst t.d + 12 ≤ 1940 * t.cnt
  | .leaf n, b, h, hb => by
    have h' : n ≤ b := h
    have i := int_sh (i := n) (by omega) (by omega)
    exact ⟨i.s, Nat.le_refl _, by show 1921 + 12 ≤ 1940 * 1; decide⟩
  | .node l r, b, h, hb => by
    have h' : max l.big r.big ≤ b := h
    obtain ⟨a1, a2, a3⟩ := Tr.sh (t := l) (b := b) (by omega) hb
    obtain ⟨b1, b2, b3⟩ := Tr.sh (t := r) (b := b) (by omega) hb
    refine ⟨?_, ?_, ?_⟩
    · simp only [Tr.d, PyData.showable, PyData.showableAll, a1, b1, Bool.and_self]
    · simp only [Tr.d, PyData.depth, PyData.depthAll, Tr.h]; omega
    · show (cst l.d + 4 + (cst r.d + 4 + 0)) + 4 + 12 ≤ 1940 * (l.cnt + r.cnt); omega
theorem Tr.shw {t : Tr} (h1 : t.big ≤ 10 ^ 9) (h2 : t.h ≤ 50) (h3 : t.cnt ≤ 50) : Sh t.d 60 100000 := by
  obtain ⟨a, b, c⟩ := Tr.sh h1 (Nat.le_refl _)
  exact ⟨a, by omega, by omega⟩
theorem Tr.h_pos : ∀ t : Tr, 1 ≤ t.h
  | .leaf _ => Nat.le_refl _
  | .node _ _ => Nat.le_add_left _ _
/-- the halved tree -/
def hv (f m : Nat) : Tr := if m ≤ 1 then .leaf f else .node (hv f ((m + 1) / 2)) (hv (f + (m + 1) / 2) (m - (m + 1) / 2))
termination_by m
decreasing_by all_goals omega
theorem hv_one {f m : Nat} (h : m ≤ 1) : hv f m = .leaf f := by rw [hv, if_pos h]
theorem hv_more {f m : Nat} (h : ¬ m ≤ 1) : hv f m = .node (hv f ((m + 1) / 2)) (hv (f + (m + 1) / 2) (m - (m + 1) / 2)) := by rw [hv, if_neg h]
def IsH : Tr → Nat → Prop
  | .leaf n, f => n = f
  | .node l r, f => (l.cnt = r.cnt ∨ l.cnt = r.cnt + 1) ∧ IsH l f ∧ IsH r (f + l.cnt)
theorem hv_is : ∀ (m f : Nat), 1 ≤ m → IsH (hv f m) f ∧ (hv f m).cnt = m ∧ (hv f m).h ≤ m ∧ (hv f m).big ≤ f + m := by
  intro m
  induction m using Nat.strongRecOn with
  | _ m ih =>
    intro f h
    by_cases c : m ≤ 1
    · rw [hv_one c]
      have : m = 1 := by omega
      subst this
      exact ⟨rfl, rfl, Nat.le_refl _, Nat.le_add_right _ _⟩
    · rw [hv_more c]
      obtain ⟨a1, a2, a3, a4⟩ := ih ((m + 1) / 2) (by omega) f (by omega)
      obtain ⟨b1, b2, b3, b4⟩ := ih (m - (m + 1) / 2) (by omega) (f + (m + 1) / 2) (by omega)
      refine ⟨⟨by omega, a1, by rw [a2]; exact b1⟩, ?_, ?_, ?_⟩
      · show _ + _ = _; omega
      · show max _ _ + 1 ≤ _; omega
      · show max _ _ ≤ _; omega
/-- the chained tree of so many -/
def ch : Nat → Tr
  | 0 => .leaf 0
  | n + 1 => .node (ch n) (.leaf (n + 1))
theorem ch_is : ∀ n, (ch n).cnt = n + 1 ∧ (ch n).h ≤ n + 1 ∧ (ch n).big ≤ n
  | 0 => ⟨rfl, Nat.le_refl _, Nat.le_refl _⟩
  | n + 1 => by
    obtain ⟨a, b, c⟩ := ch_is n
    refine ⟨?_, ?_, ?_⟩
    · show _ + 1 = _; omega
    · show max _ 1 + 1 ≤ _; omega
    · show max _ (n + 1) ≤ _; omega
section
variable {P : Program} {w : World} {K : PySem.W.Frag} {mg : Str → Option Value} {base : Heap} (B : Bl K mg)
include B
/-! ### the program -/
def spIsWhole : Sp := fun vs H Q _ => ∃ i, vs = [.int i] ∧ Q (.bl true) H
theorem k_is_whole (D : Df K mg "is_whole" s_is_whole ["thing"]) : Dn P w K mg base 1 "is_whole" ["thing"] spIsWhole := by
  refine D.ok fun f fd F => okG0 F sc_is_whole (fun vs H Q E h => ?_) (fun cdv A outer s H vs Q E hr h => ⟨_, (pss_one (ps_ret (pe_and (pe_callB (kk (K := K) (F := rIsi) (P := CallR _ _) call_isi) (by rfl) B.isinstance_ (by decide +kernel) (pa_cons (pv 0) (pa_cons (pe_bltn (v := .ty "int") (u := .type "int") (by rfl) B.int_ (by decide +kernel) rfl) pa_nil))) (pe_one (pe_not (pe_callB (kk (K := K) (F := rIsi) (P := CallR _ _) call_isi) (by rfl) B.isinstance_ (by decide +kernel) (pa_cons (pv 0) (pa_cons (pe_bltn (v := .ty "bool") (u := .type "bool") (by rfl) B.bool_ (by decide +kernel) rfl) pa_nil)))))))), ?_⟩)
  · obtain ⟨i, rfl, _⟩ := h; rfl
  · obtain ⟨i, rfl, q⟩ := h
    refine ⟨_, rfl, _, _, _, _, _, rfl, .ty _, .base (.int _), kit_ty (b := "int") (r := true) (by decide +kernel), _, rfl, iteT ?_⟩
    refine ⟨_, rfl, _, _, _, _, _, rfl, .ty _, .base (.int _), kit_ty (b := "bool") (r := false) (by decide +kernel), _, rfl, ?_⟩
    exact q
def spIsWithin : Sp := fun vs H Q _ => ∃ i a b : Int, vs = [.int i, .int a, .int b] ∧ a ≤ i ∧ i ≤ b ∧ Q (.bl true) H
theorem k_is_within (D : Df K mg "is_within" s_is_within ["thing", "least", "most"]) (D_is_whole : Dn P w K mg base 1 "is_whole" ["thing"] spIsWhole) : Dn P w K mg base 2 "is_within" ["thing", "least", "most"] spIsWithin := by
  refine D.ok fun f fd F => okG0 F sc_is_within (fun vs H Q E h => ?_) (fun cdv A outer s H vs Q E hr h => ⟨_, (pss_one (ps_ret (pe_and (pe_cD D_is_whole (hr.less (by decide)) rfl (pa_cons (pv 0) pa_nil)) (pe_one (pe_chain op_le op_le (pv 1) (pv 0) (pv 2)))))), ?_⟩)
  · obtain ⟨i, a, b, rfl, _⟩ := h; rfl
  · obtain ⟨i, a, b, rfl, h1, h2, q⟩ := h
    refine ⟨_, rfl, i, rfl, _, rfl, iteT ?_⟩
    refine ⟨_, rfl, _, rfl, _, _, rfl, rfl, _, rfl, ifT (decide_eq_true h1) ⟨_, rfl, _, _, rfl, rfl, ?_⟩⟩
    exact (show Q (.bl (decide (i ≤ b))) H by rw [decide_eq_true h2]; exact q)
def spWantWithin : Sp := fun vs H Q _ => ∃ i a b : Int, vs = [.int i, .int a, .int b] ∧ a ≤ i ∧ i ≤ b ∧ Q .non H
theorem k_want_within (D : Df K mg "want_within" s_want_within ["thing", "least", "most"]) (D_is_within : Dn P w K mg base 2 "is_within" ["thing", "least", "most"] spIsWithin) : Dn P w K mg base 3 "want_within" ["thing", "least", "most"] spWantWithin := by
  refine D.ok fun f fd F => okG0 F sc_want_within (fun vs H Q E h => ?_) (fun cdv A outer s H vs Q E hr h => ⟨_, (pss_one (ps_if (pt_not (pt_val (pe_cD D_is_within (hr.less (by decide)) rfl (pa_cons (pv 0) (pa_cons (pv 1) (pa_cons (pv 2) pa_nil))))))
     (pss_one ps_never)
     pss_nil)), ?_⟩)
  · obtain ⟨i, a, b, rfl, _⟩ := h; rfl
  · obtain ⟨i, a, b, rfl, h1, h2, q⟩ := h
    exact ⟨_, rfl, _, rfl, _, rfl, i, a, b, rfl, h1, h2, _, rfl, iteF q⟩
def spWantMany : Sp := fun vs H Q _ => ∃ i : Int, vs = [.int i] ∧ 1 ≤ i ∧ i ≤ 40 ∧ Q .non H
theorem k_want_many (D : Df K mg "want_many" s_want_many ["many"]) (D_want_within : Dn P w K mg base 3 "want_within" ["thing", "least", "most"] spWantWithin) : Dn P w K mg base 4 "want_many" ["many"] spWantMany := by
  refine D.ok fun f fd F => okG0 F sc_want_many (fun vs H Q E h => ?_) (fun cdv A outer s H vs Q E hr h => ⟨_, (pss_one (ps_expr (pe_cD D_want_within (hr.less (by decide)) rfl (pa_cons (pv 0) (pa_cons pe_int (pa_cons (pe_glob (v := .int 40) (u := .int 40 B.MOST_DEEDS_.choose) (by rfl) B.MOST_DEEDS_.choose_spec ⟨_, rfl⟩) pa_nil)))))), ?_⟩)
  · obtain ⟨i, rfl, _⟩ := h; rfl
  · obtain ⟨i, rfl, h1, h2, q⟩ := h
    exact ⟨_, rfl, i, 1, 40, rfl, h1, h2, q⟩
def spHf (n : Nat) : Sp := fun vs H Q _ => ∃ f m : Nat, vs = [.int f, .int m] ∧ 1 ≤ m ∧ m ≤ n ∧ ∀ v H', Same H H' → TrAt H' v (hv f m) → Q v H'
theorem halved_from_z (vs : List V) (H : Hp) (Q : VK) (E : XK) : ¬ spHf 0 vs H Q E := by
  rintro ⟨f, m, _, h1, h2, _⟩
  omega
theorem k_halved_from_rec (D : Df K mg "halved_from" s_halved_from ["first", "many"]) : ∀ n : Nat, Dn P w K mg base (1 + n) "halved_from" ["first", "many"] (spHf n) := by
  intro n
  induction n with
  | zero => exact D.ok fun f fd F => ⟨fun vs H Q E h => (halved_from_z B vs H Q E h).elim, fun _ _ _ _ h => (halved_from_z B _ _ _ _ h).elim⟩
  | succ n D_halved_from =>
    refine D.ok fun f fd F => okG0 (k := 1 + n) F sc_halved_from (fun vs H Q E h => ?_) (fun cdv A outer s H vs Q E hr h => ⟨_, (pss_cons (ps_if (pt_cmpR op_eq (pv 1) pe_int (nomark _))
      (pss_one (ps_ret (pv 0)))
      pss_nil)
    (pss_cons (ps_set (i := 2) sc_halved_from.nd rfl (Or.inl rfl) (pe_op op_fdivW (pe_op op_add (pv 1) pe_int) pe_int))
    (pss_one (ps_ret (pe_tup (pa_cons (pe_cD D_halved_from (hr.less (by omega)) rfl (pa_cons (pv 0) (pa_cons (pv 2) pa_nil))) (pa_cons (pe_cD D_halved_from (hr.less (by omega)) rfl (pa_cons (pe_op op_add (pv 0) (pv 2)) (pa_cons (pe_op op_sub (pv 1) (pv 2)) pa_nil))) pa_nil))))))), ?_⟩)
    · obtain ⟨f, m, rfl, _⟩ := h; rfl
    · obtain ⟨f, m, rfl, h1, h2, q⟩ := h
      refine ⟨_, rfl, rfl, _, rfl, ite2 (fun c => ?_) (fun c => ?_)⟩
      · have c' : m = 1 := by have := V.int.inj (of_decide_eq_true c); omega
        subst c'
        exact ⟨_, rfl, q _ _ (Same.refl _) (by rw [hv_one (Nat.le_refl _)]; rfl)⟩
      · have c' : m ≠ 1 := fun z => c (by subst z; rfl)
        have hm : ¬ m ≤ 1 := by omega
        have el : ((m : Int) + 1) / 2 = ((m + 1) / 2 : Nat) := by omega
        refine ⟨_, rfl, _, _, rfl, rfl, _, _, rfl, rfl, ⟨by decide, by decide⟩, ?_⟩
        dsimp only
        rw [el]
        refine ⟨_, rfl, _, rfl, f, (m + 1) / 2, rfl, by omega, by omega, fun v1 H1 S1 t1 => ?_⟩
        refine ⟨_, rfl, _, rfl, _, _, rfl, rfl, _, rfl, _, rfl, _, _, rfl, rfl, f + (m + 1) / 2, m - (m + 1) / 2, ?_, by omega, by omega, fun v2 H2 S2 t2 => ⟨sz, fun a ha => ?_⟩⟩
        · show [V.int ((f : Int) + ((m + 1) / 2 : Nat)), V.int ((m : Int) - ((m + 1) / 2 : Nat))] = _
          rw [show (f : Int) + ((m + 1) / 2 : Nat) = ((f + (m + 1) / 2 : Nat) : Int) by omega, show (m : Int) - ((m + 1) / 2 : Nat) = ((m - (m + 1) / 2 : Nat) : Int) by omega] <;> rfl
        · have S3 := same_new ha (.tup [v1, v2])
          refine q _ _ (S1.trans (S2.trans S3)) ?_
          rw [hv_more hm]
          exact ⟨a, v1, v2, rfl, upd_same, (t1.same S2).same S3, t2.same S3⟩
theorem k_halved_from (D : Df K mg "halved_from" s_halved_from ["first", "many"]) : Dn P w K mg base 41 "halved_from" ["first", "many"] (spHf 40) := k_halved_from_rec B D  40
def spHalved : Sp := fun vs H Q _ => ∃ m : Nat, vs = [.int m] ∧ 1 ≤ m ∧ m ≤ 40 ∧ ∀ v H', Same H H' → TrAt H' v (hv 0 m) → Q v H'
theorem k_halved (D : Df K mg "halved" s_halved ["many"]) (D_want_many : Dn P w K mg base 4 "want_many" ["many"] spWantMany) (D_halved_from : Dn P w K mg base 41 "halved_from" ["first", "many"] (spHf 40)) : Dn P w K mg base 42 "halved" ["many"] spHalved := by
  refine D.ok fun f fd F => okG0 F sc_halved (fun vs H Q E h => ?_) (fun cdv A outer s H vs Q E hr h => ⟨_, (pss_cons (ps_expr (pe_cD D_want_many (hr.less (by decide)) rfl (pa_cons (pv 0) pa_nil)))
    (pss_one (ps_ret (pe_cD D_halved_from (hr.less (by decide)) rfl (pa_cons pe_int (pa_cons (pv 0) pa_nil)))))), ?_⟩)
  · obtain ⟨m, rfl, _⟩ := h; rfl
  · obtain ⟨m, rfl, h1, h2, q⟩ := h
    exact ⟨_, rfl, m, rfl, by omega, by omega, _, rfl, 0, m, rfl, h1, h2, q⟩
def spChained : Sp := fun vs H Q _ => ∃ m : Nat, vs = [.int m] ∧ 1 ≤ m ∧ m ≤ 40 ∧ ∀ v H', Same H H' → TrAt H' v (ch (m - 1)) → Q v H'
theorem k_chained (D : Df K mg "chained" s_chained ["many"]) (D_want_many : Dn P w K mg base 4 "want_many" ["many"] spWantMany) : Dn P w K mg base 5 "chained" ["many"] spChained := by
  refine D.ok fun f fd F => okG0 F sc_chained (fun vs H Q E h => ?_) (fun cdv A outer s H vs Q E hr h => ⟨_, (pss_cons (ps_expr (pe_cD D_want_many (hr.less (by decide)) rfl (pa_cons (pv 0) pa_nil)))
    (pss_cons (ps_set (i := 1) sc_chained.nd rfl (Or.inl rfl) pe_int)
    (pss_cons (ps_for PassesOwn.never rfl (pi_range2 (by rfl) B.range_ (pa_cons pe_int (pa_cons (pv 0) pa_nil))) (pg_name (i := 2) sc_chained.nd rfl (Or.inl rfl))
      (pss_one (ps_set (i := 1) sc_chained.nd rfl (Or.inl rfl) (pe_tup (pa_cons (pv 1) (pa_cons (pv 2) pa_nil))))))
    (pss_one (ps_ret (pv 1)))))), ?_⟩)
  · obtain ⟨m, rfl, _⟩ := h; rfl
  · obtain ⟨m, rfl, h1, h2, q⟩ := h
    refine ⟨_, rfl, m, rfl, by omega, by omega, ?_⟩
    refine ⟨_, rfl, _, _, rfl, ⟨by decide, by decide, by omega, by omega⟩, ?_⟩
    have e : ((m : Int) - 1).toNat = m - 1 := by omega
    rw [e]
    refine for_range (lo := 1) (n := m - 1) (fun i σ H1 => ∃ (v : V) (w : Option V), σ = [some (.int m), some v, w] ∧ Same H H1 ∧ TrAt H1 v (ch i)) ⟨_, none, rfl, Same.refl H, rfl⟩ ?_ ?_
    · rintro i σ H1 hi ⟨v, w, rfl, S1, t1⟩
      refine ⟨_, rfl, _, rfl, sz, fun a ha => ?_⟩
      have S2 := same_new ha (.tup [v, .int (1 + (i : Int))])
      exact ⟨_, _, rfl, S1.trans S2, a, v, _, rfl, upd_same, t1.same S2, congrArg V.int (by omega)⟩
    · rintro σ H1 ⟨v, w, rfl, S1, t1⟩
      exact ⟨_, rfl, q _ _ S1 t1⟩
def spCount (K : PySem.W.Frag) (n : Nat) : Sp := fun vs H Q _ => ∃ (v : V) (t : Tr), vs = [v] ∧ TrAt H v t ∧ t.h ≤ n ∧ Q (.int t.cnt) H
theorem _law_count_z (vs : List V) (H : Hp) (Q : VK) (E : XK) : ¬ spCount K 0 vs H Q E := by
  rintro ⟨v, t, _, _, h2, _⟩
  have := t.h_pos
  omega
theorem k__law_count_rec (D : Df K mg "_law_count" s__law_count ["_law_tree"]) : ∀ n : Nat, Dn P w K mg base (1 + n) "_law_count" ["_law_tree"] ((spCount K) n) := by
  intro n
  induction n with
  | zero => exact D.ok fun f fd F => ⟨fun vs H Q E h => (_law_count_z B vs H Q E h).elim, fun _ _ _ _ h => (_law_count_z B _ _ _ _ h).elim⟩
  | succ n D__law_count =>
    refine D.ok fun f fd F => okG0 (k := 1 + n) F sc__law_count (fun vs H Q E h => ?_) (fun cdv A outer s H vs Q E hr h => ⟨_, (pss_cons (ps_if (pt_not (pt_val (pe_callB (kk (K := K) (F := rIsi) (P := CallR _ _) call_isi) (by rfl) B.isinstance_ (by decide +kernel) (pa_cons (pv 0) (pa_cons (pe_bltn (v := .ty "tuple") (u := .type "tuple") (by rfl) B.tuple_ (by decide +kernel) rfl) pa_nil)))))
      (pss_one (ps_ret pe_int))
      pss_nil)
    (pss_one (ps_ret (pe_op op_add (pe_cD D__law_count (hr.less (by omega)) rfl (pa_cons (pe_ix (kk (K := K) (F := rIxT) (P := IxR _) ix_tup) (pv 0) pe_int (fun _ _ => rfl)) pa_nil)) (pe_cD D__law_count (hr.less (by omega)) rfl (pa_cons (pe_ix (kk (K := K) (F := rIxT) (P := IxR _) ix_tup) (pv 0) pe_int (fun _ _ => rfl)) pa_nil)))))), ?_⟩)
    · obtain ⟨v, t, rfl, _⟩ := h; rfl
    · obtain ⟨v, t, rfl, ht, hn, q⟩ := h
      cases t with
      | leaf m =>
        cases (show v = V.int m from ht)
        exact ⟨_, rfl, _, _, _, _, _, rfl, .ty _, .base (.int _), kit_ty (b := "tuple") (r := false) (by decide +kernel), _, rfl, iteT q⟩
      | node l r =>
        obtain ⟨a, x, y, rfl, ha, hx, hy⟩ := ht
        have hn' : max l.h r.h + 1 ≤ n + 1 := hn
        refine ⟨_, rfl, _, _, _, _, _, rfl, .ty _, .base (.tup ha), kit_ty (b := "tuple") (r := true) (by decide +kernel), _, rfl, iteF ?_⟩
        refine ⟨_, rfl, a, _, _, _, rfl, rfl, SqT.of ha, at_of (j := 0) rfl rfl, x, l, rfl, hx, by omega, ?_⟩
        refine ⟨_, rfl, a, _, _, _, rfl, rfl, SqT.of ha, at_of (j := 1) rfl rfl, y, r, rfl, hy, by omega, ?_⟩
        exact ⟨_, _, rfl, rfl, q⟩
theorem k__law_count (D : Df K mg "_law_count" s__law_count ["_law_tree"]) : Dn P w K mg base 41 "_law_count" ["_law_tree"] ((spCount K) 40) := k__law_count_rec B D  40
def spIsHalved (K : PySem.W.Frag) (n : Nat) : Sp := fun vs H Q _ => ∃ (v : V) (t : Tr) (f : Nat), vs = [v, .int f] ∧ TrAt H v t ∧ t.h ≤ n ∧ t.h ≤ 40 ∧ IsH t f ∧ f ≤ 10 ^ 9 ∧ t.cnt ≤ 10 ^ 9 ∧ f + t.cnt ≤ 10 ^ 9 ∧ ∀ H', Same H H' → Q (.bl true) H'
theorem _law_is_halved_z (vs : List V) (H : Hp) (Q : VK) (E : XK) : ¬ spIsHalved K 0 vs H Q E := by
  rintro ⟨v, t, f, _, _, h2, _⟩
  have := t.h_pos
  omega
theorem k__law_is_halved_rec (D : Df K mg "_law_is_halved" s__law_is_halved ["_law_tree", "_law_first"]) (D__law_count : Dn P w K mg base 41 "_law_count" ["_law_tree"] ((spCount K) 40)) : ∀ n : Nat, Dn P w K mg base (41 + n) "_law_is_halved" ["_law_tree", "_law_first"] ((spIsHalved K) n) := by
  intro n
  induction n with
  | zero => exact D.ok fun f fd F => ⟨fun vs H Q E h => (_law_is_halved_z B vs H Q E h).elim, fun _ _ _ _ h => (_law_is_halved_z B _ _ _ _ h).elim⟩
  | succ n D__law_is_halved =>
    refine D.ok fun f fd F => okG0 (k := 41 + n) F sc__law_is_halved (fun vs H Q E h => ?_) (fun cdv A outer s H vs Q E hr h => ⟨_, (pss_cons (ps_if (pt_not (pt_val (pe_callB (kk (K := K) (F := rIsi) (P := CallR _ _) call_isi) (by rfl) B.isinstance_ (by decide +kernel) (pa_cons (pv 0) (pa_cons (pe_bltn (v := .ty "tuple") (u := .type "tuple") (by rfl) B.tuple_ (by decide +kernel) rfl) pa_nil)))))
      (pss_one (ps_ret (pe_cmpR op_eq (pe_callB (reprK (K := K) hr) (by rfl) B.repr_ (by decide +kernel) (pa_cons (pv 0) pa_nil)) (pe_callB (reprK (K := K) hr) (by rfl) B.repr_ (by decide +kernel) (pa_cons (pv 1) pa_nil)) (nomark _))))
      pss_nil)
    (pss_cons (ps_if (pt_cmpR op_ne (pe_callB (lenK (K := K)) (by rfl) B.len_ (by decide +kernel) (pa_cons (pv 0) pa_nil)) pe_int (nomark _))
      (pss_one (ps_ret pe_bl))
      pss_nil)
    (pss_cons (ps_set (i := 2) sc__law_is_halved.nd rfl (Or.inl rfl) (pe_cD D__law_count (hr.less (by omega)) rfl (pa_cons (pe_ix (kk (K := K) (F := rIxT) (P := IxR _) ix_tup) (pv 0) pe_int (fun _ _ => rfl)) pa_nil)))
    (pss_cons (ps_if (pt_cmpR (kk (K := K) (F := fun K => rIn K true) (P := OpR _ _) op_notIn_seq) (pe_op op_sub (pv 2) (pe_cD D__law_count (hr.less (by omega)) rfl (pa_cons (pe_ix (kk (K := K) (F := rIxT) (P := IxR _) ix_tup) (pv 0) pe_int (fun _ _ => rfl)) pa_nil))) (pe_tup (pa_cons pe_int (pa_cons pe_int pa_nil))) (by rfl))
      (pss_one (ps_ret pe_bl))
      pss_nil)
    (pss_one (ps_ret (pe_and (pe_cD D__law_is_halved (hr.less (by omega)) rfl (pa_cons (pe_ix (kk (K := K) (F := rIxT) (P := IxR _) ix_tup) (pv 0) pe_int (fun _ _ => rfl)) (pa_cons (pv 1) pa_nil))) (pe_one (pe_cD D__law_is_halved (hr.less (by omega)) rfl (pa_cons (pe_ix (kk (K := K) (F := rIxT) (P := IxR _) ix_tup) (pv 0) pe_int (fun _ _ => rfl)) (pa_cons (pe_op op_add (pv 1) (pv 2)) pa_nil))))))))))), ?_⟩)
    · obtain ⟨v, t, f, rfl, _⟩ := h; rfl
    · obtain ⟨v, t, f, rfl, ht, hn, h40, is, hf, hc, hfc, q⟩ := h
      cases t with
      | leaf m =>
        cases (show v = V.int m from ht)
        have e : m = f := is
        subst e
        refine ⟨_, rfl, _, _, _, _, _, rfl, .ty _, .base (.int _), kit_ty (b := "tuple") (r := false) (by decide +kernel), _, rfl, iteT ?_⟩
        have s := int_sh (i := m) (by omega) (by omega)
        refine ⟨_, rfl, rep_ (.int _) s (q := ⟨_, rfl, rep_ (.int _) s (q := ⟨rfl, ?_⟩)⟩)⟩
        rw [dec_self]
        exact q _ (Same.refl _)
      | node l r =>
        obtain ⟨a, x, y, rfl, ha, hx, hy⟩ := ht
        have hn' : max l.h r.h + 1 ≤ n + 1 := hn
        have h40' : max l.h r.h + 1 ≤ 40 := h40
        have hfc' : f + (l.cnt + r.cnt) ≤ 10 ^ 9 := hfc
        obtain ⟨i1, i2, i3⟩ := is
        refine ⟨_, rfl, _, _, _, _, _, rfl, .ty _, .base (.tup ha), kit_ty (b := "tuple") (r := true) (by decide +kernel), _, rfl, iteF ?_⟩
        refine ⟨_, rfl, a, _, rfl, .inr (SqT.of ha), rfl, _, rfl, iteF ?_⟩
        refine ⟨_, rfl, a, _, _, _, rfl, rfl, SqT.of ha, at_of (j := 0) rfl rfl, x, l, rfl, hx, by omega, ?_⟩
        refine ⟨_, rfl, _, rfl, a, _, _, _, rfl, rfl, SqT.of ha, at_of (j := 1) rfl rfl, y, r, rfl, hy, by omega, ?_⟩
        refine ⟨_, _, rfl, rfl, sz, fun t ht => ⟨t, _, rfl, .inr (SqT.of upd_same), rfl, rfl, _, rfl, ifF ?_ ?_⟩⟩
        · show (!inV (V.int ((l.cnt : Int) - r.cnt)) [V.int 0, V.int 1]) = false
          rcases i1 with e | e
          · rw [show (l.cnt : Int) - r.cnt = 0 by omega]; rfl
          · rw [show (l.cnt : Int) - r.cnt = 1 by omega]; rfl
        have S1 := same_new ht (.tup [.int 0, .int 1])
        refine ⟨_, rfl, a, _, _, _, rfl, rfl, SqT.of (S1 _ _ ha), at_of (j := 0) rfl rfl, _, rfl, x, l, f, rfl, hx.same S1, by omega, by omega, i2, hf, by omega, by omega, fun H2 S2 => ⟨_, rfl, iteT ?_⟩⟩
        have S12 := S1.trans S2
        refine ⟨_, rfl, a, _, _, _, rfl, rfl, SqT.of (S12 _ _ ha), at_of (j := 1) rfl rfl, _, rfl, _, rfl, _, _, rfl, rfl, y, r, f + l.cnt, ?_, hy.same S12, by omega, by omega, i3, by omega, by omega, by omega, fun H3 S3 => q _ (S12.trans S3)⟩
        show [_, V.int ((f : Int) + (l.cnt : Int))] = _
        rw [Int.natCast_add]
theorem k__law_is_halved (D : Df K mg "_law_is_halved" s__law_is_halved ["_law_tree", "_law_first"]) (D__law_count : Dn P w K mg base 41 "_law_count" ["_law_tree"] ((spCount K) 40)) : Dn P w K mg base 81 "_law_is_halved" ["_law_tree", "_law_first"] ((spIsHalved K) 40) := k__law_is_halved_rec B D D__law_count 40
def spRight : Sp := fun vs H Q _ => ∃ m : Nat, vs = [.int m] ∧ 1 ≤ m ∧ m ≤ 40 ∧ ∀ H', Same H H' → Q (.bl true) H'
theorem k__law_right (D : Df K mg "_law_right" s__law_right ["_law_many"]) (D_halved : Dn P w K mg base 42 "halved" ["many"] spHalved) (D_chained : Dn P w K mg base 5 "chained" ["many"] spChained) (D__law_count : Dn P w K mg base 41 "_law_count" ["_law_tree"] ((spCount K) 40)) (D__law_is_halved : Dn P w K mg base 81 "_law_is_halved" ["_law_tree", "_law_first"] ((spIsHalved K) 40)) : Dn P w K mg base 90 "_law_right" ["_law_many"] spRight := by
  refine D.ok fun f fd F => okG0 F sc__law_right (fun vs H Q E h => ?_) (fun cdv A outer s H vs Q E hr h => ⟨_, (pss_cons (ps_set (i := 1) sc__law_right.nd rfl (Or.inl rfl) (pe_cD D_halved (hr.less (by decide)) rfl (pa_cons (pv 0) pa_nil)))
    (pss_cons (ps_set (i := 2) sc__law_right.nd rfl (Or.inl rfl) pe_int)
    (pss_cons (ps_for PassesOwn.never rfl (pi_range2 (by rfl) B.range_ (pa_cons pe_int (pa_cons (pv 0) pa_nil))) (pg_name (i := 3) sc__law_right.nd rfl (Or.inl rfl))
      (pss_one (ps_set (i := 2) sc__law_right.nd rfl (Or.inl rfl) (pe_tup (pa_cons (pv 2) (pa_cons (pv 3) pa_nil))))))
    (pss_cons (ps_if (PW.pt (pw_or (pt_cmpR op_ne (pe_cD D__law_count (hr.less (by decide)) rfl (pa_cons (pv 1) pa_nil)) (pv 0) (nomark _)) (pw_or (pt_not (pt_val (pe_cD D__law_is_halved (hr.less (by decide)) rfl (pa_cons (pv 1) (pa_cons pe_int pa_nil))))) (pw_or1 (pt_cmpR op_ne (pe_callB (reprK (K := K) hr) (by rfl) B.repr_ (by decide +kernel) (pa_cons (pe_cD D_chained (hr.less (by decide)) rfl (pa_cons (pv 0) pa_nil)) pa_nil)) (pe_callB (reprK (K := K) hr) (by rfl) B.repr_ (by decide +kernel) (pa_cons (pv 2) pa_nil)) (nomark _))))))
      (pss_one (ps_ret pe_bl))
      pss_nil)
    (pss_one (ps_ret (pe_and (pe_cmpR op_eq (pe_callB (reprK (K := K) hr) (by rfl) B.repr_ (by decide +kernel) (pa_cons (pe_cD D_halved (hr.less (by decide)) rfl (pa_cons (pv 0) pa_nil)) pa_nil)) (pe_callB (reprK (K := K) hr) (by rfl) B.repr_ (by decide +kernel) (pa_cons (pv 1) pa_nil)) (nomark _)) (pe_one (pe_cmpR op_eq (pe_callB (reprK (K := K) hr) (by rfl) B.repr_ (by decide +kernel) (pa_cons (pe_cD D_chained (hr.less (by decide)) rfl (pa_cons (pv 0) pa_nil)) pa_nil)) (pe_callB (reprK (K := K) hr) (by rfl) B.repr_ (by decide +kernel) (pa_cons (pv 2) pa_nil)) (nomark _)))))))))), ?_⟩)
  · obtain ⟨m, rfl, _⟩ := h; rfl
  · obtain ⟨m, rfl, h1, h2, q⟩ := h
    refine ⟨_, rfl, m, rfl, h1, h2, fun v H1 S1 t1 => ?_⟩
    obtain ⟨a1, a2, a3, a4⟩ := hv_is m 0 h1
    obtain ⟨c1, c2, c3⟩ := ch_is (m - 1)
    have s1 := Tr.shw (t := hv 0 m) (by omega) (by omega) (by omega)
    have s2 := Tr.shw (t := ch (m - 1)) (by omega) (by omega) (by omega)
    refine ⟨_, rfl, _, _, rfl, ⟨by decide, by decide, by omega, by omega⟩, ?_⟩
    have e : ((m : Int) - 1).toNat = m - 1 := by omega
    rw [e]
    refine for_range (lo := 1) (n := m - 1) (fun i σ H2 => ∃ (u : V) (w : Option V), σ = [some (.int m), some v, some u, w] ∧ Same H1 H2 ∧ TrAt H2 u (ch i)) ⟨_, none, rfl, Same.refl H1, rfl⟩ ?_ ?_
    · rintro i σ H2 hi ⟨u, w, rfl, S2, t2⟩
      refine ⟨_, rfl, _, rfl, sz, fun a ha => ?_⟩
      have S3 := same_new ha (.tup [u, .int (1 + (i : Int))])
      exact ⟨_, _, rfl, S2.trans S3, a, u, _, rfl, upd_same, t2.same S3, congrArg V.int (by omega)⟩
    · rintro σ H2 ⟨u, w, rfl, S2, tu⟩
      refine ⟨_, rfl, v, _, rfl, t1.same S2, by omega, _, rfl, rfl, _, rfl, ifF (dec_ne (by rw [a2])) ?_⟩
      refine ⟨_, rfl, v, _, 0, rfl, t1.same S2, by omega, by omega, a1, by decide, by omega, by omega, fun H3 S3 => ⟨_, rfl, iteF ?_⟩⟩
      refine ⟨_, rfl, m, rfl, h1, h2, fun u2 H4 S4 tu2 => ?_⟩
      refine rep_ tu2.dp s2 (q := ⟨_, rfl, rep_ ((tu.same S3).same S4).dp s2 (q := ⟨rfl, _, rfl, ifF (dec_ne rfl) ?_⟩)⟩)
      refine ⟨_, rfl, m, rfl, h1, h2, fun v2 H5 S5 tv2 => ?_⟩
      have S25 := S3.trans (S4.trans S5)
      refine rep_ tv2.dp s1 (q := ⟨_, rfl, rep_ ((t1.same S2).same S25).dp s1 (q := ⟨rfl, _, rfl, ifT (decide_eq_true rfl) ?_⟩)⟩)
      refine ⟨_, rfl, m, rfl, h1, h2, fun u3 H6 S6 tu3 => ?_⟩
      refine rep_ tu3.dp s2 (q := ⟨_, rfl, rep_ (tu.same (S25.trans S6)).dp s2 (q := ⟨rfl, ?_⟩)⟩)
      rw [dec_self]
      exact q _ (S1.trans (S2.trans (S25.trans S6)))
def spLaw (K : PySem.W.Frag) : Sp := fun vs H Q _ => ∃ (a : Addr) (ns : List Int), vs = [.ref a] ∧ SqL K H a (ns.map V.int) ∧ ns.length ≤ 63 ∧ ∀ H', Q (.bl true) H'
theorem k_law {f : Addr} {fd : FuncData} (F : Fun K "law" "law" s_law f fd) (D__law_right : Dn P w K mg base 90 "_law_right" ["_law_many"] spRight) : FnG P w K mg base CX0 91 f fd ["_law_script"] (spLaw K) := by
  refine okG0 F sc_law (fun vs H Q E h => ?_) (fun cdv A outer s H vs Q E hr h => ⟨_, (pss_cons (ps_set (i := 1) sc_law.nd rfl (Or.inl rfl) (pe_op op_cat (pe_lst (pa_cons pe_int (pa_cons pe_int (pa_cons pe_int (pa_cons pe_int pa_nil))))) (pe_lc (own := [("_law_cell", 2)]) (g := gName 2) (tt := tYes) rfl sc_law.nd (kk (K := K) (F := fun K => iList K _) (P := PI _ _ _) (pi_list (pe_slice (kk (K := K) (F := rSlL) (P := L2.SlR _) sl_list) (pv 0) po_none (po_some pe_int)))) (blkOk_by (own := [("_law_cell", 2)]) (N := ["_law_script", "_law_some", "_law_cell", "_law_many"]) (sc := defScope s_law) (by decide +kernel)) (fun _ _ _ _ _ => (pg_name (i := 2) sc_law.nd rfl (Or.inl rfl))) (fun _ _ _ _ _ => pts_nil) (fun _ _ _ _ _ => (pe_op op_add pe_int (pe_op op_mod (pv 2) pe_int))))))
    (pss_one (ps_ret (pe_callB (kk (K := K) (F := rAll) (P := CallR _ _) (cr_all rfl)) (by rfl) B.all_ (by decide +kernel) (pa_cons (pe_lc (own := [("_law_many", 3)]) (g := gName 3) (tt := tYes) rfl sc_law.nd (kk (K := K) (F := fun K => iList K _) (P := PI _ _ _) (pi_list (pv 1))) (blkOk_by (own := [("_law_many", 3)]) (N := ["_law_script", "_law_some", "_law_cell", "_law_many"]) (sc := defScope s_law) (by decide +kernel)) (fun _ _ _ _ _ => (pg_name (i := 3) sc_law.nd rfl (Or.inl rfl))) (fun _ _ _ _ _ => pts_nil) (fun _ _ _ _ _ => (pe_cD D__law_right (hr.less (by decide)) rfl (pa_cons (pv 3) pa_nil)))) pa_nil))))), ?_⟩)
  · obtain ⟨a, ns, rfl, _⟩ := h; rfl
  · obtain ⟨a, ns, rfl, hs, hn, q⟩ := h
    refine ⟨sz, fun l0 hl0 => ?_⟩
    obtain ⟨ws, ew, lw, _⟩ := cut_map ns none (some 12)
    have S0 := same_new hl0 (.lst [.int 1, .int 2, .int 3, .int 4])
    refine ⟨_, rfl, _, rfl, a, _, rfl, S0.seq hs, fun w hw => ⟨w, rfl, ⟨_, SqL.of upd_same⟩, fun D hD => ?_⟩⟩
    rw [ew] at hD ⊢
    have S1 := same_new hw (.lst (ws.map V.int))
    refine lc_list (K := K) (a := w) (xs := ws.map V.int) (fun i H2 => Same (upd (upd H l0 (.lst [.int 1, .int 2, .int 3, .int 4])) w (.lst (ws.map V.int))) H2 ∧ ∃ us : List Int, us.length = i ∧ H2 D = some (.lst (us.map V.int)) ∧ ∀ x ∈ us, 1 ≤ x ∧ x ≤ 40) ⟨same_new hD _, [], rfl, upd_same, fun x hx => nomatch hx⟩ (fun i H2 _ h => SqL.of (h.1 _ _ upd_same)) ?_ ?_
    · rintro i y H2 hi ⟨S2, us, hu, hD2, hx⟩
      obtain ⟨x, rfl, hx1⟩ := at_map hi
      have hi2 : i < ws.length := (List.getElem?_eq_some_iff.mp hx1).1
      refine ⟨rfl, _, rfl, _, _, rfl, rfl, pj, _, _, rfl, rfl, _, hD2, small1000 (by rw [List.length_map]; omega), but_same hD S2 But.upd, us ++ [1 + x % 40], by rw [List.length_append, hu] <;> rfl, by rw [upd_same, List.map_append] <;> rfl, ?_⟩
      intro z hz
      rcases List.mem_append.mp hz with h3 | h3
      · exact hx z h3
      · have := List.mem_singleton.mp h3; subst this; omega
    · rintro H2 ⟨S2, us, hu, hD2, hx⟩
      rw [List.length_map] at hu
      refine ⟨l0, D, _, _, rfl, rfl, S2 _ _ (S1 _ _ upd_same), hD2, small (by rw [List.length_map]; show 4 + us.length ≤ 1000; omega), fun l hl => ?_⟩
      have S3 := same_new hl (.lst ([.int 1, .int 2, .int 3, .int 4] ++ us.map V.int))
      obtain ⟨vs, hvs⟩ : ∃ vs : List Int, vs = [1, 2, 3, 4] ++ us := ⟨_, rfl⟩
      have hl3 : (upd H2 l (.lst ([.int 1, .int 2, .int 3, .int 4] ++ us.map V.int))) l = some (.lst (vs.map V.int)) := by rw [upd_same, hvs, List.map_append] <;> rfl
      have hv3 : ∀ x ∈ vs, 1 ≤ x ∧ x ≤ 40 := by
        intro x hx'
        rw [hvs] at hx'
        rcases List.mem_append.mp hx' with h3 | h3
        · simp only [List.mem_cons, List.mem_nil_iff, or_false] at h3
          omega
        · exact hx x h3
      have hvl : vs.length ≤ 100 := by rw [hvs, List.length_append]; show 4 + _ ≤ _; omega
      generalize upd H2 l (.lst ([.int 1, .int 2, .int 3, .int 4] ++ us.map V.int)) = H3 at hl3
      refine ⟨_, rfl, l, rfl, ⟨_, SqL.of hl3⟩, fun E hE => ?_⟩
      refine lc_list (K := K) (a := l) (xs := vs.map V.int) (fun i H4 => Same H3 H4 ∧ H4 E = some (.lst ((List.replicate i true).map V.bl))) ⟨same_new hE _, upd_same⟩ (fun i H4 _ h => SqL.of (h.1 _ _ hl3)) ?_ ?_
      · rintro i y H4 hi ⟨S4, hE4⟩
        obtain ⟨x, rfl, hx1⟩ := at_map hi
        have hi2 : i < vs.length := (List.getElem?_eq_some_iff.mp hx1).1
        obtain ⟨x1, x2⟩ := hv3 x (List.mem_of_getElem? hx1)
        obtain ⟨m, rfl⟩ : ∃ m : Nat, x = (m : Int) := ⟨x.toNat, by omega⟩
        refine ⟨rfl, ?_⟩
        exact ⟨_, rfl, m, rfl, by omega, by omega, fun H5 S5 => ⟨_, S5 _ _ hE4, by rw [rep_len]; exact small1000 (by omega), but_same hE (S4.trans S5) But.upd, by rw [upd_same, rep_snoc]⟩⟩
      · rintro H4 ⟨S4, hE4⟩
        refine ⟨E, _, rfl, SqL.of hE4, ?_⟩
        rw [rep_all]
        exact q _
end
structure AllD (K : PySem.W.Frag) (mg : Str → Option Value) : Prop where
  d_is_whole : Df K mg "is_whole" s_is_whole ["thing"]
  d_is_within : Df K mg "is_within" s_is_within ["thing", "least", "most"]
  d_want_within : Df K mg "want_within" s_want_within ["thing", "least", "most"]
  d_want_many : Df K mg "want_many" s_want_many ["many"]
  d_halved_from : Df K mg "halved_from" s_halved_from ["first", "many"]
  d_halved : Df K mg "halved" s_halved ["many"]
  d_chained : Df K mg "chained" s_chained ["many"]
  d__law_count : Df K mg "_law_count" s__law_count ["_law_tree"]
  d__law_is_halved : Df K mg "_law_is_halved" s__law_is_halved ["_law_tree", "_law_first"]
  d__law_right : Df K mg "_law_right" s__law_right ["_law_many"]
  d_law : Df K mg "law" s_law ["_law_script"]
  bl : Bl K mg
theorem all_mk {w : World} {K : PySem.W.Frag} {h : Heap} {mg : Str → Option Value} (X : K.In h) (G : h.Ns mainGlobals mg)
    {f1 f2 f3 f4 f5 f6 f7 f8 f9 f10 f11 : Addr} {od1 an1 od2 an2 od3 an3 od4 an4 od5 an5 od6 an6 od7 an7 od8 an8 od9 an9 od10 an10 od11 an11 : Option Addr} {sl1 sl2 sl3 sl4 sl5 sl6 sl7 sl8 sl9 sl10 sl11 : Array (Option Value)} {oc1 kV1 dc1 pm1 cd1 ct1 oc2 kV2 dc2 pm2 cd2 ct2 oc3 kV3 dc3 pm3 cd3 ct3 oc4 kV4 dc4 pm4 cd4 ct4 oc5 kV5 dc5 pm5 cd5 ct5 oc6 kV6 dc6 pm6 cd6 ct6 oc7 kV7 dc7 pm7 cd7 ct7 oc8 kV8 dc8 pm8 cd8 ct8 oc9 kV9 dc9 pm9 cd9 ct9 oc10 kV10 dc10 pm10 cd10 ct10 oc11 kV11 dc11 pm11 cd11 ct11 : Value}
    (a1 : PySem.W.nsIn K mainGlobals "is_whole" = some (some (.ref f1))) (l1 : K.lookup f1 = some ⟨oc1, od1, .func (PySem.W.fnOf "is_whole" "is_whole" (defArgs s_is_whole) (defBody s_is_whole) (defScope s_is_whole) .none kV1 dc1 pm1 an1 cd1 ct1), sl1⟩) (c1 : PySem.W.codeIn K cd1 "is_whole" = true) (k1 : PySem.W.keepIn K (.ref f1) = true)
    (a2 : PySem.W.nsIn K mainGlobals "is_within" = some (some (.ref f2))) (l2 : K.lookup f2 = some ⟨oc2, od2, .func (PySem.W.fnOf "is_within" "is_within" (defArgs s_is_within) (defBody s_is_within) (defScope s_is_within) .none kV2 dc2 pm2 an2 cd2 ct2), sl2⟩) (c2 : PySem.W.codeIn K cd2 "is_within" = true) (k2 : PySem.W.keepIn K (.ref f2) = true)
    (a3 : PySem.W.nsIn K mainGlobals "want_within" = some (some (.ref f3))) (l3 : K.lookup f3 = some ⟨oc3, od3, .func (PySem.W.fnOf "want_within" "want_within" (defArgs s_want_within) (defBody s_want_within) (defScope s_want_within) .none kV3 dc3 pm3 an3 cd3 ct3), sl3⟩) (c3 : PySem.W.codeIn K cd3 "want_within" = true) (k3 : PySem.W.keepIn K (.ref f3) = true)
    (a4 : PySem.W.nsIn K mainGlobals "want_many" = some (some (.ref f4))) (l4 : K.lookup f4 = some ⟨oc4, od4, .func (PySem.W.fnOf "want_many" "want_many" (defArgs s_want_many) (defBody s_want_many) (defScope s_want_many) .none kV4 dc4 pm4 an4 cd4 ct4), sl4⟩) (c4 : PySem.W.codeIn K cd4 "want_many" = true) (k4 : PySem.W.keepIn K (.ref f4) = true)
    (a5 : PySem.W.nsIn K mainGlobals "halved_from" = some (some (.ref f5))) (l5 : K.lookup f5 = some ⟨oc5, od5, .func (PySem.W.fnOf "halved_from" "halved_from" (defArgs s_halved_from) (defBody s_halved_from) (defScope s_halved_from) .none kV5 dc5 pm5 an5 cd5 ct5), sl5⟩) (c5 : PySem.W.codeIn K cd5 "halved_from" = true) (k5 : PySem.W.keepIn K (.ref f5) = true)
    (a6 : PySem.W.nsIn K mainGlobals "halved" = some (some (.ref f6))) (l6 : K.lookup f6 = some ⟨oc6, od6, .func (PySem.W.fnOf "halved" "halved" (defArgs s_halved) (defBody s_halved) (defScope s_halved) .none kV6 dc6 pm6 an6 cd6 ct6), sl6⟩) (c6 : PySem.W.codeIn K cd6 "halved" = true) (k6 : PySem.W.keepIn K (.ref f6) = true)
    (a7 : PySem.W.nsIn K mainGlobals "chained" = some (some (.ref f7))) (l7 : K.lookup f7 = some ⟨oc7, od7, .func (PySem.W.fnOf "chained" "chained" (defArgs s_chained) (defBody s_chained) (defScope s_chained) .none kV7 dc7 pm7 an7 cd7 ct7), sl7⟩) (c7 : PySem.W.codeIn K cd7 "chained" = true) (k7 : PySem.W.keepIn K (.ref f7) = true)
    (a8 : PySem.W.nsIn K mainGlobals "_law_count" = some (some (.ref f8))) (l8 : K.lookup f8 = some ⟨oc8, od8, .func (PySem.W.fnOf "_law_count" "_law_count" (defArgs s__law_count) (defBody s__law_count) (defScope s__law_count) .none kV8 dc8 pm8 an8 cd8 ct8), sl8⟩) (c8 : PySem.W.codeIn K cd8 "_law_count" = true) (k8 : PySem.W.keepIn K (.ref f8) = true)
    (a9 : PySem.W.nsIn K mainGlobals "_law_is_halved" = some (some (.ref f9))) (l9 : K.lookup f9 = some ⟨oc9, od9, .func (PySem.W.fnOf "_law_is_halved" "_law_is_halved" (defArgs s__law_is_halved) (defBody s__law_is_halved) (defScope s__law_is_halved) .none kV9 dc9 pm9 an9 cd9 ct9), sl9⟩) (c9 : PySem.W.codeIn K cd9 "_law_is_halved" = true) (k9 : PySem.W.keepIn K (.ref f9) = true)
    (a10 : PySem.W.nsIn K mainGlobals "_law_right" = some (some (.ref f10))) (l10 : K.lookup f10 = some ⟨oc10, od10, .func (PySem.W.fnOf "_law_right" "_law_right" (defArgs s__law_right) (defBody s__law_right) (defScope s__law_right) .none kV10 dc10 pm10 an10 cd10 ct10), sl10⟩) (c10 : PySem.W.codeIn K cd10 "_law_right" = true) (k10 : PySem.W.keepIn K (.ref f10) = true)
    (a11 : PySem.W.nsIn K mainGlobals "law" = some (some (.ref f11))) (l11 : K.lookup f11 = some ⟨oc11, od11, .func (PySem.W.fnOf "law" "law" (defArgs s_law) (defBody s_law) (defScope s_law) .none kV11 dc11 pm11 an11 cd11 ct11), sl11⟩) (c11 : PySem.W.codeIn K cd11 "law" = true) (k11 : PySem.W.keepIn K (.ref f11) = true)
    (z0 : PySem.W.nsIn K mainGlobals "all" = some none)
    (z1 : PySem.W.nsIn K mainGlobals "bool" = some none)
    (z2 : PySem.W.nsIn K mainGlobals "int" = some none)
    (z3 : PySem.W.nsIn K mainGlobals "isinstance" = some none)
    (z4 : PySem.W.nsIn K mainGlobals "len" = some none)
    (z5 : PySem.W.nsIn K mainGlobals "range" = some none)
    (z6 : PySem.W.nsIn K mainGlobals "repr" = some none)
    (z7 : PySem.W.nsIn K mainGlobals "tuple" = some none)
    {tc0 : Tok} (cst0 : PySem.W.nsIn K mainGlobals "MOST_DEEDS" = some (some (.int 40 tc0)))
    : AllD K mg := by
  exact ⟨Df.of l1 c1 k1 (PySem.W.mg_of X G a1) (fun _ _ _ _ _ _ us hl => match us, hl with | [_], _ => rfl), Df.of l2 c2 k2 (PySem.W.mg_of X G a2) (fun _ _ _ _ _ _ us hl => match us, hl with | [_, _, _], _ => rfl), Df.of l3 c3 k3 (PySem.W.mg_of X G a3) (fun _ _ _ _ _ _ us hl => match us, hl with | [_, _, _], _ => rfl), Df.of l4 c4 k4 (PySem.W.mg_of X G a4) (fun _ _ _ _ _ _ us hl => match us, hl with | [_], _ => rfl), Df.of l5 c5 k5 (PySem.W.mg_of X G a5) (fun _ _ _ _ _ _ us hl => match us, hl with | [_, _], _ => rfl), Df.of l6 c6 k6 (PySem.W.mg_of X G a6) (fun _ _ _ _ _ _ us hl => match us, hl with | [_], _ => rfl), Df.of l7 c7 k7 (PySem.W.mg_of X G a7) (fun _ _ _ _ _ _ us hl => match us, hl with | [_], _ => rfl), Df.of l8 c8 k8 (PySem.W.mg_of X G a8) (fun _ _ _ _ _ _ us hl => match us, hl with | [_], _ => rfl), Df.of l9 c9 k9 (PySem.W.mg_of X G a9) (fun _ _ _ _ _ _ us hl => match us, hl with | [_, _], _ => rfl), Df.of l10 c10 k10 (PySem.W.mg_of X G a10) (fun _ _ _ _ _ _ us hl => match us, hl with | [_], _ => rfl), Df.of l11 c11 k11 (PySem.W.mg_of X G a11) (fun _ _ _ _ _ _ us hl => match us, hl with | [_], _ => rfl), ⟨PySem.W.mg_none_of X G z0, PySem.W.mg_none_of X G z1, PySem.W.mg_none_of X G z2, PySem.W.mg_none_of X G z3, PySem.W.mg_none_of X G z4, PySem.W.mg_none_of X G z5, PySem.W.mg_none_of X G z6, PySem.W.mg_none_of X G z7, ⟨_, PySem.W.mg_of X G cst0⟩⟩⟩

theorem law_fd {P : Program} {w : World} {K : PySem.W.Frag} {mg : Str → Option Value} {fa : Addr} (A : AllD K mg) (hfa : mg "law" = some (.ref fa)) :
    ∃ fd : FuncData, (∀ (s : Shared) (v : Value), BindsTo s fd ⟨[v], []⟩ [("_law_script", v)]) ∧ ∀ base : Heap, K.In base → base.Ns mainGlobals mg → FnG P w K mg base CX0 91 fa fd ["_law_script"] (spLaw K) := by
  obtain ⟨f, fd, F, m, b⟩ := A.d_law.ex
  have e := hfa.symm.trans m
  cases e
  refine ⟨fd, fun s v => by obtain ⟨oc, od, kV, doc, pm, an, cdv, ct, osl, rfl, lk, hcd⟩ := F.ex; exact .of_eq rfl, fun base _ _ => ?_⟩
  have B := A.bl
  have D_is_whole : Dn P w K mg base 1 "is_whole" ["thing"] spIsWhole := k_is_whole B A.d_is_whole 
  have D_is_within : Dn P w K mg base 2 "is_within" ["thing", "least", "most"] spIsWithin := k_is_within B A.d_is_within D_is_whole
  have D_want_within : Dn P w K mg base 3 "want_within" ["thing", "least", "most"] spWantWithin := k_want_within B A.d_want_within D_is_within
  have D_want_many : Dn P w K mg base 4 "want_many" ["many"] spWantMany := k_want_many B A.d_want_many D_want_within
  have D_halved_from : Dn P w K mg base 41 "halved_from" ["first", "many"] (spHf 40) := k_halved_from B A.d_halved_from 
  have D_halved : Dn P w K mg base 42 "halved" ["many"] spHalved := k_halved B A.d_halved D_want_many D_halved_from
  have D_chained : Dn P w K mg base 5 "chained" ["many"] spChained := k_chained B A.d_chained D_want_many
  have D__law_count : Dn P w K mg base 41 "_law_count" ["_law_tree"] ((spCount K) 40) := k__law_count B A.d__law_count 
  have D__law_is_halved : Dn P w K mg base 81 "_law_is_halved" ["_law_tree", "_law_first"] ((spIsHalved K) 40) := k__law_is_halved B A.d__law_is_halved D__law_count
  have D__law_right : Dn P w K mg base 90 "_law_right" ["_law_many"] spRight := k__law_right B A.d__law_right D_halved D_chained D__law_count D__law_is_halved
  exact k_law B F D__law_right

theorem walk {l : PySem.W.OpenLaw} {q : Program} {loose : List Str} {XP : (Str → Option Value) → Heap → Prop} {YP : World → Heap → Prop} {d : DefRec} {K : Params → PySem.W.Frag} (hn : l.most = some 63) (hdf : d.params.defaults = [])
    (hY : ∀ (w : World) (h : Heap), YP w h → (K w.params).In h) (hname : d.name = "law") (F : ∀ (w : World) (mg : Str → Option Value) (h : Heap), (K w.params).In h → h.Ns mainGlobals mg → AllD (K w.params) mg) :
    PySem.W.WalkO q loose XP YP l.row.toRowW d [] (fun f vs => PySem.call f vs) :=
  walk_G (n := 63) (k := 91) (x := "_law_script") (sp := spLaw) hn (by decide) hdf ⟨rfl, by decide, by decide⟩ hY
    (fun w mg fa h KX G hfa => law_fd (F w mg h KX G) (by rw [hname] at hfa; exact hfa)) fun _ _ a ns hl hS => ⟨a, ns, rfl, hS, hl, fun _ => rfl⟩
end Toy
open PySem PySem.W PyProof.Rows
set_option maxRecDepth 100000 in
set_option maxHeartbeats 0 in
theorem PySem.Challenge.cw_joinedasks_k27_halved_and_chained_holds : PySem.Challenge.rw_joinedasks_k27_halved_and_chained.Holds := by
  w_on; o_law; k_head; (case hw => w_witness2)
  k_fill
  refine Toy.walk (l := PySem.Challenge.rw_joinedasks_k27_halved_and_chained) rfl rfl (fun w h Y => PySem.W.kIn_of Y) rfl ?F
  case F =>
    intro w mg h KX G
    refine' Toy.all_mk (w := w) KX G ?a1 ?l1 ?c1 ?k1 ?a2 ?l2 ?c2 ?k2 ?a3 ?l3 ?c3 ?k3 ?a4 ?l4 ?c4 ?k4 ?a5 ?l5 ?c5 ?k5 ?a6 ?l6 ?c6 ?k6 ?a7 ?l7 ?c7 ?k7 ?a8 ?l8 ?c8 ?k8 ?a9 ?l9 ?c9 ?k9 ?a10 ?l10 ?c10 ?k10 ?a11 ?l11 ?c11 ?k11 ?z0 ?z1 ?z2 ?z3 ?z4 ?z5 ?z6 ?z7 ?cst0
    (case a1 => k_is)
    (case l1 => k_is)
    (case c1 => k_is)
    (case k1 => k_is)
    (case a2 => k_is)
    (case l2 => k_is)
    (case c2 => k_is)
    (case k2 => k_is)
    (case a3 => k_is)
    (case l3 => k_is)
    (case c3 => k_is)
    (case k3 => k_is)
    (case a4 => k_is)
    (case l4 => k_is)
    (case c4 => k_is)
    (case k4 => k_is)
    (case a5 => k_is)
    (case l5 => k_is)
    (case c5 => k_is)
    (case k5 => k_is)
    (case a6 => k_is)
    (case l6 => k_is)
    (case c6 => k_is)
    (case k6 => k_is)
    (case a7 => k_is)
    (case l7 => k_is)
    (case c7 => k_is)
    (case k7 => k_is)
    (case a8 => k_is)
    (case l8 => k_is)
    (case c8 => k_is)
    (case k8 => k_is)
    (case a9 => k_is)
    (case l9 => k_is)
    (case c9 => k_is)
    (case k9 => k_is)
    (case a10 => k_is)
    (case l10 => k_is)
    (case c10 => k_is)
    (case k10 => k_is)
    (case a11 => k_is)
    (case l11 => k_is)
    (case c11 => k_is)
    (case k11 => k_is)
    (case z0 => k_is)
    (case z1 => k_is)
    (case z2 => k_is)
    (case z3 => k_is)
    (case z4 => k_is)
    (case z5 => k_is)
    (case z6 => k_is)
    (case z7 => k_is)
    (case cst0 => k_is)
#print axioms PySem.Challenge.cw_joinedasks_k27_halved_and_chained_holds

