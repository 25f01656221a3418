import PyProof.Rows.All
import Wide.All
import OpenK.AllK
import Wide.FinOn
import HandS.ForMost
import HandS.WideBits
import HandS.Conv
import HandS.IsInst
import HandS.RaiseMore
import HandS.SortInts
import HandS.Style
import HandS.Codes
import HandS.ForExc
import HandS.TryMany
import HandS.Flow
import KE.KEqSeq
import PyProof.ReprRoads
import PySem.Challenge.RW_joinedasks_k16_whole_stays_and_leads
set_option Elab.async false
set_option linter.all false
set_option maxRecDepth 100000
set_option maxHeartbeats 4000000
set_option exponentiation.threshold 100000
namespace Toy
open PySem PySem.Spec PyProof.Rows L2
/-- a def of the text stands behind its name -/
structure Df (K : PySem.W.Frag) (mg : Str → Option Value) (x : Str) (st : Stmt) (ps : List Str) : Prop where
  ex : ∃ f fd, Fun K x x st f fd ∧ mg x = some (.ref f) ∧ Binds K fd ps []
theorem Df.of {K : PySem.W.Frag} {mg : Str → Option Value} {x : Str} {st : Stmt} {ps : List Str} {f : Addr} {oc : Value} {od an : Option Addr} {osl : Array (Option Value)} {kV doc pm cdv ct : Value}
    (l : K.lookup f = some ⟨oc, od, .func (PySem.W.fnOf x x (defArgs st) (defBody st) (defScope st) .none kV doc pm an cdv ct), osl⟩) (c : PySem.W.codeIn K cdv x = true) (k : PySem.W.keepIn K (.ref f) = true) (m : mg x = some (.ref f))
    (h : ∀ (kV doc pm : Value) (an : Option Addr) (cdv ct : Value) (us : List Value), us.length = ps.length → bindArgs (PySem.W.fnOf x x (defArgs st) (defBody st) (defScope st) .none kV doc pm an cdv ct) ⟨us, []⟩ = pure (ps.zip us)) : Df K mg x st ps :=
  ⟨_, _, fun_mk l c k, m, (fun_mk l c k).binds h⟩
end Toy
namespace Toy
open PySem PySem.Spec PyProof.Rows L2
/-- room for calls, and nothing is being shown (repr, str of containers ask that) -/
structure RoomG (k : Nat) (A : Around) : Prop where
  room : Room k A
  idle : A.guards = some []
theorem RoomG.less {j k : Nat} {A : Around} (r : RoomG k A) (h : j ≤ k) : RoomG j A := ⟨r.room.mono h, r.idle⟩
theorem RoomG.units {k : Nat} {A : Around} (r : RoomG k A) : A.units + 64 < cLine := r.room.units
theorem RoomG.in_ {k : Nat} {A : Around} (r : RoomG (k + 1) A) (env : Env) : RoomG k (A.deeper env) := ⟨r.room.deeper env, r.idle⟩
/-- a def's promise under such a call -/
structure FnG (P : Program) (w : World) (K : PySem.W.Frag) (mg : Str → Option Value) (base : Heap) (CX : CXT) (k : Nat) (f : Addr) (fd : FuncData) (ps : List Str) (sp : Sp) : Prop where
  arity : ∀ vs H Q E, sp vs H Q E → vs.length = ps.length
  go : ∀ {A : Around} {outer : List Env} {s : Shared} {H : Hp} {args : Args} {us : List Value} {vs : List V} {Q : VK} {E : XK}, RoomG k A → Env0 P w K mg base A outer s H →
    BindsTo s fd args (ps.zip us) → Vals vs us → sp vs H Q E → codeAny (model P w) A (.call (.ref f) args) (CR CX outer P w H s Q E) s
section
variable {P : Program} {w : World} {K : PySem.W.Frag} {mg : Str → Option Value} {base : Heap} {CX : CXT}
/-- a body that ends well ends the call well -/
theorem flow_end {N : List Str} {qual : Str} {scope : Scope} {f : Addr} {cd : Value} {A : Around} {outer : List Env} {s : Shared} {H : Hp} {Q : VK} {E : XK} {fl : Flow} {s' : Shared}
    (h : SP (cxOf CX P w K mg base N qual scope f cd A outer s H E) [] { nx := fun _ H' => Q .non H', rt := Q } fl s') :
    ∃ u, (fl = .next ∧ u = Value.none ∨ fl = .ret u) ∧ CE outer P w H s Q u s' := by
  cases fl with
  | next =>
    obtain ⟨σ, H1, J, q⟩ := h
    exact ⟨_, .inl ⟨rfl, rfl⟩, .non, H1, J.os, J.bare, J.base, J.hok, rfl, q⟩
  | ret u =>
    obtain ⟨v, σ, H1, J, r, q⟩ := h
    exact ⟨u, .inr rfl, v, H1, J.os, J.bare, J.base, J.hok, r, q⟩
  | brk =>
    obtain ⟨_, _, _, q⟩ := h
    cases q
  | cont =>
    obtain ⟨_, _, _, q⟩ := h
    cases q
theorem okG {x qual : Str} {st : Stmt} {f : Addr} {fd : FuncData} {N ps : List Str} {k : Nat} {sp : Sp} (F : Fun K x qual st f fd) (S : FnScope N ps (defScope st)) (ar : ∀ vs H Q E, sp vs H Q E → vs.length = ps.length)
    (body : ∀ (cdv : Value) (A : Around) (outer : List Env) (s : Shared) (H : Hp) (vs : List V) (Q : VK) (E : XK), RoomG k (A.deeper (envOfC qual (defScope st) s.heap.objs.size f cdv)) → sp vs H Q E →
      ∃ t, PSs (cxOf CX P w K mg base N qual (defScope st) f cdv A outer s H E) (defBody st) t ∧ t { nx := fun _ H' => Q .non H', rt := Q } (start N vs) H) : FnG P w K mg base CX (k + 1) f fd ps sp := by
  obtain ⟨oc, od, kV, doc, pm, an, cdv, ct, osl, rfl, lk, hcd⟩ := F.ex
  refine ⟨ar, ?_⟩
  intro A outer s H args us vs Q E room e0 hb rv hsp
  have kin : K.In s.heap := e0.mod.kin.keeps fun b o z => (e0.bs b o z).1
  have nolim : s.heap.NoLimit := e0.mod.nolimit.keeps fun b o z => (e0.bs b o z).1
  have kinds : ∀ y ∈ ps.zip us, (defScope st).names.lookup y.1 = some .local ∨ ((defScope st).names.lookup y.1 = some .cell ∧ ((cellsFrom (s.heap.objs.size + 1) (defScope st).names []).lookup y.1).isSome = true) := by
    rintro ⟨n, v⟩ hy
    exact (S.par n (List.of_mem_zip hy).1).imp _root_.id fun q => ⟨q, PySem.W.cellsFrom_some _ _ _ (.inl q)⟩
  refine codeAny_call_function room.room.depth (kin _ _ lk) rfl S.co S.gen rfl (PySem.W.codeRec_of kin hcd) (hb _ _ _ _ (wpAny_newFunctionEnv_cells S.kind kinds fun env he s1 inC => ?_))
  subst he
  obtain ⟨t, ht, hq⟩ := body cdv A outer s H vs Q E (room.in_ _) hsp
  refine ⟨nolim.keeps inC.toInCall.keep, codeAny_func (wpAny_mono (ht.run [] s1 (start N vs) H _ (inv_start S room.room.hd e0 (ar _ _ _ _ hsp) rv inC) hq) (fun fl s' z => ?_) fun e s' z => z)⟩
  obtain ⟨u, c, q⟩ := flow_end z
  rcases c with ⟨rfl, rfl⟩ | rfl
  · exact q
  · exact q
theorem okG0 {x qual : Str} {st : Stmt} {f : Addr} {fd : FuncData} {N ps : List Str} {k : Nat} {sp : Sp} (F : Fun K x qual st f fd) (S : FnScope N ps (defScope st)) (ar : ∀ vs H Q E, sp vs H Q E → vs.length = ps.length)
    (body : ∀ (cdv : Value) (A : Around) (outer : List Env) (s : Shared) (H : Hp) (vs : List V) (Q : VK) (E : XK), RoomG k (A.deeper (envOfC qual (defScope st) s.heap.objs.size f cdv)) → sp vs H Q E →
      ∃ t, PSs (cxOf CX0 P w K mg base N qual (defScope st) f cdv A outer s H E).nox (defBody st) t ∧ t { nx := fun _ H' => Q .non H', rt := Q } (start N vs) H) : FnG P w K mg base CX0 (k + 1) f fd ps sp :=
  okG F S ar fun cdv A outer s H vs Q E hr hsp => (body cdv A outer s H vs Q E hr hsp).imp fun _ z => ⟨z.1.nox, z.2⟩
end
section
variable {X : Cx} {CX : CXT} {k : Nat} {f : Addr} {fd : FuncData} {ps : List Str} {sp : Sp}
theorem run_G {pins : List (Addr × Obj)} {σ : L2.St} {H : Hp} {s : Shared} {Q : VK} {E : XK} {us : List Value} {vs : List V} (F : FnG X.prog X.w X.K X.mg X.base CX k f fd ps sp) (hr : RoomG k X.A) (hb : Binds X.K fd ps [])
    (out : ∀ e s', CX X.stack H s E e s' → X.xe e s') (I : Inv X pins σ H s) (r : Vals vs us) (h : sp vs H Q E) : wpAny (model X.prog X.w) X.A (call (.ref f) us) (EP X pins σ Q) X.xe s := by
  have n := (r.length).symm.trans (F.arity _ _ _ _ h)
  have b := hb s us I.kIn (by rw [List.append_nil, n])
  rw [List.append_nil] at b
  refine wpAny_call (codeAny_mono (F.go hr I.env0 b r h) ?_)
  rintro (e | fl) s' q
  · exact out e s' q
  · match fl, q with
    | .ret u, q => exact I.after q
/-- a def and its promise, by its name -/
structure Dn (P : Program) (w : World) (K : PySem.W.Frag) (mg : Str → Option Value) (base : Heap) (k : Nat) (x : Str) (ps : List Str) (sp : Sp) : Prop where
  ex : ∃ f fd, FnG P w K mg base CX0 k f fd ps sp ∧ PySem.W.keepIn K (.ref f) = true ∧ mg x = some (.ref f) ∧ Binds K fd ps []
/-- .. that may raise -/
structure Dx (P : Program) (w : World) (K : PySem.W.Frag) (mg : Str → Option Value) (base : Heap) (k : Nat) (x : Str) (ps : List Str) (sp : Sp) : Prop where
  ex : ∃ f fd, FnG P w K mg base (L2.CX P w) k f fd ps sp ∧ PySem.W.keepIn K (.ref f) = true ∧ mg x = some (.ref f) ∧ Binds K fd ps []
theorem Df.ok {P : Program} {w : World} {K : PySem.W.Frag} {mg : Str → Option Value} {base : Heap} {x : Str} {st : Stmt} (D : Df K mg x st ps)
    (h : ∀ f fd, Fun K x x st f fd → FnG P w K mg base CX0 k f fd ps sp) : Dn P w K mg base k x ps sp := by
  obtain ⟨f, fd, F, m, b⟩ := D.ex
  exact ⟨f, fd, h f fd F, F.kp, m, b⟩
theorem Df.okX {P : Program} {w : World} {K : PySem.W.Frag} {mg : Str → Option Value} {base : Heap} {x : Str} {st : Stmt} (D : Df K mg x st ps)
    (h : ∀ f fd, Fun K x x st f fd → FnG P w K mg base (L2.CX P w) k f fd ps sp) : Dx P w K mg base k x ps sp := by
  obtain ⟨f, fd, F, m, b⟩ := D.ex
  exact ⟨f, fd, h f fd F, F.kp, m, b⟩
variable {x : Str} {p pos : Pos} {e : Expr} {es : List Expr} {t : TA}
theorem pe_cD (D : Dn X.prog X.w X.K X.mg X.base k x ps sp) (hr : RoomG k X.A) (hg : Gl X x) (ha : PA X (e :: es) t) (hdb : (x == ("__debug__" : Str)) = false := by decide)
    (he : starEach (e :: es) X.env = (false, eval e X.env) :: starEach es X.env := by rfl) (hpl : (backTo pos (starEach es X.env)).any (·.1) = false := by rfl) : PE X (.Call (.Name x p) (e :: es) [] pos) (tCall sp [] E0 t) := by
  obtain ⟨f, fd, F, hk, hm, hb⟩ := D.ex
  refine ⟨fun pins s σ H Q I h => wpAny_Call_Name_kw (ld_glob I hg hm (PySem.W.callWith_K (h₀ := X.base) I.ok.mod.kin hk (thn (ha.run pos pins s σ H _ I h) fun us s1 ⟨vs, H1, I1, r, q⟩ => ⟨I1.kIn, ?_⟩) he hpl) hdb)⟩
  have q' : sp vs H1 Q E0 := by
    have z : sp (vs ++ []) H1 Q E0 := q
    rw [List.append_nil] at z
    exact z
  exact run_G F hr hb (fun _ _ z => z.elim) I1 r q'
theorem pe_cD0 (D : Dn X.prog X.w X.K X.mg X.base k x ps sp) (hr : RoomG k X.A) (hg : Gl X x) (hdb : (x == ("__debug__" : Str)) = false := by decide) : PE X (.Call (.Name x p) [] [] pos) (tCall sp [] E0 tNil) := by
  obtain ⟨f, fd, F, hk, hm, hb⟩ := D.ex
  refine ⟨fun pins s σ H Q I h => wpAny_Call_Name_kw (ld_glob I hg hm (PySem.W.callWith_K0 I.kIn hk (run_G (us := []) F hr hb (fun _ _ z => z.elim) I .nil h)) hdb)⟩
/-- a call within a try: what is raised is wished at the slots -/
theorem pe_cX {E : L2.St → XK} (D : Dx X.prog X.w X.K X.mg X.base k x ps sp) (hr : RoomG k X.A) (hg : Gl X x) (hx : ∀ σ, PassesAt (L2.CX X.prog X.w) X σ (E σ)) (ha : PA X (e :: es) t) (hdb : (x == ("__debug__" : Str)) = false := by decide)
    (he : starEach (e :: es) X.env = (false, eval e X.env) :: starEach es X.env := by rfl) (hpl : (backTo pos (starEach es X.env)).any (·.1) = false := by rfl) : PE X (.Call (.Name x p) (e :: es) [] pos) (tCallS sp E t) := by
  obtain ⟨f, fd, F, hk, hm, hb⟩ := D.ex
  exact ⟨fun pins s σ H Q I h => wpAny_Call_Name_kw (ld_glob I hg hm (PySem.W.callWith_K (h₀ := X.base) I.ok.mod.kin hk (thn (ha.run pos pins s σ H _ I h) fun us s1 ⟨vs, H1, I1, r, q⟩ =>
    ⟨I1.kIn, run_G F hr hb (fun e s' z => hx σ pins H1 s1 e s' I1 z) I1 r q⟩) he hpl) hdb)⟩
/-- repr of what is data -/
def rRepr (K : PySem.W.Frag) : List V → Hp → VK → Prop := fun xs H Q => ∃ (x : V) (d : PyData), xs = [x] ∧ Dp K H x d ∧ d.showable = true ∧ d.depth ≤ 60 ∧ d.shown.length ≤ sizeLine ∧ Q (.str d.shown) H
mutual
theorem dp_noDict {K : PySem.W.Frag} {H : Hp} : ∀ (d : PyData) (x : V), Dp K H x d → d.hasDict = false
  | .none, _, _ => rfl
  | .bool _, _, _ => rfl
  | .int _, _, _ => rfl
  | .str _, _, _ => rfl
  | .list ds, _, h => by
    cases h with
    | lst _ ha => simpa [PyData.hasDict] using dp_noDicts ds _ ha
  | .tuple ds, _, h => by
    cases h with
    | tup _ ha => simpa [PyData.hasDict] using dp_noDicts ds _ ha
  | .dict _, _, h => by cases h
theorem dp_noDicts {K : PySem.W.Frag} {H : Hp} : ∀ (ds : List PyData) (xs : List V), DpAll K H xs ds → PyData.hasDictAll ds = false
  | [], _, _ => by simp [PyData.hasDictAll]
  | d :: ds, _, h => by
    cases h with
    | cons a b => simp [PyData.hasDictAll, dp_noDict d _ a, dp_noDicts ds _ b]
end
theorem reprK {K : PySem.W.Frag} (hr : RoomG k X.A) (eK : X.K = K := by rfl) : CallR X (.builtin "repr") (rRepr K) := by
  cases eK
  intro pins s σ H xs us Q I r h
  obtain ⟨x, d, rfl, hd, hs, hdep, hz, q⟩ := h
  obtain ⟨u, rfl, rx⟩ := vals1 r
  obtain ⟨as, rd⟩ := Dp.reads I d x u hd rx
  have hu := hr.units
  have nd := dp_noDict d x hd
  cases hd with
  | non => cases rx; exact PySem.P.repr_of_none ⟨.str _, H, I.tok _, ⟨_, rfl⟩, q⟩
  | bl b => cases rx; exact PySem.P.repr_of_bool ⟨.str _, H, I.tok _, ⟨_, rfl⟩, q⟩
  | int i => obtain ⟨t, rfl⟩ := rx; exact PySem.P.repr_of_int (of_decide_eq_true (by simpa [PyData.showable] using hs)) ⟨.str _, H, I.tok _, ⟨_, rfl⟩, q⟩
  | str z => obtain ⟨t, rfl⟩ := rx; exact PySem.P.repr_of_str ⟨.str _, H, I.tok _, ⟨_, rfl⟩, q⟩ hz
  | lst hq ha =>
    cases rx
    refine repr_of_reads' rd hs (PyData.noDict_hsm nd) hr.idle (by omega) (fun _ _ z => z) (fun h' u tk hk => ⟨.str _, H, I.kept hk, ⟨_, rfl⟩, q⟩) hz
  | tup hq ha =>
    cases rx
    refine repr_of_reads' rd hs (PyData.noDict_hsm nd) hr.idle (by omega) (fun _ _ z => z) (fun h' u tk hk => ⟨.str _, H, I.kept hk, ⟨_, rfl⟩, q⟩) hz
end
end Toy
namespace Toy
open PySem PySem.Spec PyProof.Rows L2
/-- what was tracked stays, but for one object -/
def But (p : Addr) (H H' : Hp) : Prop := ∀ b o, b ≠ p → H b = some o → H' b = some o
theorem But.refl {p : Addr} {H : Hp} : But p H H := fun _ _ _ h => h
theorem But.trans {p : Addr} {H H1 H2 : Hp} (a : But p H H1) (b : But p H1 H2) : But p H H2 := fun c o n h => b c o n (a c o n h)
theorem But.free {p : Addr} {H H' : Hp} (e : But p H H') {l : Addr} (n : l ≠ p) (h : H' l = Option.none) : H l = Option.none := by
  cases q : H l with
  | none => rfl
  | some o =>
    rw [e l o n q] at h
    cases h
theorem same_but {p : Addr} {H H' : Hp} (a : Same H H') : But p H H' := fun c o _ h => a c o h
theorem But.upd {p : Addr} {H : Hp} {o : HO} : But p H (upd H p o) := fun b u n h => by rw [upd_ne n]; exact h
theorem same_new {H : Hp} {p : Addr} (h : H p = none) (o : HO) : Same H (upd H p o) := fun b u q => by rw [upd_ne (ne_of_none q h)]; exact q
theorem but_tup {p : Addr} {K : PySem.W.Frag} {H H' : Hp} {a : Addr} {xs ys : List V} (e : But p H H') (hp : H p = some (.lst ys)) (h : SqT K H a xs) : SqT K H' a xs := by
  rcases h with (h | ⟨o, h⟩) | h
  · exact .inl (.inl (e _ _ (ne_of h hp (by intro z; cases z)) h))
  · exact .inl (.inr ⟨o, e _ _ (ne_of h hp (by intro z; cases z)) h⟩)
  · exact .inr h
theorem same_tup {K : PySem.W.Frag} {H H' : Hp} {a : Addr} {xs : List V} (e : Same H H') (h : SqT K H a xs) : SqT K H' a xs := by
  rcases h with (h | ⟨o, h⟩) | h
  · exact .inl (.inl (e _ _ h))
  · exact .inl (.inr ⟨o, e _ _ h⟩)
  · exact .inr h
/-- the script stays -/
theorem but_seq {p : Addr} {K : PySem.W.Frag} {H H' : Hp} {a : Addr} {xs : List V} (e : But p H H') (n : a ≠ p) (h : SqL K H a xs) : SqL K H' a xs := by
  rcases h with (h | ⟨o, h⟩) | h
  · exact .inl (.inl (e _ _ n h))
  · exact .inl (.inr ⟨o, e _ _ n h⟩)
  · exact .inr h
theorem small {n : Nat} (h : n ≤ 1000) : n ≤ sizeLine := Nat.le_of_lt (small1000 h)
theorem log_lt {i : Int} {n : Nat} (h0 : 0 < n) (h : i.natAbs < 2 ^ n) : i.natAbs.log2 < n := PySem.Flt.log2_lt_of h0 h
theorem divp_small {i j : Int} (hj : 0 < j) (h : j < 2 ^ 8000) : CDivP i j := by
  refine ⟨hj, PyProof.noPylong_of_log2 ?_⟩
  exact Nat.lt_trans (log_lt (n := 8000) (by decide) (by omega)) (by decide)
end Toy
namespace Toy
open PySem PySem.Spec PyProof.Rows L2
theorem ifT {c : Bool} {A B : Prop} (hc : c = true) (h : A) : if c = true then A else B := by rw [if_pos hc]; exact h
theorem ifF {c : Bool} {A B : Prop} (hc : c = false) (h : B) : if c = true then A else B := by rw [hc]; exact iteF h
theorem pj {j : Int} (h : decide ((0 : Int) < j) = true := by decide) : 0 < j := of_decide_eq_true h
theorem sz {xs : List V} (h : Nat.ble xs.length 1000 = true := by rfl) : xs.length ≤ sizeLine := small (Nat.le_of_ble_eq_true h)
theorem but_same {p : Addr} {H H1 H2 : Hp} (n : H p = none) (a : Same H H1) (b : But p H1 H2) : Same H H2 := fun c o h => b c o (ne_of_none h n) (a c o h)
/-- two ways of a value meet -/
theorem ifE {ta tb : TE} {σ : L2.St} {H : Hp} {Q : VK} {b : Bool} (R : V → Hp → Prop) (h : ∀ v H', R v H' → Q v H') (h1 : b = true → ∀ Q' : VK, (∀ v H', R v H' → Q' v H') → ta σ H Q') (h2 : b = false → ∀ Q' : VK, (∀ v H', R v H' → Q' v H') → tb σ H Q') :
    if b = true then ta σ H Q else tb σ H Q := by
  cases b with
  | true => exact iteT (h1 rfl Q h)
  | false => exact iteF (h2 rfl Q h)
theorem mulx {i j : Int} (a b : Nat) (ha : i.natAbs < 2 ^ a) (hb : j.natAbs < 2 ^ b) (h : a + b ≤ 134217728 := by decide) : CMulX i j := mulx_ok ha hb h
end Toy
namespace Toy
open PySem PySem.Spec PyProof.Rows L2
theorem qi {Q : VK} {H : Hp} {a b : Int} (q : Q (.int a) H) (e : a = b) : Q (.int b) H := e ▸ q
end Toy
namespace Toy
open PySem PySem.Spec PyProof.Rows L2
/-- the written part by its letter -/
theorem kk {α : Sort _} {P : α → Prop} {F : PySem.W.Frag → α} {K0 K : PySem.W.Frag} (h : P (F K0)) (e : K0 = K := by rfl) : P (F K) := e ▸ h
def rLen (K : PySem.W.Frag) : List V → Hp → VK → Prop := fun xs H Q => ∃ p ys, xs = [.ref p] ∧ (SqL K H p ys ∨ SqT K H p ys) ∧ Q (.int ys.length) H
theorem lenK {X : Cx} {K : PySem.W.Frag} (e : X.K = K := by rfl) : CallR X (.builtin "len") (rLen K) := by cases e; exact call_len_seq
def rLstOf (K : PySem.W.Frag) : List V → Hp → VK → Prop := fun xs H Q => ∃ p ys, xs = [.ref p] ∧ (SqL K H p ys ∨ SqT K H p ys) ∧ ∀ l, H l = none → Q (.ref l) (upd H l (.lst ys))
theorem lstOfK {X : Cx} {K : PySem.W.Frag} (e : X.K = K := by rfl) : CallR X (.type "list") (rLstOf K) := by cases e; exact call_list_of
def rTupOf (K : PySem.W.Frag) : List V → Hp → VK → Prop := fun xs H Q => ∃ p ys, xs = [.ref p] ∧ ((SqL K H p ys ∧ ∀ l, H l = none → Q (.ref l) (upd H l (.tup ys))) ∨ (SqT K H p ys ∧ Q (.ref p) H))
theorem tupOfK {X : Cx} {K : PySem.W.Frag} (e : X.K = K := by rfl) : CallR X (.type "tuple") (rTupOf K) := by cases e; exact call_tuple_of
theorem dec_ne {α : Type} [DecidableEq α] {a b : α} (h : a = b) : (!decide (a = b)) = false := by rw [decide_eq_true h] <;> rfl
end Toy
namespace Toy
open PySem PySem.Spec PyProof.Rows L2
/-- a tuple of the written part; a tuple that never changes -/
def KTup (K : PySem.W.Frag) (a : Addr) (xs : List V) : Prop := ∃ (o : Obj) (its : Array Value) (n : Nat), K.lookup a = some o ∧ o.cls = .type "tuple" ∧ o.data = .seq its n ∧ its.size ≤ sizeLine ∧ Vals xs its.toList
def TupAt (K : PySem.W.Frag) (H : Hp) (a : Addr) (xs : List V) : Prop := H a = some (.tup xs) ∨ KTup K a xs
theorem TupAt.sq {K : PySem.W.Frag} {H : Hp} {a : Addr} {xs : List V} (h : TupAt K H a xs) : SqT K H a xs := by
  rcases h with h | h
  · exact SqT.of h
  · exact .inr h
theorem TupAt.ty {K : PySem.W.Frag} {H : Hp} {a : Addr} {xs : List V} (h : TupAt K H a xs) : TyX K H (.ref a) (.type "tuple") := by
  rcases h with h | ⟨o, its, n, h1, h2, _⟩
  · exact .base (.tup h)
  · exact .kTuple h1 h2
theorem TupAt.same {K : PySem.W.Frag} {H H' : Hp} {a : Addr} {xs : List V} (e : Same H H') (h : TupAt K H a xs) : TupAt K H' a xs := h.imp (e _ _) id
theorem TupAt.but {K : PySem.W.Frag} {H H' : Hp} {a p : Addr} {xs ys : List V} (e : But p H H') (hp : H p = some (.lst ys)) (h : TupAt K H a xs) : TupAt K H' a xs := h.imp (fun h => e _ _ (ne_of h hp (by intro z; cases z)) h) id
end Toy
namespace Toy
open PySem PySem.Spec PyProof.Rows L2
theorem ints_dp {K : PySem.W.Frag} {H : Hp} : ∀ ns : List Int, DpAll K H (ns.map V.int) (ns.map PyData.int)
  | [] => .nil
  | n :: r => .cons (.int n) (ints_dp r)
theorem ints_sh (ns : List Int) : SeqAt.shaped (.list (ns.map PyData.int)) = true := PySem.W.ke_shaped_ints ns
theorem ints_refl (ns : List Int) : PyData.eqv (.list (ns.map PyData.int)) (.list (ns.map PyData.int)) = true := SeqAt.eqv_refl _ (SeqAt.canLay_of_shaped (ints_sh ns))
theorem lst_dp {K : PySem.W.Frag} {H : Hp} {a : Addr} {ns : List Int} (h : SqL K H a (ns.map V.int)) : Dp K H (.ref a) (.list (ns.map PyData.int)) := .lst h (ints_dp ns)
theorem tupI_dp {K : PySem.W.Frag} {H : Hp} {a : Addr} {ns : List Int} (h : SqT K H a (ns.map V.int)) : Dp K H (.ref a) (.tuple (ns.map PyData.int)) := .tup h (ints_dp ns)
theorem tupI_sh (ns : List Int) : SeqAt.shaped (.tuple (ns.map PyData.int)) = true := ints_sh ns
theorem tupI_refl (ns : List Int) : PyData.eqv (.tuple (ns.map PyData.int)) (.tuple (ns.map PyData.int)) = true := SeqAt.eqv_refl _ (SeqAt.canLay_of_shaped (tupI_sh ns))
theorem cut_map (us : List Int) (lo hi : Option Int) : ∃ ws : List Int, cutV (us.map V.int) lo hi = ws.map V.int ∧ ws.length ≤ us.length ∧ ∀ x ∈ ws, x ∈ us := by
  refine ⟨(us.drop (HT.sIx (us.map V.int).length 0 lo)).take (HT.sIx (us.map V.int).length (us.map V.int).length hi - HT.sIx (us.map V.int).length 0 lo), ?_, ?_, fun x hx => List.mem_of_mem_drop (List.mem_of_mem_take hx)⟩
  · unfold cutV; rw [List.map_take, List.map_drop]
  · rw [List.length_take, List.length_drop]; omega
theorem at_map {us : List Int} {i : Nat} {y : V} (h : (us.map V.int)[i]? = some y) : ∃ x : Int, y = .int x ∧ us[i]? = some x := by
  rw [List.getElem?_map] at h
  cases e : us[i]? with
  | none => rw [e] at h; cases h
  | some x => rw [e] at h; exact ⟨x, (Option.some.inj h).symm, rfl⟩
end Toy
namespace Toy
open PySem PySem.Spec PyProof.Rows L2
/-- the heap in which the script alone stands, unless the text's own part holds it -/
def scriptH (K : PySem.W.Frag) (a : Addr) (o : Obj) (ns : List Int) : Hp := fun c => if (K.lookup a).isNone = true ∧ c = a then some (.frz o (.lst (ns.map V.int))) else none
theorem scriptH_none {K : PySem.W.Frag} {a b : Addr} {o : Obj} {ns : List Int} : scriptH K a o ns b = none ∨ (b = a ∧ K.lookup a = none ∧ scriptH K a o ns b = some (.frz o (.lst (ns.map V.int)))) := by
  unfold scriptH
  by_cases c : (K.lookup a).isNone = true ∧ b = a
  · exact .inr ⟨c.2, Option.isNone_iff_eq_none.mp c.1, if_pos c⟩
  · exact .inl (if_neg c)
theorem law_G {P : Program} {w : World} {K : PySem.W.Frag} {mg mb : Str → Option Value} {k : Nat} {fa a : Addr} {fd : FuncData} {x : Str} {sp : Sp} {s : Shared} {vs : List Value} {ns : List Int}
    (KX : K.In s.heap) (hns : s.heap.Ns mainGlobals mg) (hb : s.heap.Ns builtinsNs mb) (hbb : ∀ x : Str, x ≠ "__name__" → mb x = bootBuiltins x) (hlim : s.heap.NoLimit) (hg : s.gens = #[])
    (ha : s.heap.get? a = some { cls := .type "list", data := .seq vs.toArray }) (hi : IntsAre vs ns) (hl : ns.length ≤ sizeLine) (hr : Room k PySem.callerA)
    (F : ∀ base : Heap, K.In base → base.Ns mainGlobals mg → FnG P w K mg base CX0 k fa fd [x] sp) (hbind : ∀ (s : Shared) (u : Value), BindsTo s fd ⟨[u], []⟩ [(x, u)])
    (hsp : ∀ H : Hp, SqL K H a (ns.map V.int) → sp [.ref a] H (fun v _ => v = .bl true) fun _ _ _ => False) :
    codeAny (model P w) PySem.callerA (.call (.ref fa) ⟨[.ref a], []⟩) (fun r s' => r = .ok (.ret (.bool true)) ∧ OldK s.heap s'.heap ∧ s'.os = s.os ∧ AllBare s'.gens) s := by
  let H : Hp := scriptH K a { cls := .type "list", data := .seq vs.toArray } ns
  have hH : ∀ b, H b = none ∨ (b = a ∧ K.lookup a = none ∧ H b = some (.frz { cls := .type "list", data := .seq vs.toArray } (.lst (ns.map V.int)))) := fun b => scriptH_none
  have rv := vals_ints hi
  have hok : HOk P w H s.heap := by
    intro b u e
    rcases hH b with z | ⟨rfl, _, z⟩
    · rw [z] at e; cases e
    · rw [z] at e
      cases e
      exact ⟨ha, by rw [List.length_map]; exact hl, vs, _, rv, ha⟩
  have hS : SqL K H a (ns.map V.int) := by
    cases q : K.lookup a with
    | none => exact .inl (.inr ⟨_, show scriptH K a _ ns a = _ from if_pos ⟨by rw [q] <;> rfl, rfl⟩⟩)
    | some o =>
      have e := KX a o q
      rw [ha] at e
      cases e
      exact .inr ⟨_, vs.toArray, _, q, rfl, rfl, rfl, by rw [List.size_toArray, hi.length]; exact hl, by simpa using rv⟩
  -- what is no list is not the script
  have notA : ∀ {b : Addr} {o : Obj} {es : Array DictEntry} {ep : Nat}, s.heap.get? b = some o → o.data = .dict es ep → H b = none := by
    intro b o es ep e d
    rcases hH b with z | ⟨rfl, _, _⟩
    · exact z
    · rw [ha] at e
      cases e
      cases (show Data.seq vs.toArray _ = Data.dict es ep from d)
  have ns' : ∀ {b : Addr} {m : Str → Option Value}, s.heap.Ns b m → (hidT s.heap H).Ns b m := by
    rintro b m ⟨o, es, ep, e, d, r⟩
    exact ⟨o, es, ep, hidT_get e (notA e d), d, r⟩
  have kin' : K.In (hidT s.heap H) := by
    intro b o e
    refine hidT_get (KX b o e) ?_
    rcases hH b with z | ⟨rfl, q, _⟩
    · exact z
    · rw [q] at e; cases e
  have md : Mod K mg (hidT s.heap H) := ⟨kin', ns' hns, ⟨mb, ns' hb, hbb⟩, hlim.imp fun _ z => ⟨ns' z.1, z.2⟩⟩
  have e0 : Env0 P w K mg (hidT s.heap H) PySem.callerA [] s H := ⟨rfl, md, fun _ _ z => of_hidT z, Nat.le_of_eq (hidT_size _ _), trivial, (by intro b z; cases z), hok, .of_eq hg⟩
  refine codeAny_mono ((F _ kin' (ns' hns)).go (us := [.ref a]) (vs := [.ref a]) ⟨hr, rfl⟩ e0 (hbind s (.ref a)) (.cons rfl .nil) (hsp H hS)) ?_
  rintro (e | fl) s' q
  · exact q.elim
  match fl, q with
  | .ret u, ⟨v, H', os, bare, un, ok', r', q⟩ =>
    have q' : v = .bl true := q
    subst q'
    obtain rfl : u = Value.bool true := r'
    refine ⟨rfl, OldK.of_keep fun b o e => ?_, os, bare⟩
    rcases hH b with z | ⟨_, _, z⟩
    · exact un.keep b o e z (by intro y; cases y) (by intro y; cases y)
    · have z1 := (hok b _ z).1
      have z2 := (ok' b _ (un.frzs b _ _ z)).1
      rw [e] at z1
      cases z1
      exact z2
theorem walk_G {l : PySem.W.OpenLaw} {n k : Nat} {q : Program} {loose : List Str} {XP : (Str → Option Value) → Heap → Prop} {YP : World → Heap → Prop} {d : DefRec} {K : Params → PySem.W.Frag} {sp : PySem.W.Frag → Sp} {x : Str}
    (hn : l.most = some n) (hn2 : n ≤ sizeLine) (hdf : d.params.defaults = []) (hr : Room k PySem.callerA) (hY : ∀ (w : World) (h : Heap), YP w h → (K w.params).In h)
    (F : ∀ (w : World) (mg : Str → Option Value) (fa : Addr) (h : Heap), (K w.params).In h → h.Ns mainGlobals mg → mg d.name = some (.ref fa) →
      ∃ fd : FuncData, (∀ (s : Shared) (u : Value), BindsTo s fd ⟨[u], []⟩ [(x, u)]) ∧ ∀ base : Heap, (K w.params).In base → base.Ns mainGlobals mg → FnG l.prog w (K w.params) mg base CX0 k fa fd [x] (sp (K w.params)))
    (hsp : ∀ (K : PySem.W.Frag) (H : Hp) (a : Addr) (ns : List Int), ns.length ≤ n → SqL K H a (ns.map V.int) → sp K [.ref a] H (fun v _ => v = .bl true) fun _ _ _ => False) :
    PySem.W.WalkO q loose XP YP l.row.toRowW d [] (fun f vs => PySem.call f vs) :=
  Att.attach_call hn hdf fun w s0 s1 mg mb fa o pm cd doc a vs ns G Y ho hd hcd hmg hobj hints hlen hg => by
    have KX := hY w _ Y
    obtain ⟨fd, hbd, hF⟩ := F w mg fa _ KX G.T.g hmg
    exact law_G KX G.T.g G.T.b G.T.builtins G.T.nolimit hg hobj hints (Nat.le_trans hlen hn2) hr hF hbd fun H hS => hsp _ H a ns hlen hS
end Toy
namespace Toy
open PySem PySem.Spec PyProof.Rows L2
/-! ### how long a shown datum is -/
mutual
def cst : PyData → Nat
  | .none => 5
  | .bool _ => 5
  | .int _ => 1921
  | .str x => (reprText x).length
  | .list xs => csts xs + 4
  | .tuple xs => csts xs + 4
  | .dict _ => 0
def csts : List PyData → Nat
  | [] => 0
  | x :: xs => cst x + 4 + csts xs
end
theorem tupT_len (ts : List Str) : (tupleText ts).length ≤ piled ts + 4 := by
  unfold tupleText
  rw [strLen_append, strLen_append]
  have e1 : ((("(" : String) : Str)).length = 1 := rfl
  have e3 : (((if ts.length == 1 then ",)" else ")" : String) : Str)).length ≤ 2 := by split <;> decide +kernel
  by_cases h : ts = []
  · subst h; decide +kernel
  · have := join_length_add ts h; omega
theorem txtFrom_len : ∀ (ts : List Str) (k : Nat) (acc : Str), (textFrom k acc ts).length ≤ acc.length + piled ts
  | [], k, acc => Nat.le_add_right _ _
  | t :: r, k, acc => by
    have h := txtFrom_len r (k + 1) (acc ++ (if k > 0 then ", " else "" : String) ++ t)
    have e : (acc ++ (if k > 0 then ", " else "" : String) ++ t).length = acc.length + (if k > 0 then 2 else 0) + t.length := by
      rw [strLen_append, strLen_append]
      split <;> rfl
    rw [e] at h
    rw [piled_cons]
    have h2 : (textFrom k acc (t :: r)).length = (textFrom (k + 1) (acc ++ (if k > 0 then ", " else "" : String) ++ t) r).length := rfl
    rw [h2]
    have e2 : (if k > 0 then 2 else 0) ≤ 2 := by split <;> omega
    omega
theorem lstT_len (ts : List Str) : (listText ts).length ≤ piled ts + 4 := by
  unfold listText
  rw [strLen_append]
  have h := txtFrom_len ts 0 "["
  have e1 : ((("[" : String) : Str)).length = 1 := rfl
  have e2 : ((("]" : String) : Str)).length = 1 := rfl
  omega
mutual
theorem shown_le : ∀ d : PyData, d.showable = true → d.hasDict = false → d.shown.length ≤ cst d
  | .none, _, _ => by show (("None" : String) : Str).length ≤ 5; decide +kernel
  | .bool b, _, _ => by cases b <;> (show _ ≤ 5; decide +kernel)
  | .int i, h, _ => PyProof.Rows.int_text_len_1921 (of_decide_eq_true (by simpa [PyData.showable] using h))
  | .str x, _, _ => Nat.le_refl _
  | .list ds, h, g => by
    have h1 := showns_le ds (by simpa [PyData.showable] using h) (by simpa [PyData.hasDict] using g)
    have h2 := lstT_len (PyData.shownAll ds)
    show (listText (PyData.shownAll ds)).length ≤ csts ds + 4
    omega
  | .tuple ds, h, g => by
    have h1 := showns_le ds (by simpa [PyData.showable] using h) (by simpa [PyData.hasDict] using g)
    have h2 := tupT_len (PyData.shownAll ds)
    show (tupleText (PyData.shownAll ds)).length ≤ csts ds + 4
    omega
  | .dict _, _, g => by simp [PyData.hasDict] at g
theorem showns_le : ∀ ds : List PyData, PyData.showableAll ds = true → PyData.hasDictAll ds = false → piled (PyData.shownAll ds) ≤ csts ds
  | [], _, _ => Nat.le_refl _
  | d :: ds, h, g => by
    have h1 := shown_le d (by simp [PyData.showableAll] at h; exact h.1) (by simp [PyData.hasDictAll] at g; exact g.1)
    have h2 := showns_le ds (by simp [PyData.showableAll] at h; exact h.2) (by simp [PyData.hasDictAll] at g; exact g.2)
    show piled (d.shown :: PyData.shownAll ds) ≤ _
    rw [piled_cons]
    show _ ≤ cst d + 4 + csts ds
    omega
end
theorem shown_sz {d : PyData} (h : d.showable = true) (g : d.hasDict = false) (c : cst d ≤ 10000000) : d.shown.length ≤ sizeLine :=
  Nat.le_trans (shown_le d h g) (Nat.le_trans c (by decide))
end Toy
namespace Toy
open PySem PySem.Spec PyProof.Rows L2
/-- a list of ints grown by a part of another one -/
theorem ext_cut {L z : Addr} {ws es : List Int} {lo hi : Option Int} {H : Hp} {R : VK} (hL : H L = some (.lst (ws.map V.int))) (hz : H z = some (.lst (cutV (es.map V.int) lo hi))) (hs : ws.length + es.length ≤ 1000)
    (q : ∀ us : List Int, us.length ≤ es.length → (∀ x ∈ us, x ∈ es) → R .non (upd H L (.lst ((ws ++ us).map V.int)))) : rExtend (.ref L) [.ref z] H R := by
  obtain ⟨us, e, h1, h2⟩ := cut_map es lo hi
  rw [e] at hz
  refine ⟨L, z, _, _, rfl, rfl, hL, hz, small (by rw [List.length_map, List.length_map]; omega), ?_⟩
  have := q us h1 h2
  rw [List.map_append] at this
  exact this
end Toy
namespace Toy
open PySem L2
def top (i : Nat) : Stmt := PySem.Challenge.pw_joinedasks_k16_whole_stays_and_leads.main.body.getD i (.Pass ⟨0, 0, 0, 0⟩)
abbrev s_is_whole : Stmt := top 5
theorem sc_is_whole : FnScope ["thing"] ["thing"] (defScope s_is_whole) := ⟨rfl, rfl, rfl, by decide +kernel, rfl, by decide +kernel, by decide +kernel⟩
abbrev s_is_row_of : Stmt := top 6
theorem sc_is_row_of : FnScope ["thing", "many"] ["thing", "many"] (defScope s_is_row_of) := ⟨rfl, rfl, rfl, by decide +kernel, rfl, by decide +kernel, by decide +kernel⟩
abbrev s_want_whole : Stmt := top 7
theorem sc_want_whole : FnScope ["thing"] ["thing"] (defScope s_want_whole) := ⟨rfl, rfl, rfl, by decide +kernel, rfl, by decide +kernel, by decide +kernel⟩
abbrev s_want_from : Stmt := top 8
theorem sc_want_from : FnScope ["thing", "least"] ["thing", "least"] (defScope s_want_from) := ⟨rfl, rfl, rfl, by decide +kernel, rfl, by decide +kernel, by decide +kernel⟩
abbrev s_is_end : Stmt := top 11
theorem sc_is_end : FnScope ["thing"] ["thing"] (defScope s_is_end) := ⟨rfl, rfl, rfl, by decide +kernel, rfl, by decide +kernel, by decide +kernel⟩
abbrev s_is_deed : Stmt := top 12
theorem sc_is_deed : FnScope ["thing", "add", "low", "high"] ["thing"] (defScope s_is_deed) := ⟨rfl, rfl, rfl, by decide +kernel, rfl, by decide +kernel, by decide +kernel⟩
abbrev s_want_deed : Stmt := top 13
theorem sc_want_deed : FnScope ["thing"] ["thing"] (defScope s_want_deed) := ⟨rfl, rfl, rfl, by decide +kernel, rfl, by decide +kernel, by decide +kernel⟩
abbrev s_put_through : Stmt := top 14
theorem sc_put_through : FnScope ["deed", "value", "add", "low", "high", "found"] ["deed", "value"] (defScope s_put_through) := ⟨rfl, rfl, rfl, by decide +kernel, rfl, by decide +kernel, by decide +kernel⟩
abbrev s_done : Stmt := top 15
theorem sc_done : FnScope ["deed", "value"] ["deed", "value"] (defScope s_done) := ⟨rfl, rfl, rfl, by decide +kernel, rfl, by decide +kernel, by decide +kernel⟩
abbrev s_whole_deed : Stmt := top 16
theorem sc_whole_deed : FnScope ["add", "low", "high"] ["add", "low", "high"] (defScope s_whole_deed) := ⟨rfl, rfl, rfl, by decide +kernel, rfl, by decide +kernel, by decide +kernel⟩
abbrev s_again : Stmt := top 17
theorem sc_again : FnScope ["deed", "many", "add", "low", "high", "far"] ["deed", "many"] (defScope s_again) := ⟨rfl, rfl, rfl, by decide +kernel, rfl, by decide +kernel, by decide +kernel⟩
abbrev s_stays : Stmt := top 19
theorem sc_stays : FnScope ["deed", "add", "low", "high", "end"] ["deed"] (defScope s_stays) := ⟨rfl, rfl, rfl, by decide +kernel, rfl, by decide +kernel, by decide +kernel⟩
abbrev s_is_beyond : Stmt := top 20
theorem sc_is_beyond : FnScope ["deed", "value", "low", "high"] ["deed", "value"] (defScope s_is_beyond) := ⟨rfl, rfl, rfl, by decide +kernel, rfl, by decide +kernel, by decide +kernel⟩
abbrev s_leads : Stmt := top 21
theorem sc_leads : FnScope ["deed", "value", "at"] ["deed", "value"] (defScope s_leads) := ⟨rfl, rfl, rfl, by decide +kernel, rfl, by decide +kernel, by decide +kernel⟩
abbrev s__law_pot : Stmt := top 23
theorem sc__law_pot : FnScope ["_law_script", "_law_k", "_law_cell", "_law_seed"] ["_law_script", "_law_k"] (defScope s__law_pot) := ⟨rfl, rfl, rfl, by decide +kernel, rfl, by decide +kernel, by decide +kernel⟩
abbrev s__law_take : Stmt := top 24
theorem sc__law_take : FnScope ["_law_pot_here", "_law_many", "_law_digit"] ["_law_pot_here", "_law_many"] (defScope s__law_take) := ⟨rfl, rfl, rfl, by decide +kernel, rfl, by decide +kernel, by decide +kernel⟩
abbrev s__law_number : Stmt := top 25
theorem sc__law_number : FnScope ["_law_pot_here", "_law_road", "_law_found"] ["_law_pot_here"] (defScope s__law_number) := ⟨rfl, rfl, rfl, by decide +kernel, rfl, by decide +kernel, by decide +kernel⟩
abbrev s__law_deed : Stmt := top 26
theorem sc__law_deed : FnScope ["_law_pot_here", "_law_road", "_law_add", "_law_one", "_law_other"] ["_law_pot_here"] (defScope s__law_deed) := ⟨rfl, rfl, rfl, by decide +kernel, rfl, by decide +kernel, by decide +kernel⟩
abbrev s__law_makes : Stmt := top 27
theorem sc__law_makes : FnScope ["_law_deed_here", "_law_value", "_law_add", "_law_low", "_law_high", "_law_found"] ["_law_deed_here", "_law_value"] (defScope s__law_makes) := ⟨rfl, rfl, rfl, by decide +kernel, rfl, by decide +kernel, by decide +kernel⟩
abbrev s__law_turns : Stmt := top 28
theorem sc__law_turns : FnScope ["_law_deed_here", "_law_found", "_law_end"] ["_law_deed_here"] (defScope s__law_turns) := ⟨rfl, rfl, rfl, by decide +kernel, rfl, by decide +kernel, by decide +kernel⟩
abbrev s__law_whole : Stmt := top 29
theorem sc__law_whole : FnScope ["_law_thing"] ["_law_thing"] (defScope s__law_whole) := ⟨rfl, rfl, rfl, by decide +kernel, rfl, by decide +kernel, by decide +kernel⟩
abbrev s__law_is_span : Stmt := top 31
theorem sc__law_is_span : FnScope ["_law_span", "_law_end"] ["_law_span"] (defScope s__law_is_span) := ⟨rfl, rfl, rfl, by decide +kernel, rfl, by decide +kernel, by decide +kernel⟩
abbrev s__law_in : Stmt := top 32
theorem sc__law_in : FnScope ["_law_span", "_law_value"] ["_law_span", "_law_value"] (defScope s__law_in) := ⟨rfl, rfl, rfl, by decide +kernel, rfl, by decide +kernel, by decide +kernel⟩
abbrev s__law_places : Stmt := top 33
theorem sc__law_places : FnScope ["_law_deed_here", "_law_span", "_law_found", "_law_end"] ["_law_deed_here", "_law_span"] (defScope s__law_places) := ⟨rfl, rfl, rfl, by decide +kernel, rfl, by decide +kernel, by decide +kernel⟩
abbrev s__law_stays_right : Stmt := top 34
theorem sc__law_stays_right : FnScope ["_law_deed_here", "_law_span", "_law_value", "_law_end"] ["_law_deed_here"] (defScope s__law_stays_right) := ⟨rfl, rfl, rfl, by decide +kernel, rfl, by decide +kernel, by decide +kernel⟩
abbrev s__law_leads_right : Stmt := top 35
theorem sc__law_leads_right : FnScope ["_law_deed_here", "_law_goal", "_law_span", "_law_value", "_law_end"] ["_law_deed_here", "_law_goal"] (defScope s__law_leads_right) := ⟨rfl, rfl, rfl, by decide +kernel, rfl, by decide +kernel, by decide +kernel⟩
abbrev s_law : Stmt := top 36
theorem sc_law : FnScope ["_law_script", "_law_k", "_law_pot_here", "_law_is_great", "_law_deed_here", "_law_value", "_law_goals", "_law_end", "_law_goal"] ["_law_script"] (defScope s_law) := ⟨rfl, rfl, rfl, by decide +kernel, rfl, by decide +kernel, by decide +kernel⟩
structure Bl (K : PySem.W.Frag) (mg : Str → Option Value) : Prop where
  abs_ : mg "abs" = none
  all_ : mg "all" = none
  bool_ : mg "bool" = none
  divmod_ : mg "divmod" = none
  int_ : mg "int" = none
  isinstance_ : mg "isinstance" = none
  len_ : mg "len" = none
  max_ : mg "max" = none
  min_ : mg "min" = none
  range_ : mg "range" = none
  repr_ : mg "repr" = none
  tuple_ : mg "tuple" = none
  LOOK_ : ∃ a, mg "LOOK" = some (.ref a) ∧ KTup K a [.int 0, .non, .non]

/-! ### data: a deed -/
structure Dd where
  add : Int
  low : Option Int
  high : Option Int
def oV : Option Int → V
  | none => .non
  | some i => .int i
def Dd.vs (d : Dd) : List V := [.int d.add, oV d.low, oV d.high]
def Dd.at_ (K : PySem.W.Frag) (H : Hp) (a : Addr) (d : Dd) : Prop := SqT K H a d.vs
/-- the ends stand right -/
def Dd.Ok (d : Dd) : Prop := ∀ l h, d.low = some l → d.high = some h → l < h ∨ (l = h ∧ d.add = 0)
def up (o : Option Int) (f : Int) : Int := match o with | none => f | some l => if f > l then f else l
def dn (o : Option Int) (f : Int) : Int := match o with | none => f | some h => if f < h then f else h
def Dd.ap (d : Dd) (v : Int) : Int := dn d.high (up d.low (v + d.add))
def hi (o : Option Int) (f : Int) : Int := match o with | none => f | some h => if f > h then h else f
def mk (d : Dd) (v : Int) : Int := match d.low with | none => hi d.high (v + d.add) | some l => if v + d.add < l then l else hi d.high (v + d.add)
theorem mk_eq {d : Dd} (ok : d.Ok) (v : Int) : mk d v = d.ap v := by
  obtain ⟨add, low, high⟩ := d
  have ok' := ok
  unfold Dd.Ok at ok'
  cases low with
  | none =>
    cases high with
    | none => rfl
    | some h =>
      show (if v + add > h then h else v + add) = if v + add < h then v + add else h
      by_cases c : v + add > h
      · rw [if_pos c, if_neg (by omega)]
      · rw [if_neg c]
        by_cases c2 : v + add < h
        · rw [if_pos c2]
        · rw [if_neg c2]; omega
  | some l =>
    cases high with
    | none =>
      show (if v + add < l then l else v + add) = if v + add > l then v + add else l
      by_cases c : v + add < l
      · rw [if_pos c, if_neg (by omega)]
      · rw [if_neg c]
        by_cases c2 : v + add > l
        · rw [if_pos c2]
        · rw [if_neg c2]; omega
    | some h =>
      have := ok' l h rfl rfl
      show (if v + add < l then l else if v + add > h then h else v + add) = if (if v + add > l then v + add else l) < h then (if v + add > l then v + add else l) else h
      by_cases c : v + add < l
      · rw [if_pos c, if_neg (show ¬ v + add > l by omega)]
        by_cases c2 : l < h
        · rw [if_pos c2]
        · rw [if_neg c2]; omega
      · rw [if_neg c]
        have e : (if v + add > l then v + add else l) = v + add := by
          by_cases c2 : v + add > l
          · rw [if_pos c2]
          · rw [if_neg c2]; omega
        rw [e]
        by_cases c2 : v + add > h
        · rw [if_pos c2, if_neg (by omega)]
        · rw [if_neg c2]
          by_cases c3 : v + add < h
          · rw [if_pos c3]
          · rw [if_neg c3]; omega
/-- all numbers of a deed are within b -/
def Dd.In (b : Int) (d : Dd) : Prop := -b ≤ d.add ∧ d.add ≤ b ∧ (∀ l, d.low = some l → -b ≤ l ∧ l ≤ b) ∧ ∀ l, d.high = some l → -b ≤ l ∧ l ≤ b
theorem in_mk {b add : Int} {low high : Option Int} (h1 : -b ≤ add) (h2 : add ≤ b) (hl : ∀ l, low = some l → -b ≤ l ∧ l ≤ b) (hh : ∀ l, high = some l → -b ≤ l ∧ l ≤ b) : Dd.In b ⟨add, low, high⟩ := ⟨h1, h2, hl, hh⟩
theorem in_none {b : Int} : ∀ l, (none : Option Int) = some l → -b ≤ l ∧ l ≤ b := fun _ h => nomatch h
theorem in_some {b x : Int} (h1 : -b ≤ x) (h2 : x ≤ b) : ∀ l, some x = some l → -b ≤ l ∧ l ≤ b := fun l h => by cases h; exact ⟨h1, h2⟩
theorem ap_in {b c : Int} {d : Dd} {v : Int} (h : d.In b) (h1 : -c ≤ v) (h2 : v ≤ c) (h0 : 0 ≤ c) : -(b + c) ≤ d.ap v ∧ d.ap v ≤ b + c := by
  obtain ⟨a1, a2, hl, hh⟩ := h
  unfold Dd.ap dn up
  cases el : d.low with
  | none =>
    cases eh : d.high with
    | none => dsimp only; omega
    | some k => have := hh k eh; dsimp only; split <;> omega
  | some l =>
    have := hl l el
    cases eh : d.high with
    | none => dsimp only; split <;> omega
    | some k => have := hh k eh; dsimp only; split <;> split <;> omega
theorem fits {i : Int} (h1 : -(10 ^ 40) ≤ i) (h2 : i ≤ 10 ^ 40) : i.natAbs.log2 < 1920 := by
  refine log_lt (by decide) (Nat.lt_of_le_of_lt (m := 10 ^ 40) (by omega) (by decide))
theorem menu7 : ∀ j : Nat, j < 7 → ∃ z : Int, ([.int 3, .int 5, .int 11, .int 17, .int 29, .int 37, .int 41] : List V)[j]? = some (.int z) ∧ 0 < z ∧ z ≤ 41
  | 0, _ => ⟨_, rfl, by decide, by decide⟩
  | 1, _ => ⟨_, rfl, by decide, by decide⟩
  | 2, _ => ⟨_, rfl, by decide, by decide⟩
  | 3, _ => ⟨_, rfl, by decide, by decide⟩
  | 4, _ => ⟨_, rfl, by decide, by decide⟩
  | 5, _ => ⟨_, rfl, by decide, by decide⟩
  | 6, _ => ⟨_, rfl, by decide, by decide⟩
  | n + 7, h => absurd h (by omega)
theorem menu6 : ∀ j : Nat, j < 6 → ∃ z : Int, ([.int 4, .int 12, .int 1000, .int (10 ^ Int.toNat 9), .int (10 ^ Int.toNat 29), .int (10 ^ Int.toNat 29)] : List V)[j]? = some (.int z) ∧ 1 ≤ z ∧ z ≤ 10 ^ 29
  | 0, _ => ⟨_, rfl, by decide, by decide⟩
  | 1, _ => ⟨_, rfl, by decide, by decide⟩
  | 2, _ => ⟨_, rfl, by decide, by decide⟩
  | 3, _ => ⟨_, rfl, by decide, by decide⟩
  | 4, _ => ⟨_, rfl, by decide, by decide⟩
  | 5, _ => ⟨_, rfl, by decide, by decide⟩
  | n + 6, h => absurd h (by omega)
def PotAt (H : Hp) (p : Addr) : Prop := ∃ a b : Int, H p = some (.lst [.int a, .int b]) ∧ 0 ≤ a ∧ 0 ≤ b ∧ b < 2 ^ 40
theorem PotAt.same {H H' : Hp} {p : Addr} (e : Same H H') (h : PotAt H p) : PotAt H' p := by
  obtain ⟨a, b, h1, h2⟩ := h
  exact ⟨a, b, e _ _ h1, h2⟩
def DeedArg (K : PySem.W.Frag) (H : Hp) (a : Addr) (d : Dd) : Prop := TyX K H (.ref a) (.type "tuple") ∧ SqT K H a d.vs ∧ d.Ok
def Dz (H : Hp) (a : Addr) (d : Dd) : Prop := H a = some (.tup d.vs) ∧ d.In (10 ^ 29 + 3) ∧ d.Ok
theorem Dz.arg {K : PySem.W.Frag} {H : Hp} {a : Addr} {d : Dd} (h : Dz H a d) : DeedArg K H a d := ⟨.base (.tup h.1), SqT.of h.1, h.2.2⟩
theorem Dz.same {H H' : Hp} {a : Addr} {d : Dd} (e : Same H H') (h : Dz H a d) : Dz H' a d := ⟨e _ _ h.1, h.2⟩
def look : Dd := ⟨0, none, none⟩
theorem look_ok : look.Ok := fun _ _ h => nomatch h
theorem look_in {b : Int} (h : 0 ≤ b) : look.In b := in_mk (by omega) (by omega) in_none in_none
theorem pot_ne {H : Hp} {p a : Addr} (h : PotAt H p) (n : H a = none) : a ≠ p := fun z => by obtain ⟨_, _, h1, _⟩ := h; rw [← z, n] at h1; cases h1
/-! ### two deeds as one -/
def wholeD (add : Int) (low high : Option Int) : Dd := if low ≠ none ∧ low = high then ⟨0, low, high⟩ else ⟨add, low, high⟩
theorem wholeD_low {add : Int} {low high : Option Int} : (wholeD add low high).low = low := by unfold wholeD; split <;> rfl
theorem wholeD_high {add : Int} {low high : Option Int} : (wholeD add low high).high = high := by unfold wholeD; split <;> rfl
theorem wholeD_add {add : Int} {low high : Option Int} : (wholeD add low high).add = if low ≠ none ∧ low = high then 0 else add := by unfold wholeD; split <;> rfl
def endBeh (b : Dd) (o p : Option Int) : Option Int := match o with | none => p | some l => some (b.ap l)
def beh (a b : Dd) : Dd := wholeD (a.add + b.add) (endBeh b a.low b.low) (endBeh b a.high b.high)
theorem up_mono {o : Option Int} {x y : Int} (h : x ≤ y) : up o x ≤ up o y := by
  cases o with
  | none => exact h
  | some l =>
    show (if x > l then x else l) ≤ (if y > l then y else l)
    split <;> split <;> omega
theorem dn_mono {o : Option Int} {x y : Int} (h : x ≤ y) : dn o x ≤ dn o y := by
  cases o with
  | none => exact h
  | some l =>
    show (if x < l then x else l) ≤ (if y < l then y else l)
    split <;> split <;> omega
theorem ap_mono (d : Dd) {x y : Int} (h : x ≤ y) : d.ap x ≤ d.ap y := dn_mono (up_mono (by omega))
/-- what is made, by the four ways -/
theorem ap_nn (d : Dd) (v : Int) (h1 : d.low = none) (h2 : d.high = none) : d.ap v = v + d.add := by unfold Dd.ap; rw [h1, h2] <;> rfl
theorem ap_sn (d : Dd) (v l : Int) (h1 : d.low = some l) (h2 : d.high = none) : d.ap v = if v + d.add > l then v + d.add else l := by unfold Dd.ap; rw [h1, h2] <;> rfl
theorem ap_ns (d : Dd) (v h : Int) (h1 : d.low = none) (h2 : d.high = some h) : d.ap v = if v + d.add < h then v + d.add else h := by unfold Dd.ap; rw [h1, h2] <;> rfl
theorem ap_ss (d : Dd) (v l h : Int) (h1 : d.low = some l) (h2 : d.high = some h) : d.ap v = if (if v + d.add > l then v + d.add else l) < h then (if v + d.add > l then v + d.add else l) else h := by unfold Dd.ap; rw [h1, h2] <;> rfl
/-- facts for omega -/
theorem ap_cases (d : Dd) (ok : d.Ok) (v : Int) :
    (∀ l, d.low = some l → l ≤ d.ap v ∧ (v + d.add ≤ l → d.ap v = l)) ∧ (∀ h, d.high = some h → d.ap v ≤ h ∧ (h ≤ v + d.add → d.ap v = h)) ∧
    ((d.low = none ∨ ∃ l, d.low = some l ∧ l ≤ v + d.add) → (d.high = none ∨ ∃ h, d.high = some h ∧ v + d.add ≤ h) → d.ap v = v + d.add) := by
  cases e1 : d.low with
  | none =>
    cases e2 : d.high with
    | none =>
      rw [ap_nn d v e1 e2]
      exact ⟨fun _ h => (nomatch h), fun _ h => (nomatch h), fun _ _ => rfl⟩
    | some h =>
      rw [ap_ns d v h e1 e2]
      refine ⟨fun _ h => (nomatch h), fun k hk => ?_, fun _ h2 => ?_⟩
      · cases hk; split <;> omega
      · rcases h2 with h2 | ⟨k, hk, h2⟩
        · cases h2
        · cases hk; split <;> omega
  | some l =>
    cases e2 : d.high with
    | none =>
      rw [ap_sn d v l e1 e2]
      refine ⟨fun k hk => ?_, fun _ h => (nomatch h), fun h1 _ => ?_⟩
      · cases hk; split <;> omega
      · rcases h1 with h1 | ⟨k, hk, h1⟩
        · cases h1
        · cases hk; split <;> omega
    | some h =>
      have o := ok l h e1 e2
      rw [ap_ss d v l h e1 e2]
      refine ⟨fun k hk => ?_, fun k hk => ?_, fun h1 h2 => ?_⟩
      · cases hk
        by_cases c : v + d.add > l
        · rw [if_pos c]; split <;> omega
        · rw [if_neg c]; split <;> omega
      · cases hk
        by_cases c : v + d.add > l
        · rw [if_pos c]; split <;> omega
        · rw [if_neg c]; split <;> omega
      · rcases h1 with h1 | ⟨k, hk, h1⟩
        · cases h1
        rcases h2 with h2 | ⟨k', hk', h2⟩
        · cases h2
        cases hk; cases hk'
        by_cases c : v + d.add > l
        · rw [if_pos c]; split <;> omega
        · rw [if_neg c]; split <;> omega
theorem beh_ok {a b : Dd} (ha : a.Ok) (hb : b.Ok) : (beh a b).Ok := by
  intro l h h1 h2
  unfold beh at h1 h2 ⊢
  rw [wholeD_low] at h1
  rw [wholeD_high] at h2
  rw [wholeD_add]
  have key : l ≤ h := by
    unfold endBeh at h1 h2
    cases e1 : a.low with
    | none =>
      rw [e1] at h1
      cases e2 : a.high with
      | none =>
        rw [e2] at h2
        have := hb l h h1 h2
        omega
      | some k =>
        rw [e2] at h2
        cases h2
        exact ((ap_cases b hb k).1 l h1).1
    | some j =>
      rw [e1] at h1
      cases h1
      cases e2 : a.high with
      | none =>
        rw [e2] at h2
        exact ((ap_cases b hb j).2.1 h h2).1
      | some k =>
        rw [e2] at h2
        cases h2
        have := ha j k e1 e2
        exact ap_mono b (by omega)
  by_cases c : l = h
  · right
    refine ⟨c, if_pos ⟨by rw [h1]; exact Option.some_ne_none l, by rw [h1, h2, c]⟩⟩
  · left; omega
/-- the ends of a deed -/
theorem ap_low {d : Dd} (ok : d.Ok) {l v : Int} (h : d.low = some l) (hv : v + d.add ≤ l) : d.ap v = l := ((ap_cases d ok v).1 l h).2 hv
theorem ap_high {d : Dd} (ok : d.Ok) {l v : Int} (h : d.high = some l) (hv : l ≤ v + d.add) : d.ap v = l := ((ap_cases d ok v).2.1 l h).2 hv
theorem whole_ap {add : Int} {low high : Option Int} {v w : Int} (hl : ∀ l, low = some l → l ≤ w) (hh : ∀ h, high = some h → w ≤ h)
    (h1 : (∀ l, low = some l → v + add ≤ l → w = l)) (h2 : (∀ h, high = some h → h ≤ v + add → w = h))
    (h3 : (low = none ∨ ∃ l, low = some l ∧ l ≤ v + add) → (high = none ∨ ∃ h, high = some h ∧ v + add ≤ h) → w = v + add) : (wholeD add low high).ap v = w := by
  cases e1 : low with
  | none =>
    have e3 : wholeD add none high = ⟨add, none, high⟩ := by unfold wholeD; rw [if_neg (fun z => z.1 rfl)]
    rw [e3]
    cases e2 : high with
    | none => rw [ap_nn _ _ rfl rfl]; exact (h3 (.inl e1) (.inl e2)).symm
    | some h =>
      rw [ap_ns _ _ h rfl rfl]
      show (if v + add < h then v + add else h) = w
      have a2 := h2 h e2
      have a3 := h3 (.inl e1)
      split
      · exact (a3 (.inr ⟨h, e2, by omega⟩)).symm
      · exact (a2 (by omega)).symm
  | some l =>
    have b1 := hl l e1
    cases e2 : high with
    | none =>
      have e3 : wholeD add (some l) none = ⟨add, some l, none⟩ := by unfold wholeD; rw [if_neg (fun z => nomatch z.2)]
      rw [e3, ap_sn _ _ l rfl rfl]
      show (if v + add > l then v + add else l) = w
      have a1 := h1 l e1
      split
      · exact (h3 (.inr ⟨l, e1, by omega⟩) (.inl e2)).symm
      · exact (a1 (by omega)).symm
    | some h =>
      have b2 := hh h e2
      by_cases c : l = h
      · subst c
        have e3 : wholeD add (some l) (some l) = ⟨0, some l, some l⟩ := by unfold wholeD; rw [if_pos ⟨Option.some_ne_none l, rfl⟩]
        rw [e3, ap_ss _ _ l l rfl rfl]
        split <;> omega
      · have e3 : wholeD add (some l) (some h) = ⟨add, some l, some h⟩ := by unfold wholeD; rw [if_neg (fun z => c (Option.some.inj z.2))]
        rw [e3, ap_ss _ _ l h rfl rfl]
        show (if (if v + add > l then v + add else l) < h then (if v + add > l then v + add else l) else h) = w
        have a1 := h1 l e1
        have a2 := h2 h e2
        by_cases c1 : v + add > l
        · rw [if_pos c1]
          split
          · exact (h3 (.inr ⟨l, e1, by omega⟩) (.inr ⟨h, e2, by omega⟩)).symm
          · exact (a2 (by omega)).symm
        · rw [if_neg c1]
          have := a1 (by omega)
          split <;> omega
theorem beh_ap {a b : Dd} (ha : a.Ok) (hb : b.Ok) (v : Int) : (beh a b).ap v = b.ap (a.ap v) := by
  obtain ⟨A1, A2, A3⟩ := ap_cases a ha v
  obtain ⟨B1, B2, B3⟩ := ap_cases b hb (a.ap v)
  have P3 : ∀ l, endBeh b a.low b.low = some l → v + (a.add + b.add) ≤ l → b.ap (a.ap v) = l := by
    intro l hl hv
    unfold endBeh at hl
    cases e : a.low with
    | none =>
      rw [e] at hl
      refine (B1 l hl).2 ?_
      cases e2 : a.high with
      | none => rw [A3 (.inl e) (.inl e2)]; omega
      | some k =>
        by_cases c : v + a.add ≤ k
        · rw [A3 (.inl e) (.inr ⟨k, e2, c⟩)]; omega
        · rw [(A2 k e2).2 (by omega)]; omega
    | some j =>
      rw [e] at hl
      cases hl
      -- v + a.add + b.add ≤ b.ap j
      by_cases c : v + a.add ≤ j
      · rw [(A1 j e).2 c]
      · have m : b.ap j ≤ b.ap (a.ap v) := ap_mono b (A1 j e).1
        have n : b.ap (a.ap v) ≤ b.ap (v + a.add) := by
          refine ap_mono b ?_
          cases e2 : a.high with
          | none => rw [A3 (.inr ⟨j, e, by omega⟩) (.inl e2)]; omega
          | some k =>
            by_cases c : v + a.add ≤ k
            · rw [A3 (.inr ⟨j, e, by omega⟩) (.inr ⟨k, e2, c⟩)]; omega
            · rw [(A2 k e2).2 (by omega)]; omega
        -- b at v + a.add is at most max of its sum and its low end
        obtain ⟨C1, C2, C3⟩ := ap_cases b hb (v + a.add)
        obtain ⟨D1, D2, D3⟩ := ap_cases b hb j
        cases f1 : b.low with
        | none =>
          cases f2 : b.high with
          | none => have := C3 (.inl f1) (.inl f2); have := D3 (.inl f1) (.inl f2); omega
          | some k =>
            have := C2 k f2; have := D2 k f2
            by_cases c3 : v + a.add + b.add ≤ k
            · have := C3 (.inl f1) (.inr ⟨k, f2, c3⟩); have := D3 (.inl f1) (.inr ⟨k, f2, by omega⟩); omega
            · omega
        | some i =>
          have := C1 i f1; have := D1 i f1
          cases f2 : b.high with
          | none =>
            by_cases c3 : i ≤ v + a.add + b.add
            · have := C3 (.inr ⟨i, f1, c3⟩) (.inl f2)
              by_cases c4 : i ≤ j + b.add
              · have := D3 (.inr ⟨i, f1, c4⟩) (.inl f2); omega
              · omega
            · omega
          | some k =>
            have := C2 k f2; have := D2 k f2
            by_cases c3 : i ≤ v + a.add + b.add
            · by_cases c5 : v + a.add + b.add ≤ k
              · have := C3 (.inr ⟨i, f1, c3⟩) (.inr ⟨k, f2, c5⟩)
                by_cases c4 : i ≤ j + b.add
                · have := D3 (.inr ⟨i, f1, c4⟩) (.inr ⟨k, f2, by omega⟩); omega
                · omega
              · omega
            · omega
  have P4 : ∀ h, endBeh b a.high b.high = some h → h ≤ v + (a.add + b.add) → b.ap (a.ap v) = h := by
    intro h hh hv
    unfold endBeh at hh
    cases e : a.high with
    | none =>
      rw [e] at hh
      refine (B2 h hh).2 ?_
      cases e2 : a.low with
      | none => rw [A3 (.inl e2) (.inl e)]; omega
      | some k =>
        by_cases c : k ≤ v + a.add
        · rw [A3 (.inr ⟨k, e2, c⟩) (.inl e)]; omega
        · rw [(A1 k e2).2 (by omega)]; omega
    | some j =>
      rw [e] at hh
      cases hh
      by_cases c : j ≤ v + a.add
      · rw [(A2 j e).2 c]
      · have m : b.ap (a.ap v) ≤ b.ap j := ap_mono b (A2 j e).1
        have n : b.ap (v + a.add) ≤ b.ap (a.ap v) := by
          refine ap_mono b ?_
          cases e2 : a.low with
          | none => rw [A3 (.inl e2) (.inr ⟨j, e, by omega⟩)]; omega
          | some k =>
            by_cases c : k ≤ v + a.add
            · rw [A3 (.inr ⟨k, e2, c⟩) (.inr ⟨j, e, by omega⟩)]; omega
            · rw [(A1 k e2).2 (by omega)]; omega
        obtain ⟨C1, C2, C3⟩ := ap_cases b hb (v + a.add)
        obtain ⟨D1, D2, D3⟩ := ap_cases b hb j
        cases f1 : b.high with
        | none =>
          cases f2 : b.low with
          | none => have := C3 (.inl f2) (.inl f1); have := D3 (.inl f2) (.inl f1); omega
          | some k =>
            have := C1 k f2; have := D1 k f2
            by_cases c3 : k ≤ v + a.add + b.add
            · have := C3 (.inr ⟨k, f2, c3⟩) (.inl f1); have := D3 (.inr ⟨k, f2, by omega⟩) (.inl f1); omega
            · omega
        | some i =>
          have := C2 i f1; have := D2 i f1
          cases f2 : b.low with
          | none =>
            by_cases c3 : v + a.add + b.add ≤ i
            · have := C3 (.inl f2) (.inr ⟨i, f1, c3⟩)
              by_cases c4 : j + b.add ≤ i
              · have := D3 (.inl f2) (.inr ⟨i, f1, c4⟩); omega
              · omega
            · omega
          | some k =>
            have := C1 k f2; have := D1 k f2
            by_cases c3 : v + a.add + b.add ≤ i
            · by_cases c5 : k ≤ v + a.add + b.add
              · have := C3 (.inr ⟨k, f2, c5⟩) (.inr ⟨i, f1, c3⟩)
                by_cases c4 : j + b.add ≤ i
                · have := D3 (.inr ⟨k, f2, by omega⟩) (.inr ⟨i, f1, c4⟩); omega
                · omega
              · omega
            · omega
  unfold beh
  refine whole_ap (fun l hl => ?_) (fun h hh => ?_) P3 P4 (fun h1 h2 => ?_)
  · unfold endBeh at hl
    cases e : a.low with
    | none => rw [e] at hl; exact (B1 l hl).1
    | some j => rw [e] at hl; cases hl; exact ap_mono b (A1 j e).1
  · unfold endBeh at hh
    cases e : a.high with
    | none => rw [e] at hh; exact (B2 h hh).1
    | some j => rw [e] at hh; cases hh; exact ap_mono b (A2 j e).1
  · -- between the ends both add
    by_cases s1 : ∃ l, endBeh b a.low b.low = some l ∧ v + (a.add + b.add) ≤ l
    · obtain ⟨l, s1, s2⟩ := s1
      rw [P3 l s1 s2]
      rcases h1 with h1 | ⟨l', h1, h4⟩
      · rw [s1] at h1; cases h1
      · rw [s1] at h1; cases h1; omega
    by_cases s2 : ∃ l, endBeh b a.high b.high = some l ∧ l ≤ v + (a.add + b.add)
    · obtain ⟨l, s2, s3⟩ := s2
      rw [P4 l s2 s3]
      rcases h2 with h2 | ⟨l', h2, h4⟩
      · rw [s2] at h2; cases h2
      · rw [s2] at h2; cases h2; omega
    have h1s : ∀ l, endBeh b a.low b.low = some l → l < v + (a.add + b.add) := fun l hl => Int.not_le.mp fun z => s1 ⟨l, hl, z⟩
    have h2s : ∀ l, endBeh b a.high b.high = some l → v + (a.add + b.add) < l := fun l hl => Int.not_le.mp fun z => s2 ⟨l, hl, z⟩
    have a1 : a.low = none ∨ ∃ l, a.low = some l ∧ l ≤ v + a.add := by
      cases e : a.low with
      | none => exact .inl rfl
      | some j =>
        right
        refine ⟨j, rfl, ?_⟩
        rcases h1 with h1 | ⟨l, h1, h4⟩
        · unfold endBeh at h1; rw [e] at h1; cases h1
        have st := h1s l h1
        unfold endBeh at h1; rw [e] at h1; cases h1
        by_cases c : j ≤ v + a.add
        · exact c
        obtain ⟨D1, D2, D3⟩ := ap_cases b hb j
        exfalso
        cases f2 : b.high with
        | none =>
          cases f1 : b.low with
          | none => have := D3 (.inl f1) (.inl f2); omega
          | some i => have := D1 i f1; by_cases c4 : i ≤ j + b.add; (have := D3 (.inr ⟨i, f1, c4⟩) (.inl f2); omega); omega
        | some k =>
          have := D2 k f2
          by_cases c5 : j + b.add ≤ k
          · cases f1 : b.low with
            | none => have := D3 (.inl f1) (.inr ⟨k, f2, c5⟩); omega
            | some i => have := D1 i f1; by_cases c4 : i ≤ j + b.add; (have := D3 (.inr ⟨i, f1, c4⟩) (.inr ⟨k, f2, c5⟩); omega); omega
          · have e5 : b.ap j = k := this.2 (by omega)
            -- the upper end is met: then high of both is k
            rcases h2 with h2 | ⟨h, h2, h6⟩
            · unfold endBeh at h2; cases e7 : a.high with
              | none => rw [e7] at h2; rw [f2] at h2; cases h2
              | some m => rw [e7] at h2; cases h2
            · unfold endBeh at h2; cases e7 : a.high with
              | none => rw [e7] at h2; rw [f2] at h2; cases h2; omega
              | some m =>
                rw [e7] at h2; cases h2
                have o := ha j m e e7
                have q1 := ap_mono b (show j ≤ m by omega)
                have q2 := ((ap_cases b hb m).2.1 k f2).1
                omega
    have a2 : a.high = none ∨ ∃ l, a.high = some l ∧ v + a.add ≤ l := by
      cases e : a.high with
      | none => exact .inl rfl
      | some j =>
        right
        refine ⟨j, rfl, ?_⟩
        rcases h2 with h2 | ⟨l, h2, h4⟩
        · unfold endBeh at h2; rw [e] at h2; cases h2
        have st := h2s l h2
        unfold endBeh at h2; rw [e] at h2; cases h2
        by_cases c : v + a.add ≤ j
        · exact c
        obtain ⟨D1, D2, D3⟩ := ap_cases b hb j
        exfalso
        cases f2 : b.low with
        | none =>
          cases f1 : b.high with
          | none => have := D3 (.inl f2) (.inl f1); omega
          | some i => have := D2 i f1; by_cases c4 : j + b.add ≤ i; (have := D3 (.inl f2) (.inr ⟨i, f1, c4⟩); omega); omega
        | some k =>
          have := D1 k f2
          by_cases c5 : k ≤ j + b.add
          · cases f1 : b.high with
            | none => have := D3 (.inr ⟨k, f2, c5⟩) (.inl f1); omega
            | some i => have := D2 i f1; by_cases c4 : j + b.add ≤ i; (have := D3 (.inr ⟨k, f2, c5⟩) (.inr ⟨i, f1, c4⟩); omega); omega
          · have e5 : b.ap j = k := this.2 (by omega)
            rcases h1 with h1 | ⟨h, h1, h6⟩
            · unfold endBeh at h1; cases e7 : a.low with
              | none => rw [e7] at h1; rw [f2] at h1; cases h1
              | some m => rw [e7] at h1; cases h1
            · unfold endBeh at h1; cases e7 : a.low with
              | none => rw [e7] at h1; rw [f2] at h1; cases h1; omega
              | some m =>
                rw [e7] at h1; cases h1
                have o := ha m j e7 e
                have q1 := ap_mono b (show m ≤ j by omega)
                have q2 := ((ap_cases b hb m).1 k f2).1
                omega
    have ea := A3 a1 a2
    rw [ea] at B1 B2 B3 ⊢
    have b1 : b.low = none ∨ ∃ l, b.low = some l ∧ l ≤ v + a.add + b.add := by
      cases f : b.low with
      | none => exact .inl rfl
      | some i =>
        refine .inr ⟨i, rfl, ?_⟩
        rcases h1 with h1 | ⟨l, h1, h4⟩
        · unfold endBeh at h1; cases e7 : a.low with
          | none => rw [e7] at h1; rw [f] at h1; cases h1
          | some m => rw [e7] at h1; cases h1
        · unfold endBeh at h1; cases e7 : a.low with
          | none => rw [e7] at h1; rw [f] at h1; cases h1; omega
          | some m => rw [e7] at h1; cases h1; have := ((ap_cases b hb m).1 i f).1; omega
    have b2 : b.high = none ∨ ∃ l, b.high = some l ∧ v + a.add + b.add ≤ l := by
      cases f : b.high with
      | none => exact .inl rfl
      | some i =>
        refine .inr ⟨i, rfl, ?_⟩
        rcases h2 with h2 | ⟨l, h2, h4⟩
        · unfold endBeh at h2; cases e7 : a.high with
          | none => rw [e7] at h2; rw [f] at h2; cases h2
          | some m => rw [e7] at h2; cases h2
        · unfold endBeh at h2; cases e7 : a.high with
          | none => rw [e7] at h2; rw [f] at h2; cases h2; omega
          | some m => rw [e7] at h2; cases h2; have := ((ap_cases b hb m).2.1 i f).1; omega
    rw [B3 b1 b2]; omega
theorem beh_in {a b : Dd} {x y : Int} (ha : a.In x) (hb : b.In y) (h0 : 0 ≤ x) (h1 : 0 ≤ y) : (beh a b).In (y + x) := by
  obtain ⟨a1, a2, a3, a4⟩ := ha
  have hb' := hb
  obtain ⟨b1, b2, b3, b4⟩ := hb
  refine ⟨?_, ?_, fun l hl => ?_, fun l hl => ?_⟩
  · unfold beh; rw [wholeD_add]; split <;> omega
  · unfold beh; rw [wholeD_add]; split <;> omega
  · unfold beh at hl; rw [wholeD_low] at hl; unfold endBeh at hl
    cases e : a.low with
    | none => rw [e] at hl; have := b3 l hl; omega
    | some j => rw [e] at hl; cases hl; exact ap_in hb' (a3 j e).1 (a3 j e).2 h0
  · unfold beh at hl; rw [wholeD_high] at hl; unfold endBeh at hl
    cases e : a.high with
    | none => rw [e] at hl; have := b4 l hl; omega
    | some j => rw [e] at hl; cases hl; exact ap_in hb' (a4 j e).1 (a4 j e).2 h0
/-- far out a deed shows its ends -/
theorem far_low {d : Dd} {b F : Int} (ok : d.Ok) (i : d.In b) (hF : 3 * b + 2 ≤ F) (h0 : 0 ≤ b) : (if d.ap (-F - 1) = d.ap (-F) then some (d.ap (-F)) else none) = d.low := by
  obtain ⟨i1, i2, i3, i4⟩ := i
  cases e : d.low with
  | some l =>
    have := i3 l e
    rw [ap_low ok e (show -F - 1 + d.add ≤ l by omega), ap_low ok e (show -F + d.add ≤ l by omega), if_pos rfl]
  | none =>
    have k : ∀ v : Int, v ≤ -F → d.ap v = v + d.add := fun v hv => by
      refine (ap_cases d ok v).2.2 (.inl e) ?_
      cases f : d.high with
      | none => exact .inl rfl
      | some h => have := i4 h f; exact .inr ⟨h, rfl, by omega⟩
    rw [k _ (by omega), k _ (by omega), if_neg (by omega)]
theorem far_high {d : Dd} {b F : Int} (ok : d.Ok) (i : d.In b) (hF : 3 * b + 2 ≤ F) (h0 : 0 ≤ b) : (if d.ap F = d.ap (F + 1) then some (d.ap F) else none) = d.high := by
  obtain ⟨i1, i2, i3, i4⟩ := i
  cases e : d.high with
  | some l =>
    have := i4 l e
    rw [ap_high ok e (show l ≤ F + 1 + d.add by omega), ap_high ok e (show l ≤ F + d.add by omega), if_pos rfl]
  | none =>
    have k : ∀ v : Int, F ≤ v → d.ap v = v + d.add := fun v hv => by
      refine (ap_cases d ok v).2.2 ?_ (.inl e)
      cases f : d.low with
      | none => exact .inl rfl
      | some h => have := i3 h f; exact .inr ⟨h, rfl, by omega⟩
    rw [k _ (by omega), k _ (by omega), if_neg (by omega)]
theorem bound_of (d : Dd) : ∃ b, 0 ≤ b ∧ d.In b := by
  obtain ⟨a, l, h⟩ := d
  refine ⟨a.natAbs + (l.getD 0).natAbs + (h.getD 0).natAbs, by omega, in_mk (by omega) (by omega) (fun x hx => ?_) fun x hx => ?_⟩
  · cases hx; simp only [Option.getD_some]; omega
  · cases hx; simp only [Option.getD_some]; omega
theorem In.le {d : Dd} {a b : Int} (h : d.In a) (e : a ≤ b) : d.In b := ⟨by have := h.1; omega, by have := h.2.1; omega, fun l hl => by have := h.2.2.1 l hl; omega, fun l hl => by have := h.2.2.2 l hl; omega⟩
/-- there is just one deed that makes the same of all -/
theorem ap_ext {d e : Dd} (hd : d.Ok) (he : e.Ok) (h : ∀ v, d.ap v = e.ap v) : d = e := by
  obtain ⟨b, b0, hb⟩ := bound_of d
  obtain ⟨c, c0, hc⟩ := bound_of e
  have l1 := far_low (F := 3 * (b + c) + 2) hd (In.le hb (show b ≤ b + c by omega)) (by omega) (by omega)
  have l2 := far_low (F := 3 * (b + c) + 2) he (In.le hc (show c ≤ b + c by omega)) (by omega) (by omega)
  have h1 := far_high (F := 3 * (b + c) + 2) hd (In.le hb (show b ≤ b + c by omega)) (by omega) (by omega)
  have h2 := far_high (F := 3 * (b + c) + 2) he (In.le hc (show c ≤ b + c by omega)) (by omega) (by omega)
  rw [h, h, l2] at l1
  rw [h, h, h2] at h1
  have ea : d.add = e.add := by
    cases e1 : d.low with
    | none =>
      cases e2 : d.high with
      | none =>
        have := h 0
        rw [ap_nn d 0 e1 e2, ap_nn e 0 (l1.trans e1) (h1.trans e2)] at this
        omega
      | some k =>
        have := h (k - 1 - b - c)
        have q1 := hb.1; have q2 := hb.2.1; have q3 := hc.1; have q4 := hc.2.1
        rw [ap_ns d _ k e1 e2, ap_ns e _ k (l1.trans e1) (h1.trans e2), if_pos (by omega), if_pos (by omega)] at this
        omega
    | some l =>
      cases e2 : d.high with
      | none =>
        have := h (l + 1 + b + c)
        have q1 := hb.1; have q2 := hb.2.1; have q3 := hc.1; have q4 := hc.2.1
        rw [ap_sn d _ l e1 e2, ap_sn e _ l (l1.trans e1) (h1.trans e2), if_pos (by omega), if_pos (by omega)] at this
        omega
      | some k =>
        have o1 := hd l k e1 e2
        have o2 := he l k (l1.trans e1) (h1.trans e2)
        by_cases c1 : l = k
        · omega
        · have g1 := h (l - d.add)
          have g2 := h (l - d.add + 1)
          obtain ⟨C1, C2, C3⟩ := ap_cases e he (l - d.add)
          obtain ⟨D1, D2, D3⟩ := ap_cases e he (l - d.add + 1)
          rw [ap_low hd e1 (by omega)] at g1
          rw [(ap_cases d hd (l - d.add + 1)).2.2 (.inr ⟨l, e1, by omega⟩) (.inr ⟨k, e2, by omega⟩)] at g2
          have := C1 l (l1.trans e1); have := C2 k (h1.trans e2); have := D1 l (l1.trans e1); have := D2 k (h1.trans e2)
          by_cases c2 : l ≤ l - d.add + e.add
          · by_cases c3 : l - d.add + e.add ≤ k
            · have := C3 (.inr ⟨l, l1.trans e1, c2⟩) (.inr ⟨k, h1.trans e2, c3⟩); omega
            · omega
          · by_cases c3 : l ≤ l - d.add + 1 + e.add
            · have := D3 (.inr ⟨l, l1.trans e1, c3⟩) (.inr ⟨k, h1.trans e2, by omega⟩); omega
            · omega
  obtain ⟨a1, a2, a3⟩ := d
  obtain ⟨b1, b2, b3⟩ := e
  cases ea; cases l1; cases h1
  rfl
theorem beh_assoc {a b c : Dd} (ha : a.Ok) (hb : b.Ok) (hc : c.Ok) : beh (beh a b) c = beh a (beh b c) :=
  ap_ext (beh_ok (beh_ok ha hb) hc) (beh_ok ha (beh_ok hb hc)) fun v => by rw [beh_ap (beh_ok ha hb) hc, beh_ap ha hb, beh_ap ha (beh_ok hb hc), beh_ap hb hc]
theorem look_ap (v : Int) : look.ap v = v := by show v + 0 = v; omega
theorem beh_look {a : Dd} (ha : a.Ok) : beh a look = a := ap_ext (beh_ok ha look_ok) ha fun v => by rw [beh_ap ha look_ok, look_ap]
theorem look_beh {a : Dd} (ha : a.Ok) : beh look a = a := ap_ext (beh_ok look_ok ha) ha fun v => by rw [beh_ap look_ok ha, look_ap]
/-! ### a deed as data -/
def po : Option Int → PyData
  | none => .none
  | some i => .int i
def pd (d : Dd) : PyData := .tuple [.int d.add, po d.low, po d.high]
theorem po_dp {K : PySem.W.Frag} {H : Hp} (o : Option Int) : Dp K H (oV o) (po o) := by
  cases o with
  | none => exact .non
  | some i => exact .int i
theorem pd_dp {K : PySem.W.Frag} {H : Hp} {a : Addr} {d : Dd} (h : SqT K H a d.vs) : Dp K H (.ref a) (pd d) := .tup h (.cons (.int _) (.cons (po_dp _) (.cons (po_dp _) .nil)))
theorem pd_sh (d : Dd) : SeqAt.shaped (pd d) = true := by
  obtain ⟨a, l, h⟩ := d
  cases l <;> cases h <;> rfl
theorem pd_refl (d : Dd) : PyData.eqv (pd d) (pd d) = true := SeqAt.eqv_refl _ (SeqAt.canLay_of_shaped (pd_sh d))
/-- a new tuple with a deed -/
def NewD (H : Hp) (Q : VK) (d : Dd) : Prop := ∀ (a : Addr) (H' : Hp), Same H H' → H a = none → H' a = some (.tup d.vs) → Q (.ref a) H'
abbrev Fx : Int := 10 ^ Int.toNat 64 * 10 ^ Int.toNat 26
theorem Fx_eq : Fx = 10 ^ 90 := by decide
theorem take_snoc {α : Type} {l : List α} {i : Nat} {x : α} (h : l[i]? = some x) : l.take (i + 1) = l.take i ++ [x] := by rw [List.take_succ, h] <;> rfl
/-- a deed's tuple that was made here -/
def Da (H : Hp) (a : Addr) (d : Dd) : Prop := H a = some (.tup d.vs) ∧ d.In (10 ^ 80) ∧ d.Ok
theorem Da.arg {K : PySem.W.Frag} {H : Hp} {a : Addr} {d : Dd} (h : Da H a d) : DeedArg K H a d := ⟨.base (.tup h.1), SqT.of h.1, h.2.2⟩
theorem Da.same {H H' : Hp} {a : Addr} {d : Dd} (e : Same H H') (h : Da H a d) : Da H' a d := ⟨e _ _ h.1, h.2⟩
theorem Da.sq {K : PySem.W.Frag} {H : Hp} {a : Addr} {d : Dd} (h : Da H a d) : SqT K H a d.vs := SqT.of h.1
theorem Da.dp {K : PySem.W.Frag} {H : Hp} {a : Addr} {d : Dd} (h : Da H a d) : Dp K H (.ref a) (pd d) := pd_dp h.sq
theorem ne_pd {d : Dd} : (!PyData.eqv (pd d) (pd d)) = false := by rw [pd_refl] <;> rfl
theorem addT {x : Int} {k : Bool} {p : Prop} [Decidable p] (h : k = true ↔ ¬ p) : x * (if k = true then 1 else 0) = if p then 0 else x := by
  by_cases c : p
  · rw [if_pos c, if_neg (fun z => h.mp z c)]; exact Int.mul_zero _
  · rw [if_neg c, if_pos (h.mpr c)]; exact Int.mul_one _
/-! ### a deed so many times -/
def agL (d : Dd) (f : Int) : Option Int := match d.low with
  | none => none
  | some l => some (if f > 0 then (match d.high with | none => l + f | some h => if l + f < h then l + f else h) else l)
def agH (d : Dd) (f : Int) : Option Int := match d.high with
  | none => none
  | some h => some (if f < 0 then (match d.low with | none => h + f | some l => if h + f > l then h + f else l) else h)
theorem agL_n {d : Dd} {f : Int} (h : d.low = none) : agL d f = none := by unfold agL; rw [h] <;> rfl
theorem agL_z {d : Dd} {f l : Int} (h : d.low = some l) (c : ¬ f > 0) : agL d f = some l := by unfold agL; rw [h]; dsimp only; rw [if_neg c]
theorem agL_p {d : Dd} {f l : Int} (h : d.low = some l) (g : d.high = none) (c : f > 0) : agL d f = some (l + f) := by unfold agL; rw [h, g]; dsimp only; rw [if_pos c]
theorem agL_q {d : Dd} {f l k : Int} (h : d.low = some l) (g : d.high = some k) (c : f > 0) : agL d f = some (if l + f < k then l + f else k) := by unfold agL; rw [h, g]; dsimp only; rw [if_pos c]
theorem agH_n {d : Dd} {f : Int} (h : d.high = none) : agH d f = none := by unfold agH; rw [h] <;> rfl
theorem agH_z {d : Dd} {f l : Int} (h : d.high = some l) (c : ¬ f < 0) : agH d f = some l := by unfold agH; rw [h]; dsimp only; rw [if_neg c]
theorem agH_p {d : Dd} {f l : Int} (h : d.high = some l) (g : d.low = none) (c : f < 0) : agH d f = some (l + f) := by unfold agH; rw [h, g]; dsimp only; rw [if_pos c]
theorem agH_q {d : Dd} {f l k : Int} (h : d.high = some l) (g : d.low = some k) (c : f < 0) : agH d f = some (if l + f > k then l + f else k) := by unfold agH; rw [h, g]; dsimp only; rw [if_pos c]
def agn (d : Dd) (n : Int) : Dd := wholeD (n * d.add) (agL d ((n - 1) * d.add)) (agH d ((n - 1) * d.add))
def Sg (d : Dd) (f : Int) : Prop := (0 < d.add → 0 ≤ f) ∧ (d.add < 0 → f ≤ 0) ∧ (d.add = 0 → f = 0)
theorem sg_mul (d : Dd) {n : Int} (h : 0 ≤ n) : Sg d (n * d.add) := by
  refine ⟨fun a => Int.mul_nonneg h (by omega), fun a => ?_, fun a => by rw [a]; exact Int.mul_zero _⟩
  have := Int.mul_nonneg h (show 0 ≤ -d.add by omega)
  rw [Int.mul_neg] at this
  omega
theorem agL_next {d : Dd} (ok : d.Ok) {f : Int} (s : Sg d f) : endBeh d (agL d f) d.low = agL d (f + d.add) := by
  obtain ⟨s1, s2, s3⟩ := s
  cases e1 : d.low with
  | none => unfold agL; rw [e1] <;> rfl
  | some l =>
    unfold agL endBeh
    rw [e1]
    cases e2 : d.high with
    | none =>
      show some (d.ap (if f > 0 then l + f else l)) = some (if f + d.add > 0 then l + (f + d.add) else l)
      rw [ap_sn d _ l e1 e2]
      congr 1
      by_cases c : f > 0
      · rw [if_pos c]
        by_cases c2 : f + d.add > 0
        · rw [if_pos c2, if_pos (by omega)]; omega
        · omega
      · rw [if_neg c]
        by_cases c2 : f + d.add > 0
        · rw [if_pos c2, if_pos (by omega)]; omega
        · rw [if_neg c2, if_neg (by omega)]
    | some h =>
      have o := ok l h e1 e2
      show some (d.ap (if f > 0 then (if l + f < h then l + f else h) else l)) = some (if f + d.add > 0 then (if l + (f + d.add) < h then l + (f + d.add) else h) else l)
      rw [ap_ss d _ l h e1 e2]
      congr 1
      by_cases c : f > 0
      · rw [if_pos c, if_pos (show f + d.add > 0 by omega)]
        by_cases c2 : l + f < h
        · rw [if_pos c2, if_pos (show l + f + d.add > l by omega)]
          by_cases c3 : l + f + d.add < h
          · rw [if_pos c3, if_pos (by omega)]; omega
          · rw [if_neg c3, if_neg (by omega)]
        · rw [if_neg c2, if_neg (show ¬ l + (f + d.add) < h by omega)]
          by_cases c4 : h + d.add > l
          · rw [if_pos c4, if_neg (by omega)]
          · rw [if_neg c4]; split <;> omega
      · rw [if_neg c]
        by_cases c3 : f + d.add > 0
        · rw [if_pos c3, if_pos (show l + d.add > l by omega)]
          by_cases c2 : l + d.add < h
          · rw [if_pos c2, if_pos (by omega)]; omega
          · rw [if_neg c2, if_neg (by omega)]
        · rw [if_neg c3, if_neg (show ¬ l + d.add > l by omega)]
          split <;> omega
theorem agH_next {d : Dd} (ok : d.Ok) {f : Int} (s : Sg d f) : endBeh d (agH d f) d.high = agH d (f + d.add) := by
  obtain ⟨s1, s2, s3⟩ := s
  cases e2 : d.high with
  | none => unfold agH; rw [e2] <;> rfl
  | some h =>
    unfold agH endBeh
    rw [e2]
    cases e1 : d.low with
    | none =>
      show some (d.ap (if f < 0 then h + f else h)) = some (if f + d.add < 0 then h + (f + d.add) else h)
      rw [ap_ns d _ h e1 e2]
      congr 1
      by_cases c : f < 0
      · rw [if_pos c]
        by_cases c2 : f + d.add < 0
        · rw [if_pos c2, if_pos (by omega)]; omega
        · omega
      · rw [if_neg c]
        by_cases c2 : f + d.add < 0
        · rw [if_pos c2, if_pos (by omega)]; omega
        · rw [if_neg c2, if_neg (by omega)]
    | some l =>
      have o := ok l h e1 e2
      show some (d.ap (if f < 0 then (if h + f > l then h + f else l) else h)) = some (if f + d.add < 0 then (if h + (f + d.add) > l then h + (f + d.add) else l) else h)
      rw [ap_ss d _ l h e1 e2]
      congr 1
      by_cases c : f < 0
      · rw [if_pos c, if_pos (show f + d.add < 0 by omega)]
        by_cases c2 : h + f > l
        · rw [if_pos c2]
          by_cases c3 : h + f + d.add > l
          · rw [if_pos c3, if_pos (show h + f + d.add < h by omega), if_pos (by omega)]; omega
          · rw [if_neg c3, if_neg (show ¬ h + (f + d.add) > l by omega)]; split <;> omega
        · rw [if_neg c2, if_neg (show ¬ h + (f + d.add) > l by omega), if_neg (show ¬ l + d.add > l by omega)]
          split <;> omega
      · rw [if_neg c]
        by_cases c3 : f + d.add < 0
        · rw [if_pos c3]
          by_cases c2 : h + d.add > l
          · rw [if_pos c2, if_pos (by omega), if_pos (by omega)]; omega
          · rw [if_neg c2, if_neg (show ¬ h + (f + d.add) > l by omega)]; split <;> omega
        · rw [if_neg c3]
          by_cases c4 : h + d.add > l
          · rw [if_pos c4, if_neg (by omega)]
          · rw [if_neg c4]; split <;> omega
theorem agL_zero (d : Dd) : agL d 0 = d.low := by unfold agL; cases d.low <;> rfl
theorem agH_zero (d : Dd) : agH d 0 = d.high := by unfold agH; cases d.high <;> rfl
theorem wholeD_self {d : Dd} (ok : d.Ok) : wholeD d.add d.low d.high = d := by
  unfold wholeD
  by_cases c : d.low ≠ none ∧ d.low = d.high
  · rw [if_pos c]
    cases e : d.low with
    | none => exact absurd e c.1
    | some l =>
      have := ok l l e (c.2.symm.trans e)
      obtain ⟨a, x, y⟩ := d
      have h0 : a = 0 := by
        have : (⟨a, x, y⟩ : Dd).add = 0 := by omega
        exact this
      subst h0
      have e' : x = some l := e
      subst e'
      rfl
  · rw [if_neg c]
theorem agn_one {d : Dd} (ok : d.Ok) : agn d 1 = d := by
  unfold agn
  rw [show ((1 : Int) - 1) * d.add = 0 from Int.zero_mul _, agL_zero, agH_zero, Int.one_mul]
  exact wholeD_self ok
theorem wholeD_eq {a b : Int} {L H : Option Int} (h : ¬ (L ≠ none ∧ L = H) → a = b) : wholeD a L H = wholeD b L H := by
  unfold wholeD
  by_cases c : L ≠ none ∧ L = H
  · rw [if_pos c, if_pos c]
  · rw [if_neg c, if_neg c, h c]
theorem agn_succ {d : Dd} (ok : d.Ok) {n : Int} (h : 1 ≤ n) : agn d (n + 1) = beh (agn d n) d := by
  have s : Sg d ((n - 1) * d.add) := sg_mul d (by omega)
  have ef : (n + 1 - 1) * d.add = (n - 1) * d.add + d.add := by
    rw [Int.add_sub_cancel, Int.sub_mul, Int.one_mul]; omega
  unfold beh
  rw [show (agn d n).low = agL d ((n - 1) * d.add) from wholeD_low, show (agn d n).high = agH d ((n - 1) * d.add) from wholeD_high, agL_next ok s, agH_next ok s, ← ef]
  show wholeD ((n + 1) * d.add) _ _ = _
  refine wholeD_eq fun c => ?_
  have c2 : ¬ (agL d ((n - 1) * d.add) ≠ none ∧ agL d ((n - 1) * d.add) = agH d ((n - 1) * d.add)) := by
    rintro ⟨z1, z2⟩
    refine c ⟨?_, ?_⟩
    · rw [ef, ← agL_next ok s]
      cases e : agL d ((n - 1) * d.add) with
      | none => exact absurd e z1
      | some l => exact Option.some_ne_none _
    · rw [ef, ← agL_next ok s, ← agH_next ok s, ← z2]
      cases e : agL d ((n - 1) * d.add) with
      | none => exact absurd e z1
      | some l => rfl
  rw [show (agn d n).add = _ from wholeD_add, if_neg c2, Int.add_mul, Int.one_mul]
def pw (d : Dd) : Nat → Dd
  | 0 => look
  | n + 1 => beh (pw d n) d
theorem pw_ok {d : Dd} (ok : d.Ok) : ∀ n, (pw d n).Ok
  | 0 => look_ok
  | n + 1 => beh_ok (pw_ok ok n) ok
theorem pw_one {d : Dd} (ok : d.Ok) : pw d 1 = d := look_beh ok
theorem agn_pw {d : Dd} (ok : d.Ok) : ∀ n : Nat, agn d ((n : Int) + 1) = pw d (n + 1)
  | 0 => by rw [pw_one ok]; exact agn_one ok
  | n + 1 => by
    rw [show ((n + 1 : Nat) : Int) + 1 = ((n : Int) + 1) + 1 by omega, agn_succ ok (by omega), agn_pw ok n] <;> rfl
theorem pw_add {d : Dd} (ok : d.Ok) (m : Nat) : ∀ n, pw d (m + n) = beh (pw d m) (pw d n)
  | 0 => (beh_look (pw_ok ok m)).symm
  | n + 1 => by
    show beh (pw d (m + n)) d = beh (pw d m) (beh (pw d n) d)
    rw [pw_add ok m n, beh_assoc (pw_ok ok m) (pw_ok ok n) ok]
theorem pw_mul {d : Dd} (ok : d.Ok) (m : Nat) : ∀ n, pw (pw d m) n = pw d (m * n)
  | 0 => rfl
  | n + 1 => by
    show beh (pw (pw d m) n) (pw d m) = _
    rw [pw_mul ok m n, Nat.mul_succ, pw_add ok]
theorem pw_in {d : Dd} {b : Int} (i : d.In b) (h : 0 ≤ b) : ∀ n : Nat, (pw d n).In (n * b)
  | 0 => by
    refine look_in ?_
    show (0 : Int) ≤ (0 : Nat) * b
    rw [show ((0 : Nat) : Int) = 0 from rfl, Int.zero_mul]
    exact Int.le_refl 0
  | n + 1 => by
    have := beh_in (pw_in i h n) i (Int.mul_nonneg (by omega) h) h
    rw [show ((n + 1 : Nat) : Int) * b = b + n * b by rw [Int.natCast_add, Int.add_mul]; omega]
    exact this
/-! ### where two deeds part -/
theorem seg_right {d : Dd} (ok : d.Ok) {p v : Int} (hpv : p < v) (hl : ∀ l, d.low = some l → ¬ (p < l - d.add ∧ l - d.add < v)) (hh : ∀ l, d.high = some l → ¬ (p < l - d.add ∧ l - d.add < v)) :
    (d.ap (p + 1) = d.ap p ∧ d.ap v = d.ap p) ∨ (d.ap (p + 1) = d.ap p + 1 ∧ d.ap v = d.ap p + (v - p)) := by
  cases e1 : d.low with
  | none =>
    cases e2 : d.high with
    | none => right; rw [ap_nn d _ e1 e2, ap_nn d _ e1 e2, ap_nn d _ e1 e2]; omega
    | some h =>
      have := hh h e2
      rw [ap_ns d _ h e1 e2, ap_ns d _ h e1 e2, ap_ns d _ h e1 e2]
      by_cases c : p + d.add < h
      · right
        rw [if_pos c]
        constructor
        · split <;> omega
        · split <;> omega
      · left
        rw [if_neg c, if_neg (by omega), if_neg (by omega)]
        exact ⟨rfl, rfl⟩
  | some l =>
    have := hl l e1
    cases e2 : d.high with
    | none =>
      rw [ap_sn d _ l e1 e2, ap_sn d _ l e1 e2, ap_sn d _ l e1 e2]
      by_cases c : l ≤ p + d.add
      · right
        have e : (if p + d.add > l then p + d.add else l) = p + d.add := by split <;> omega
        rw [e, if_pos (by omega), if_pos (by omega)]
        omega
      · left
        rw [if_neg (show ¬ p + d.add > l by omega), if_neg (show ¬ p + 1 + d.add > l by omega), if_neg (show ¬ v + d.add > l by omega)]
        exact ⟨rfl, rfl⟩
    | some h =>
      have := hh h e2
      have o := ok l h e1 e2
      have A := ap_cases d ok p
      have B := ap_cases d ok (p + 1)
      have C := ap_cases d ok v
      have A1 := A.1 l e1; have A2 := A.2.1 h e2
      have B1 := B.1 l e1; have B2 := B.2.1 h e2
      have C1 := C.1 l e1; have C2 := C.2.1 h e2
      by_cases c : l ≤ p + d.add
      · have A3 := A.2.2 (.inr ⟨l, e1, c⟩)
        by_cases c2 : p + d.add < h
        · have A4 := A3 (.inr ⟨h, e2, by omega⟩)
          have B4 := B.2.2 (.inr ⟨l, e1, by omega⟩) (.inr ⟨h, e2, by omega⟩)
          have C4 := C.2.2 (.inr ⟨l, e1, by omega⟩) (.inr ⟨h, e2, by omega⟩)
          right; omega
        · left; omega
      · left; omega
theorem seg_left {d : Dd} (ok : d.Ok) {p v : Int} (hpv : v < p) (hl : ∀ l, d.low = some l → ¬ (v < l - d.add ∧ l - d.add < p)) (hh : ∀ l, d.high = some l → ¬ (v < l - d.add ∧ l - d.add < p)) :
    (d.ap (p - 1) = d.ap p ∧ d.ap v = d.ap p) ∨ (d.ap (p - 1) = d.ap p - 1 ∧ d.ap v = d.ap p - (p - v)) := by
  cases e1 : d.low with
  | none =>
    cases e2 : d.high with
    | none => right; rw [ap_nn d _ e1 e2, ap_nn d _ e1 e2, ap_nn d _ e1 e2]; omega
    | some h =>
      have := hh h e2
      rw [ap_ns d _ h e1 e2, ap_ns d _ h e1 e2, ap_ns d _ h e1 e2]
      by_cases c : p + d.add ≤ h
      · right
        have e : (if p + d.add < h then p + d.add else h) = p + d.add := by split <;> omega
        rw [e, if_pos (by omega), if_pos (by omega)]
        omega
      · left
        rw [if_neg (show ¬ p + d.add < h by omega), if_neg (show ¬ p - 1 + d.add < h by omega), if_neg (show ¬ v + d.add < h by omega)]
        exact ⟨rfl, rfl⟩
  | some l =>
    have := hl l e1
    cases e2 : d.high with
    | none =>
      rw [ap_sn d _ l e1 e2, ap_sn d _ l e1 e2, ap_sn d _ l e1 e2]
      by_cases c : p + d.add > l
      · right
        rw [if_pos c]
        constructor
        · split <;> omega
        · split <;> omega
      · left
        rw [if_neg c, if_neg (by omega), if_neg (by omega)]
        exact ⟨rfl, rfl⟩
    | some h =>
      have := hh h e2
      have o := ok l h e1 e2
      have A := ap_cases d ok p
      have B := ap_cases d ok (p - 1)
      have C := ap_cases d ok v
      have A1 := A.1 l e1; have A2 := A.2.1 h e2
      have B1 := B.1 l e1; have B2 := B.2.1 h e2
      have C1 := C.1 l e1; have C2 := C.2.1 h e2
      by_cases c : p + d.add ≤ h
      · by_cases c2 : l < p + d.add
        · have A4 := A.2.2 (.inr ⟨l, e1, by omega⟩) (.inr ⟨h, e2, by omega⟩)
          have B4 := B.2.2 (.inr ⟨l, e1, by omega⟩) (.inr ⟨h, e2, by omega⟩)
          have C4 := C.2.2 (.inr ⟨l, e1, by omega⟩) (.inr ⟨h, e2, by omega⟩)
          right; omega
        · left; omega
      · left; omega
theorem greatest : ∀ (L : List Int) (v : Int), (∃ p, p ∈ L ∧ p ≤ v ∧ ∀ q ∈ L, q ≤ v → q ≤ p) ∨ ∀ q ∈ L, v < q
  | [], _ => .inr fun _ h => nomatch h
  | x :: r, v => by
    rcases greatest r v with ⟨p, h1, h2, h3⟩ | h
    · left
      by_cases c : x ≤ v ∧ p < x
      · exact ⟨x, List.mem_cons_self, c.1, fun q hq hv => by rcases List.mem_cons.mp hq with rfl | hq; exact Int.le_refl _; have := h3 q hq hv; omega⟩
      · exact ⟨p, List.mem_cons_of_mem _ h1, h2, fun q hq hv => by rcases List.mem_cons.mp hq with rfl | hq; omega; exact h3 q hq hv⟩
    · by_cases c : x ≤ v
      · exact .inl ⟨x, List.mem_cons_self, c, fun q hq hv => by rcases List.mem_cons.mp hq with rfl | hq; exact Int.le_refl _; have := h q hq; omega⟩
      · exact .inr fun q hq => by rcases List.mem_cons.mp hq with rfl | hq; omega; exact h q hq
theorem least : ∀ (L : List Int), L = [] ∨ ∃ p, p ∈ L ∧ ∀ q ∈ L, p ≤ q
  | [] => .inl rfl
  | x :: r => by
    right
    rcases least r with rfl | ⟨p, h1, h2⟩
    · exact ⟨x, List.mem_cons_self, fun q hq => by rcases List.mem_cons.mp hq with rfl | hq; exact Int.le_refl _; exact nomatch hq⟩
    · by_cases c : x ≤ p
      · exact ⟨x, List.mem_cons_self, fun q hq => by rcases List.mem_cons.mp hq with rfl | hq; exact Int.le_refl _; have := h2 q hq; omega⟩
      · exact ⟨p, List.mem_cons_of_mem _ h1, fun q hq => by rcases List.mem_cons.mp hq with rfl | hq; omega; exact h2 q hq⟩
def brkO (add : Int) : Option Int → List Int
  | none => []
  | some l => [l - add]
def brk (d : Dd) : List Int := brkO d.add d.low ++ brkO d.add d.high
theorem brk_low {d : Dd} {l : Int} (h : d.low = some l) : l - d.add ∈ brk d := by unfold brk; rw [h]; exact List.mem_append_left _ List.mem_cons_self
theorem brk_high {d : Dd} {l : Int} (h : d.high = some l) : l - d.add ∈ brk d := by unfold brk; rw [h]; exact List.mem_append_right _ List.mem_cons_self
theorem brk_agree {d e : Dd} (od : d.Ok) (oe : e.Ok) (h0 : d.ap 0 = e.ap 0) (h : ∀ p ∈ brk d ++ brk e, d.ap (p - 1) = e.ap (p - 1) ∧ d.ap p = e.ap p ∧ d.ap (p + 1) = e.ap (p + 1)) : d = e := by
  refine ap_ext od oe fun v => ?_
  rcases greatest (brk d ++ brk e) v with ⟨p, h1, h2, h3⟩ | h3
  · obtain ⟨g1, g2, g3⟩ := h p h1
    by_cases c : p = v
    · rw [← c]; exact g2
    · have R1 := seg_right od (show p < v by omega) (fun l hl z => by have := h3 _ (List.mem_append_left _ (brk_low hl)); omega) (fun l hl z => by have := h3 _ (List.mem_append_left _ (brk_high hl)); omega)
      have R2 := seg_right oe (show p < v by omega) (fun l hl z => by have := h3 _ (List.mem_append_right _ (brk_low hl)); omega) (fun l hl z => by have := h3 _ (List.mem_append_right _ (brk_high hl)); omega)
      omega
  · rcases least (brk d ++ brk e) with e0 | ⟨p, h1, h2⟩
    · have n1 : d.low = none := by cases q : d.low with | none => rfl | some l => have := List.mem_append_left (brk e) (brk_low q); rw [e0] at this; cases this
      have n2 : d.high = none := by cases q : d.high with | none => rfl | some l => have := List.mem_append_left (brk e) (brk_high q); rw [e0] at this; cases this
      have n3 : e.low = none := by cases q : e.low with | none => rfl | some l => have := List.mem_append_right (brk d) (brk_low q); rw [e0] at this; cases this
      have n4 : e.high = none := by cases q : e.high with | none => rfl | some l => have := List.mem_append_right (brk d) (brk_high q); rw [e0] at this; cases this
      rw [ap_nn d _ n1 n2, ap_nn e _ n3 n4] at h0 ⊢
      omega
    · obtain ⟨g1, g2, g3⟩ := h p h1
      have c := h3 p h1
      have R1 := seg_left od c (fun l hl z => by have := h2 _ (List.mem_append_left _ (brk_low hl)); omega) (fun l hl z => by have := h2 _ (List.mem_append_left _ (brk_high hl)); omega)
      have R2 := seg_left oe c (fun l hl z => by have := h2 _ (List.mem_append_right _ (brk_low hl)); omega) (fun l hl z => by have := h2 _ (List.mem_append_right _ (brk_high hl)); omega)
      omega
def cornO (add : Int) (o : Option Int) : List Int := match o with
  | none => []
  | some l => [l - add - 1, l - add, l - add + 1]
def corn (d : Dd) : List Int := cornO d.add d.low ++ cornO d.add d.high
theorem corn_of {d : Dd} {p : Int} (h : p ∈ brk d) : p - 1 ∈ corn d ∧ p ∈ corn d ∧ p + 1 ∈ corn d := by
  have key : ∀ o : Option Int, p ∈ brkO d.add o → p - 1 ∈ cornO d.add o ∧ p ∈ cornO d.add o ∧ p + 1 ∈ cornO d.add o := by
    intro o ho
    cases o with
    | none => cases ho
    | some l =>
      have e : p = l - d.add := by simpa [brkO] using ho
      subst e
      simp [cornO]
  rcases List.mem_append.mp h with h | h
  · obtain ⟨a, b, c⟩ := key _ h
    exact ⟨List.mem_append_left _ a, List.mem_append_left _ b, List.mem_append_left _ c⟩
  · obtain ⟨a, b, c⟩ := key _ h
    exact ⟨List.mem_append_right _ a, List.mem_append_right _ b, List.mem_append_right _ c⟩
theorem corn_agree {d e : Dd} (od : d.Ok) (oe : e.Ok) (h : ∀ v ∈ [0] ++ corn d ++ corn e, d.ap v = e.ap v) : d = e := by
  refine brk_agree od oe (h 0 (by simp)) fun p hp => ?_
  rcases List.mem_append.mp hp with hp | hp
  · obtain ⟨a, b, c⟩ := corn_of hp
    exact ⟨h _ (by simp [a]), h _ (by simp [b]), h _ (by simp [c])⟩
  · obtain ⟨a, b, c⟩ := corn_of hp
    exact ⟨h _ (by simp [a]), h _ (by simp [b]), h _ (by simp [c])⟩
theorem corn_len (d : Dd) : (corn d).length ≤ 6 := by
  unfold corn
  rw [List.length_append]
  have c3 : ∀ o : Option Int, (cornO d.add o).length ≤ 3 := fun o => by cases o <;> simp [cornO]
  have := c3 d.low; have := c3 d.high; omega
def Dq (K : PySem.W.Frag) (H : Hp) (a : Addr) (d : Dd) : Prop := TupAt K H a d.vs ∧ d.Ok
theorem Dq.arg {K : PySem.W.Frag} {H : Hp} {a : Addr} {d : Dd} (h : Dq K H a d) : DeedArg K H a d := ⟨h.1.ty, h.1.sq, h.2⟩
theorem Dq.same {K : PySem.W.Frag} {H H' : Hp} {a : Addr} {d : Dd} (e : Same H H') (h : Dq K H a d) : Dq K H' a d := ⟨h.1.same e, h.2⟩
theorem Dq.dp {K : PySem.W.Frag} {H : Hp} {a : Addr} {d : Dd} (h : Dq K H a d) : Dp K H (.ref a) (pd d) := pd_dp h.1.sq
theorem pw_in' {d : Dd} {b c : Int} (i : d.In b) (h : 0 ≤ b) {n m : Nat} (e : n ≤ m) (h2 : (m : Int) * b ≤ c) : (pw d n).In c := by
  refine In.le (pw_in i h n) (Int.le_trans (Int.mul_le_mul_of_nonneg_right (by omega) h) h2)
/-! ### spans -/
abbrev Span := Option (Option Int × Option Int)
def inL (o : Option Int) (v : Int) : Bool := match o with | none => true | some x => decide (x ≤ v)
def inH (o : Option Int) (v : Int) : Bool := match o with | none => true | some x => decide (v ≤ x)
def inS (s : Span) (v : Int) : Bool := match s with
  | none => false
  | some (l, h) => inL l v && inH h v
def SpOk (s : Span) : Prop := ∀ l h, s = some (some l, some h) → l ≤ h
def SpIn (b : Int) (s : Span) : Prop := ∀ l h, s = some (l, h) → (∀ x, l = some x → -b ≤ x ∧ x ≤ b) ∧ ∀ x, h = some x → -b ≤ x ∧ x ≤ b
def staysD (d : Dd) : Span := if d.add = 0 then some (d.low, d.high) else match (if d.add > 0 then d.high else d.low) with | none => none | some e => some (some e, some e)
theorem ap_eq {d : Dd} (ok : d.Ok) (v g : Int) : d.ap v = g ↔ ((∀ l, d.low = some l → l ≤ g ∧ (v + d.add ≤ l → g = l)) ∧ (∀ h, d.high = some h → g ≤ h ∧ (h ≤ v + d.add → g = h)) ∧
    ((d.low = none ∨ ∃ l, d.low = some l ∧ l ≤ v + d.add) → (d.high = none ∨ ∃ h, d.high = some h ∧ v + d.add ≤ h) → g = v + d.add)) := by
  constructor
  · rintro rfl; exact ap_cases d ok v
  · intro h
    have c := ap_cases d ok v
    cases e1 : d.low with
    | none =>
      cases e2 : d.high with
      | none => rw [c.2.2 (.inl e1) (.inl e2), h.2.2 (.inl e1) (.inl e2)]
      | some k =>
        by_cases q : v + d.add ≤ k
        · rw [c.2.2 (.inl e1) (.inr ⟨k, e2, q⟩), h.2.2 (.inl e1) (.inr ⟨k, e2, q⟩)]
        · rw [(c.2.1 k e2).2 (by omega), (h.2.1 k e2).2 (by omega)]
    | some l =>
      by_cases q1 : v + d.add ≤ l
      · rw [(c.1 l e1).2 q1, (h.1 l e1).2 q1]
      · cases e2 : d.high with
        | none => rw [c.2.2 (.inr ⟨l, e1, by omega⟩) (.inl e2), h.2.2 (.inr ⟨l, e1, by omega⟩) (.inl e2)]
        | some k =>
          by_cases q : v + d.add ≤ k
          · rw [c.2.2 (.inr ⟨l, e1, by omega⟩) (.inr ⟨k, e2, q⟩), h.2.2 (.inr ⟨l, e1, by omega⟩) (.inr ⟨k, e2, q⟩)]
          · rw [(c.2.1 k e2).2 (by omega), (h.2.1 k e2).2 (by omega)]
theorem inS_iff {l h : Option Int} {v : Int} : inS (some (l, h)) v = true ↔ (∀ x, l = some x → x ≤ v) ∧ ∀ x, h = some x → v ≤ x := by
  cases l <;> cases h <;> simp [inS, inL, inH]
theorem stays_in {d : Dd} (ok : d.Ok) (v : Int) : inS (staysD d) v = true ↔ d.ap v = v := by
  obtain ⟨c1, c2, c3⟩ := ap_cases d ok v
  unfold staysD
  by_cases h0 : d.add = 0
  · rw [if_pos h0, inS_iff]
    constructor
    · rintro ⟨h1, h2⟩
      have := c3 (by cases e : d.low with | none => exact .inl rfl | some l => exact .inr ⟨l, rfl, by have := h1 l e; omega⟩) (by cases e : d.high with | none => exact .inl rfl | some l => exact .inr ⟨l, rfl, by have := h2 l e; omega⟩)
      omega
    · intro h
      rw [h] at c1 c2
      exact ⟨fun x hx => (c1 x hx).1, fun x hx => (c2 x hx).1⟩
  · rw [if_neg h0]
    by_cases h1 : d.add > 0
    · rw [if_pos h1]
      cases e : d.high with
      | none =>
        dsimp only
        refine ⟨fun z => (nomatch z), fun h => ?_⟩
        exfalso
        cases e1 : d.low with
        | none => have := c3 (.inl e1) (.inl e); omega
        | some l =>
          have := c1 l e1
          by_cases q : l ≤ v + d.add
          · have := c3 (.inr ⟨l, e1, q⟩) (.inl e); omega
          · omega
      | some k =>
        dsimp only
        rw [inS_iff]
        have a := c2 k e
        constructor
        · rintro ⟨g1, g2⟩
          have := g1 k rfl; have := g2 k rfl
          have := a.2 (by omega); omega
        · intro h
          have : v = k := by
            by_cases q : k ≤ v + d.add
            · have := a.2 q; omega
            · exfalso
              cases e1 : d.low with
              | none => have := c3 (.inl e1) (.inr ⟨k, e, by omega⟩); omega
              | some l =>
                have := c1 l e1
                by_cases q2 : l ≤ v + d.add
                · have := c3 (.inr ⟨l, e1, q2⟩) (.inr ⟨k, e, by omega⟩); omega
                · omega
          exact ⟨fun x hx => by cases hx; omega, fun x hx => by cases hx; omega⟩
    · rw [if_neg h1]
      cases e : d.low with
      | none =>
        dsimp only
        refine ⟨fun z => (nomatch z), fun h => ?_⟩
        exfalso
        cases e1 : d.high with
        | none => have := c3 (.inl e) (.inl e1); omega
        | some l =>
          have := c2 l e1
          by_cases q : v + d.add ≤ l
          · have := c3 (.inl e) (.inr ⟨l, e1, q⟩); omega
          · omega
      | some k =>
        dsimp only
        rw [inS_iff]
        have a := c1 k e
        constructor
        · rintro ⟨g1, g2⟩
          have := g1 k rfl; have := g2 k rfl
          have := a.2 (by omega); omega
        · intro h
          have : v = k := by
            by_cases q : v + d.add ≤ k
            · have := a.2 q; omega
            · exfalso
              cases e1 : d.high with
              | none => have := c3 (.inr ⟨k, e, by omega⟩) (.inl e1); omega
              | some l =>
                have := c2 l e1
                by_cases q2 : v + d.add ≤ l
                · have := c3 (.inr ⟨k, e, by omega⟩) (.inr ⟨l, e1, q2⟩); omega
                · omega
          exact ⟨fun x hx => by cases hx; omega, fun x hx => by cases hx; omega⟩
theorem stays_ok {d : Dd} (ok : d.Ok) : SpOk (staysD d) := by
  intro l h e
  unfold staysD at e
  by_cases h0 : d.add = 0
  · rw [if_pos h0] at e
    have e' := Option.some.inj e
    have := ok l h (Prod.mk.inj e').1 (Prod.mk.inj e').2
    omega
  · rw [if_neg h0] at e
    cases q : (if d.add > 0 then d.high else d.low) with
    | none => rw [q] at e; cases e
    | some x => rw [q] at e; cases e; exact Int.le_refl _
theorem stays_bd {d : Dd} {b : Int} (i : d.In b) : SpIn b (staysD d) := by
  intro l h e
  unfold staysD at e
  by_cases h0 : d.add = 0
  · rw [if_pos h0] at e
    cases e
    exact ⟨i.2.2.1, i.2.2.2⟩
  · rw [if_neg h0] at e
    cases q : (if d.add > 0 then d.high else d.low) with
    | none => rw [q] at e; cases e
    | some x =>
      rw [q] at e; cases e
      have : -b ≤ x ∧ x ≤ b := by
        split at q
        · exact i.2.2.2 x q
        · exact i.2.2.1 x q
      exact ⟨in_some this.1 this.2, in_some this.1 this.2⟩
def beyL (o : Option Int) (g : Int) : Bool := match o with | none => false | some l => decide (g < l)
def beyH (o : Option Int) (g : Int) : Bool := match o with | none => false | some l => decide (g > l)
def beyond (d : Dd) (g : Int) : Bool := beyL d.low g || beyH d.high g
def leadsD (d : Dd) (g : Int) : Span := if beyond d g = true then none else some (if some g = d.low then none else some (g - d.add), if some g = d.high then none else some (g - d.add))
theorem beyond_f {d : Dd} {g : Int} (h : ¬ beyond d g = true) : (∀ l, d.low = some l → l ≤ g) ∧ ∀ l, d.high = some l → g ≤ l := by
  unfold beyond at h
  constructor
  · intro l e; rw [e] at h; simp [beyL, beyH] at h; omega
  · intro l e; rw [e] at h; simp [beyL, beyH] at h; omega
theorem leads_in {d : Dd} (ok : d.Ok) (g v : Int) : inS (leadsD d g) v = true ↔ d.ap v = g := by
  obtain ⟨c1, c2, c3⟩ := ap_cases d ok v
  unfold leadsD
  by_cases hb : beyond d g = true
  · rw [if_pos hb]
    refine ⟨fun z => (nomatch z), fun h => ?_⟩
    exfalso
    unfold beyond at hb
    cases e1 : d.low with
    | none =>
      cases e2 : d.high with
      | none => rw [e1, e2] at hb; simp [beyL, beyH] at hb
      | some k => rw [e1, e2] at hb; have := c2 k e2; simp [beyL, beyH] at hb; omega
    | some l =>
      have := c1 l e1
      cases e2 : d.high with
      | none => rw [e1, e2] at hb; simp [beyL, beyH] at hb; omega
      | some k => rw [e1, e2] at hb; have := c2 k e2; simp [beyL, beyH] at hb; omega
  · rw [if_neg hb, inS_iff]
    obtain ⟨b1, b2⟩ := beyond_f hb
    constructor
    · rintro ⟨h1, h2⟩
      rw [ap_eq ok]
      refine ⟨fun l e => ⟨b1 l e, fun q => ?_⟩, fun l e => ⟨b2 l e, fun q => ?_⟩, fun q1 q2 => ?_⟩
      · by_cases x : some g = d.low
        · rw [e] at x; exact Option.some.inj x
        · rw [if_neg x] at h1
          have := h1 _ rfl; have := b1 l e; omega
      · by_cases x : some g = d.high
        · rw [e] at x; exact Option.some.inj x
        · rw [if_neg x] at h2
          have := h2 _ rfl; have := b2 l e; omega
      · by_cases x : some g = d.low
        · rcases q1 with q1 | ⟨l, q1, q3⟩
          · rw [q1] at x; cases x
          · rw [q1] at x; cases x
            by_cases y : some g = d.high
            · rcases q2 with q2 | ⟨k, q2, q4⟩
              · rw [q2] at y; cases y
              · rw [q2] at y; cases y; omega
            · rw [if_neg y] at h2
              have := h2 _ rfl; omega
        · rw [if_neg x] at h1
          have := h1 _ rfl
          by_cases y : some g = d.high
          · rcases q2 with q2 | ⟨k, q2, q4⟩
            · rw [q2] at y; cases y
            · rw [q2] at y; cases y; omega
          · rw [if_neg y] at h2
            have := h2 _ rfl; omega
    · intro h
      subst h
      refine ⟨fun x hx => ?_, fun x hx => ?_⟩
      · by_cases y : some (d.ap v) = d.low
        · rw [if_pos y] at hx; cases hx
        · rw [if_neg y] at hx
          cases hx
          cases e1 : d.low with
          | none =>
            cases e2 : d.high with
            | none => have := c3 (.inl e1) (.inl e2); omega
            | some k =>
              by_cases q : k ≤ v + d.add
              · have := (c2 k e2).2 q; omega
              · have := c3 (.inl e1) (.inr ⟨k, e2, by omega⟩); omega
          | some l =>
            have q0 := c1 l e1
            by_cases q : v + d.add ≤ l
            · have := q0.2 q; exact absurd (by rw [e1, this]) y
            · cases e2 : d.high with
              | none => have := c3 (.inr ⟨l, e1, by omega⟩) (.inl e2); omega
              | some k =>
                by_cases q2 : k ≤ v + d.add
                · have := (c2 k e2).2 q2; omega
                · have := c3 (.inr ⟨l, e1, by omega⟩) (.inr ⟨k, e2, by omega⟩); omega
      · by_cases y : some (d.ap v) = d.high
        · rw [if_pos y] at hx; cases hx
        · rw [if_neg y] at hx
          cases hx
          cases e1 : d.high with
          | none =>
            cases e2 : d.low with
            | none => have := c3 (.inl e2) (.inl e1); omega
            | some k =>
              by_cases q : v + d.add ≤ k
              · have := (c1 k e2).2 q; omega
              · have := c3 (.inr ⟨k, e2, by omega⟩) (.inl e1); omega
          | some l =>
            have q0 := c2 l e1
            by_cases q : l ≤ v + d.add
            · have := q0.2 q; exact absurd (by rw [e1, this]) y
            · cases e2 : d.low with
              | none => have := c3 (.inl e2) (.inr ⟨l, e1, by omega⟩); omega
              | some k =>
                by_cases q2 : v + d.add ≤ k
                · have := (c1 k e2).2 q2; omega
                · have := c3 (.inr ⟨k, e2, by omega⟩) (.inr ⟨l, e1, by omega⟩); omega
theorem leads_ok {d : Dd} {g : Int} : SpOk (leadsD d g) := by
  intro l h e
  unfold leadsD at e
  by_cases hb : beyond d g = true
  · rw [if_pos hb] at e; cases e
  · rw [if_neg hb] at e
    have e' := Option.some.inj e
    have e1 := (Prod.mk.inj e').1
    have e2 := (Prod.mk.inj e').2
    split at e1
    · cases e1
    · split at e2
      · cases e2
      · cases e1; cases e2; exact Int.le_refl _
theorem leads_bd {d : Dd} {g b c : Int} (i : d.In b) (h1 : -c ≤ g) (h2 : g ≤ c) : SpIn (b + c) (leadsD d g) := by
  intro l h e
  unfold leadsD at e
  have := i.1; have := i.2.1
  by_cases hb : beyond d g = true
  · rw [if_pos hb] at e; cases e
  · rw [if_neg hb] at e
    have e' := Option.some.inj e
    have e1 := (Prod.mk.inj e').1
    have e2 := (Prod.mk.inj e').2
    subst e1 e2
    constructor
    · intro x hx
      split at hx
      · cases hx
      · cases hx; omega
    · intro x hx
      split at hx
      · cases hx
      · cases hx; omega
/-- a span as a value -/
def SpV (H : Hp) (v : V) (s : Span) : Prop := match s with
  | none => v = .non
  | some (l, h) => ∃ a, v = .ref a ∧ H a = some (.tup [oV l, oV h])
theorem SpV.same {H H' : Hp} {v : V} {s : Span} (e : Same H H') (h : SpV H v s) : SpV H' v s := by
  cases s with
  | none => exact h
  | some p => obtain ⟨a, h1, h2⟩ := h; exact ⟨a, h1, e _ _ h2⟩
def pS (s : Span) : PyData := match s with
  | none => .none
  | some (l, h) => .tuple [po l, po h]
theorem SpV.dp {K : PySem.W.Frag} {H : Hp} {v : V} {s : Span} (h : SpV H v s) : Dp K H v (pS s) := by
  cases s with
  | none => cases (show v = .non from h); exact .non
  | some p => obtain ⟨a, rfl, h2⟩ := h; exact .tup (SqT.of h2) (.cons (po_dp _) (.cons (po_dp _) .nil))
theorem fit_log {x b : Int} (h : -b ≤ x ∧ x ≤ b) (hb : b ≤ 10 ^ 500) : x.natAbs.log2 < 1920 := by
  refine log_lt (by decide) (Nat.lt_of_le_of_lt (m := 10 ^ 500) (by omega) (by decide))
theorem po_show {o : Option Int} {b : Int} (h : ∀ x, o = some x → -b ≤ x ∧ x ≤ b) (hb : b ≤ 10 ^ 500) : (po o).showable = true := by
  cases o with
  | none => rfl
  | some x => simp only [po, PyData.showable]; exact decide_eq_true (fit_log (h x rfl) hb)
theorem pS_show {s : Span} {b : Int} (h : SpIn b s) (hb : b ≤ 10 ^ 500) : (pS s).showable = true := by
  cases s with
  | none => rfl
  | some p =>
    obtain ⟨l, k⟩ := p
    simp only [pS, PyData.showable, PyData.showableAll, po_show (h l k rfl).1 hb, po_show (h l k rfl).2 hb, Bool.and_true]
theorem pS_rest (s : Span) : (pS s).depth ≤ 60 ∧ (pS s).hasDict = false ∧ cst (pS s) ≤ 10000000 := by
  cases s with
  | none => decide
  | some p => obtain ⟨l, k⟩ := p; cases l <;> cases k <;> simp [pS, po, PyData.depth, PyData.depthAll, PyData.hasDict, PyData.hasDictAll, cst, csts]
def NewS (H : Hp) (Q : VK) (s : Span) : Prop := ∀ (v : V) (H' : Hp), Same H H' → SpV H' v s → Q v H'
/-- the ends of a span that is walked: of none there are none -/
def spL (s : Span) : List V := match s with
  | none => []
  | some (l, h) => [oV l, oV h]
theorem spL_at {s : Span} {i : Nat} {y : V} (h : (spL s)[i]? = some y) : i < 2 ∧ ∃ o : Option Int, y = oV o ∧ ∃ l k, s = some (l, k) ∧ (o = l ∨ o = k) := by
  cases s with
  | none => simp [spL] at h
  | some p =>
    obtain ⟨l, k⟩ := p
    match i, h with
    | 0, h => exact ⟨by omega, l, (Option.some.inj h).symm, l, k, rfl, .inl rfl⟩
    | 1, h => exact ⟨by omega, k, (Option.some.inj h).symm, l, k, rfl, .inr rfl⟩
    | n + 2, h => simp [spL] at h
theorem or_span {K : PySem.W.Frag} {σ : L2.St} {H : Hp} {i : Nat} {v : V} {s : Span} {R : V → Hp → Prop} (h : σ[i]? = some (some v)) (hv : SpV H v s) (q : ∀ a H', Same H H' → H' a = some (.tup (spL s)) → R (.ref a) H') : tOrT K (tVar i) (tTup tNil) σ H R := by
  cases s with
  | none =>
    cases (show v = .non from hv)
    exact ⟨_, h, false, rfl, iteF ⟨sz, fun p hp => q p _ (same_new hp _) upd_same⟩⟩
  | some p =>
    obtain ⟨l, k⟩ := p
    obtain ⟨a, rfl, ha⟩ := hv
    exact ⟨_, h, true, .inr (.inl ⟨_, SqT.of ha, rfl⟩), iteT (q a H (Same.refl H) ha)⟩
theorem inS_end {s : Span} (ok : SpOk s) {l k o : Option Int} {x : Int} (e : s = some (l, k)) (h : o = l ∨ o = k) (ho : o = some x) : inS s x = true := by
  subst e
  rw [inS_iff]
  rcases h with rfl | rfl
  · subst ho
    exact ⟨fun y hy => by cases hy; exact Int.le_refl _, fun y hy => ok x y (by rw [hy])⟩
  · subst ho
    exact ⟨fun y hy => ok y x (by rw [hy]), fun y hy => by cases hy; exact Int.le_refl _⟩
theorem rep_len {n : Nat} : ((List.replicate n true).map V.bl).length = n := by rw [List.length_map, List.length_replicate]
theorem rep_snoc {n : Nat} : (List.replicate n true).map V.bl ++ [V.bl true] = (List.replicate (n + 1) true).map V.bl := by rw [List.replicate_succ', List.map_append] <;> rfl
theorem rep_all (n : Nat) : (List.replicate n true).all id = true := by rw [List.all_eq_true]; intro x hx; rw [List.mem_replicate] at hx; exact hx.2
theorem bool_eq_dec {b : Bool} {p : Prop} [Decidable p] (h : b = true ↔ p) : b = decide p := by
  by_cases c : p
  · rw [decide_eq_true c, h.mpr c]
  · rw [decide_eq_false c]; exact Bool.eq_false_iff.mpr fun z => c (h.mp z)
section
variable {P : Program} {w : World} {K : PySem.W.Frag} {mg : Str → Option Value} {base : Heap} (B : Bl K mg)
include B
/-! ### the program -/
def spIsWhole : Sp := fun vs H Q _ => ∃ i, vs = [.int i] ∧ Q (.bl true) H
theorem k_is_whole (D : Df K mg "is_whole" s_is_whole ["thing"]) : Dn P w K mg base 1 "is_whole" ["thing"] spIsWhole := by
  refine D.ok fun f fd F => okG0 F sc_is_whole (fun vs H Q E h => ?_) (fun cdv A outer s H vs Q E hr h => ⟨_, (pss_one (ps_ret (pe_and (pe_callB (kk (K := K) (F := rIsi) (P := CallR _ _) call_isi) (by rfl) B.isinstance_ (by decide +kernel) (pa_cons (pv 0) (pa_cons (pe_bltn (v := .ty "int") (u := .type "int") (by rfl) B.int_ (by decide +kernel) rfl) pa_nil))) (pe_one (pe_not (pe_callB (kk (K := K) (F := rIsi) (P := CallR _ _) call_isi) (by rfl) B.isinstance_ (by decide +kernel) (pa_cons (pv 0) (pa_cons (pe_bltn (v := .ty "bool") (u := .type "bool") (by rfl) B.bool_ (by decide +kernel) rfl) pa_nil)))))))), ?_⟩)
  · obtain ⟨i, rfl, _⟩ := h; rfl
  · obtain ⟨i, rfl, q⟩ := h
    refine ⟨_, rfl, _, _, _, _, _, rfl, .ty _, .base (.int _), kit_ty (b := "int") (r := true) (by decide +kernel), _, rfl, iteT ?_⟩
    refine ⟨_, rfl, _, _, _, _, _, rfl, .ty _, .base (.int _), kit_ty (b := "bool") (r := false) (by decide +kernel), _, rfl, ?_⟩
    exact q
def spIsRow (K : PySem.W.Frag) : Sp := fun vs H Q _ => ∃ (a : Addr) (xs : List V) (n : Int), vs = [.ref a, .int n] ∧ TyX K H (.ref a) (.type "tuple") ∧ SqT K H a xs ∧ Q (.bl (decide (V.int (xs.length : Int) = V.int n))) H
theorem k_is_row_of (D : Df K mg "is_row_of" s_is_row_of ["thing", "many"]) : Dn P w K mg base 1 "is_row_of" ["thing", "many"] (spIsRow K) := by
  refine D.ok fun f fd F => okG0 F sc_is_row_of (fun vs H Q E h => ?_) (fun cdv A outer s H vs Q E hr h => ⟨_, (pss_one (ps_ret (pe_and (pe_callB (kk (K := K) (F := rIsi) (P := CallR _ _) call_isi) (by rfl) B.isinstance_ (by decide +kernel) (pa_cons (pv 0) (pa_cons (pe_bltn (v := .ty "tuple") (u := .type "tuple") (by rfl) B.tuple_ (by decide +kernel) rfl) pa_nil))) (pe_one (pe_cmpR op_eq (pe_callB (lenK (K := K)) (by rfl) B.len_ (by decide +kernel) (pa_cons (pv 0) pa_nil)) (pv 1) (nomark _)))))), ?_⟩)
  · obtain ⟨a, xs, i, rfl, _⟩ := h; rfl
  · obtain ⟨a, xs, i, rfl, ht, hx, q⟩ := h
    refine ⟨_, rfl, _, _, _, _, _, rfl, .ty _, ht, kit_ty (b := "tuple") (r := true) (by decide +kernel), _, rfl, iteT ?_⟩
    exact ⟨_, rfl, a, xs, rfl, .inr hx, _, rfl, rfl, q⟩
def spWantWhole : Sp := fun vs H Q _ => ∃ i, vs = [.int i] ∧ Q .non H
theorem k_want_whole (D : Df K mg "want_whole" s_want_whole ["thing"]) (D_is_whole : Dn P w K mg base 1 "is_whole" ["thing"] spIsWhole) : Dn P w K mg base 2 "want_whole" ["thing"] spWantWhole := by
  refine D.ok fun f fd F => okG0 F sc_want_whole (fun vs H Q E h => ?_) (fun cdv A outer s H vs Q E hr h => ⟨_, (pss_one (ps_if (pt_not (pt_val (pe_cD D_is_whole (hr.less (by decide)) rfl (pa_cons (pv 0) pa_nil))))
     (pss_one ps_never)
     pss_nil)), ?_⟩)
  · obtain ⟨i, rfl, _⟩ := h; rfl
  · obtain ⟨i, rfl, q⟩ := h
    exact ⟨_, rfl, i, rfl, _, rfl, iteF q⟩
def spIsEnd : Sp := fun vs H Q _ => ∃ o, vs = [oV o] ∧ Q (.bl true) H
theorem k_is_end (D : Df K mg "is_end" s_is_end ["thing"]) (D_is_whole : Dn P w K mg base 1 "is_whole" ["thing"] spIsWhole) : Dn P w K mg base 2 "is_end" ["thing"] spIsEnd := by
  refine D.ok fun f fd F => okG0 F sc_is_end (fun vs H Q E h => ?_) (fun cdv A outer s H vs Q E hr h => ⟨_, (pss_one (ps_ret (pe_or (pe_cmpR op_isN (pv 0) pe_non (nomark _)) (pe_one (pe_cD D_is_whole (hr.less (by decide)) rfl (pa_cons (pv 0) pa_nil)))))), ?_⟩)
  · obtain ⟨i, rfl, _⟩ := h; rfl
  · obtain ⟨o, rfl, q⟩ := h
    cases o with
    | none => exact ⟨_, rfl, rfl, _, rfl, iteT q⟩
    | some i => exact ⟨_, rfl, rfl, _, rfl, iteF ⟨_, rfl, i, rfl, q⟩⟩
def spIsDeed (K : PySem.W.Frag) : Sp := fun vs H Q _ => ∃ a d, vs = [.ref a] ∧ DeedArg K H a d ∧ Q (.bl true) H
theorem k_is_deed (D : Df K mg "is_deed" s_is_deed ["thing"]) (D_is_whole : Dn P w K mg base 1 "is_whole" ["thing"] spIsWhole) (D_is_row_of : Dn P w K mg base 1 "is_row_of" ["thing", "many"] (spIsRow K)) (D_is_end : Dn P w K mg base 2 "is_end" ["thing"] spIsEnd) : Dn P w K mg base 3 "is_deed" ["thing"] (spIsDeed K) := by
  refine D.ok fun f fd F => okG0 F sc_is_deed (fun vs H Q E h => ?_) (fun cdv A outer s H vs Q E hr h => ⟨_, (pss_cons (ps_if (PW.pt (pw_or (pt_not (pt_val (pe_cD D_is_row_of (hr.less (by decide)) rfl (pa_cons (pv 0) (pa_cons pe_int pa_nil))))) (pw_or (pt_not (pt_val (pe_cD D_is_whole (hr.less (by decide)) rfl (pa_cons (pe_ix (kk (K := K) (F := rIxT) (P := IxR _) ix_tup) (pv 0) pe_int (fun _ _ => rfl)) pa_nil)))) (pw_or (pt_not (pt_val (pe_cD D_is_end (hr.less (by decide)) rfl (pa_cons (pe_ix (kk (K := K) (F := rIxT) (P := IxR _) ix_tup) (pv 0) pe_int (fun _ _ => rfl)) pa_nil)))) (pw_or1 (pt_not (pt_val (pe_cD D_is_end (hr.less (by decide)) rfl (pa_cons (pe_ix (kk (K := K) (F := rIxT) (P := IxR _) ix_tup) (pv 0) pe_int (fun _ _ => rfl)) pa_nil)))))))))
      (pss_one (ps_ret pe_bl))
      pss_nil)
    (pss_cons (ps_asg (pv 0) (kk (K := K) (F := fun K => gTup K _ _) (P := PG _ _) (pg_tup rfl (pgs_cons (pg_name (i := 1) sc_is_deed.nd rfl (Or.inl rfl)) (pgs_cons (pg_name (i := 2) sc_is_deed.nd rfl (Or.inl rfl)) (pgs_cons (pg_name (i := 3) sc_is_deed.nd rfl (Or.inl rfl)) pgs_nil))))))
    (pss_cons (ps_if (PW.pt (pw_or (pt_cmpR op_isN (pv 2) pe_non (nomark _)) (pw_or1 (pt_cmpR op_isN (pv 3) pe_non (nomark _)))))
      (pss_one (ps_ret pe_bl))
      pss_nil)
    (pss_one (ps_ret (pe_or (pe_cmpR op_lt (pv 2) (pv 3) (nomark _)) (pe_one (pe_and (pe_cmpR op_eq (pv 2) (pv 3) (nomark _)) (pe_one (pe_cmpR op_eq (pv 1) pe_int (nomark _))))))))))), ?_⟩)
  · obtain ⟨a, d, rfl, _⟩ := h; rfl
  · obtain ⟨a, d, rfl, ⟨ht, hx, ok⟩, q⟩ := h
    refine ⟨_, rfl, a, _, 3, rfl, ht, hx, _, rfl, iteF ?_⟩
    refine ⟨_, rfl, a, _, _, _, rfl, rfl, hx, at_of (j := 0) rfl rfl, _, rfl, _, rfl, iteF ?_⟩
    refine ⟨_, rfl, a, _, _, _, rfl, rfl, hx, at_of (j := 1) rfl rfl, d.low, rfl, _, rfl, iteF ?_⟩
    refine ⟨_, rfl, a, _, _, _, rfl, rfl, hx, at_of (j := 2) rfl rfl, d.high, rfl, _, rfl, iteF ?_⟩
    refine ⟨_, rfl, a, _, rfl, hx, rfl, _, _, rfl, _, _, rfl, _, _, rfl, rfl, ?_⟩
    obtain ⟨add, low, high⟩ := d
    cases low with
    | none => exact ⟨_, rfl, rfl, _, rfl, iteT (iteT q)⟩
    | some l =>
      refine ⟨_, rfl, rfl, _, rfl, iteF ?_⟩
      cases high with
      | none => exact ⟨_, rfl, rfl, _, rfl, iteT q⟩
      | some h =>
        refine ⟨_, rfl, rfl, _, rfl, iteF ?_⟩
        refine ⟨_, rfl, _, rfl, _, _, rfl, rfl, _, rfl, ite2 (fun c => q) (fun c => ?_)⟩
        have := ok l h rfl rfl
        have c' : ¬ l < h := of_decide_eq_false (Bool.eq_false_iff.mpr c)
        obtain ⟨e1, e2⟩ : l = h ∧ add = 0 := by
          rcases this with h1 | h1
          · exact absurd h1 c'
          · exact h1
        subst e1 e2
        refine ⟨_, rfl, _, rfl, rfl, _, rfl, ?_⟩
        exact ifT (decide_eq_true rfl) ⟨_, rfl, rfl, q⟩
def spWantDeed (K : PySem.W.Frag) : Sp := fun vs H Q _ => ∃ a d, vs = [.ref a] ∧ DeedArg K H a d ∧ Q .non H
theorem k_want_deed (D : Df K mg "want_deed" s_want_deed ["thing"]) (D_is_deed : Dn P w K mg base 3 "is_deed" ["thing"] (spIsDeed K)) : Dn P w K mg base 4 "want_deed" ["thing"] (spWantDeed K) := by
  refine D.ok fun f fd F => okG0 F sc_want_deed (fun vs H Q E h => ?_) (fun cdv A outer s H vs Q E hr h => ⟨_, (pss_one (ps_if (pt_not (pt_val (pe_cD D_is_deed (hr.less (by decide)) rfl (pa_cons (pv 0) pa_nil))))
     (pss_one ps_never)
     pss_nil)), ?_⟩)
  · obtain ⟨a, d, rfl, _⟩ := h; rfl
  · obtain ⟨a, d, rfl, hd, q⟩ := h
    exact ⟨_, rfl, a, d, rfl, hd, _, rfl, iteF q⟩
def spPut (K : PySem.W.Frag) : Sp := fun vs H Q _ => ∃ a d v, vs = [.ref a, .int v] ∧ SqT K H a (Dd.vs d) ∧ Q (.int (d.ap v)) H
theorem k_put_through (D : Df K mg "put_through" s_put_through ["deed", "value"]) : Dn P w K mg base 1 "put_through" ["deed", "value"] (spPut K) := by
  refine D.ok fun f fd F => okG0 F sc_put_through (fun vs H Q E h => ?_) (fun cdv A outer s H vs Q E hr h => ⟨_, (pss_cons (ps_asg (pv 0) (kk (K := K) (F := fun K => gTup K _ _) (P := PG _ _) (pg_tup rfl (pgs_cons (pg_name (i := 2) sc_put_through.nd rfl (Or.inl rfl)) (pgs_cons (pg_name (i := 3) sc_put_through.nd rfl (Or.inl rfl)) (pgs_cons (pg_name (i := 4) sc_put_through.nd rfl (Or.inl rfl)) pgs_nil))))))
    (pss_cons (ps_set (i := 5) sc_put_through.nd rfl (Or.inl rfl) (pe_op op_add (pv 1) (pv 2)))
    (pss_cons (ps_if (pt_cmpR op_notN (pv 3) pe_non (nomark _))
      (pss_one (ps_set (i := 5) sc_put_through.nd rfl (Or.inl rfl) (pe_callB (call_max2 rfl) (by rfl) B.max_ (by decide +kernel) (pa_cons (pv 3) (pa_cons (pv 5) pa_nil)))))
      pss_nil)
    (pss_one (ps_ret (pe_ifExp (pt_cmpR op_isN (pv 4) pe_non (nomark _)) (pv 5) (pe_callB (call_min2 rfl) (by rfl) B.min_ (by decide +kernel) (pa_cons (pv 4) (pa_cons (pv 5) pa_nil))))))))), ?_⟩)
  · obtain ⟨a, d, v, rfl, _⟩ := h; rfl
  · obtain ⟨a, d, v, rfl, hx, q⟩ := h
    refine ⟨_, rfl, a, _, rfl, hx, rfl, _, _, rfl, _, _, rfl, _, _, rfl, rfl, ?_⟩
    refine ⟨_, rfl, _, rfl, _, _, rfl, rfl, ?_⟩
    obtain ⟨add, low, high⟩ := d
    cases low with
    | none =>
      refine ⟨_, rfl, rfl, _, rfl, iteF ?_⟩
      cases high with
      | none => exact ⟨_, rfl, rfl, _, rfl, iteT ⟨_, rfl, q⟩⟩
      | some h => exact ⟨_, rfl, rfl, _, rfl, iteF ⟨_, rfl, _, rfl, _, _, rfl, q⟩⟩
    | some l =>
      refine ⟨_, rfl, rfl, _, rfl, iteT ⟨_, rfl, _, rfl, _, _, rfl, ?_⟩⟩
      cases high with
      | none => exact ⟨_, rfl, rfl, _, rfl, iteT ⟨_, rfl, q⟩⟩
      | some h => exact ⟨_, rfl, rfl, _, rfl, iteF ⟨_, rfl, _, rfl, _, _, rfl, q⟩⟩
def spDone (K : PySem.W.Frag) : Sp := fun vs H Q _ => ∃ a d v, vs = [.ref a, .int v] ∧ DeedArg K H a d ∧ Q (.int (d.ap v)) H
theorem k_done (D : Df K mg "done" s_done ["deed", "value"]) (D_want_whole : Dn P w K mg base 2 "want_whole" ["thing"] spWantWhole) (D_want_deed : Dn P w K mg base 4 "want_deed" ["thing"] (spWantDeed K)) (D_put_through : Dn P w K mg base 1 "put_through" ["deed", "value"] (spPut K)) : Dn P w K mg base 5 "done" ["deed", "value"] (spDone K) := by
  refine D.ok fun f fd F => okG0 F sc_done (fun vs H Q E h => ?_) (fun cdv A outer s H vs Q E hr h => ⟨_, (pss_cons (ps_expr (pe_cD D_want_whole (hr.less (by decide)) rfl (pa_cons (pv 1) pa_nil)))
    (pss_cons (ps_expr (pe_cD D_want_deed (hr.less (by decide)) rfl (pa_cons (pv 0) pa_nil)))
    (pss_one (ps_ret (pe_cD D_put_through (hr.less (by decide)) rfl (pa_cons (pv 0) (pa_cons (pv 1) pa_nil))))))), ?_⟩)
  · obtain ⟨a, d, v, rfl, _⟩ := h; rfl
  · obtain ⟨a, d, v, rfl, hd, q⟩ := h
    exact ⟨_, rfl, v, rfl, _, rfl, a, d, rfl, hd, _, rfl, _, rfl, a, d, v, rfl, hd.2.1, q⟩
/-! ### the law's own -/
def spPot (K : PySem.W.Frag) : Sp := fun vs H Q _ => ∃ (a : Addr) (ns : List Int) (k : Nat), vs = [.ref a, .int k] ∧ SqL K H a (ns.map V.int) ∧ k ≤ 60 ∧ ∀ p H', H p = none → Same H H' → PotAt H' p → Q (.ref p) H'
theorem k__law_pot (D : Df K mg "_law_pot" s__law_pot ["_law_script", "_law_k"]) : Dn P w K mg base 1 "_law_pot" ["_law_script", "_law_k"] (spPot K) := by
  refine D.ok fun f fd F => okG0 F sc__law_pot (fun vs H Q E h => ?_) (fun cdv A outer s H vs Q E hr h => ⟨_, (pss_cons (ps_set (i := 2) sc__law_pot.nd rfl (Or.inl rfl) (pe_ifExp (pt_cmpR op_lt (pv 1) (pe_callB (lenK (K := K)) (by rfl) B.len_ (by decide +kernel) (pa_cons (pv 0) pa_nil)) (nomark _)) (pe_ix (kk (K := K) (F := rIxL) (P := IxR _) ix_list) (pv 0) (pv 1) (fun _ _ => rfl)) pe_int))
    (pss_cons (ps_set (i := 3) sc__law_pot.nd rfl (Or.inl rfl) (pe_op op_add (pe_op op_add (pe_op op_mulX (pe_op op_mod (pe_callB call_abs (by rfl) B.abs_ (by decide +kernel) (pa_cons (pv 2) pa_nil)) pe_int) (pe_ix (kk (K := K) (F := rIxL) (P := IxR _) ix_list) (pe_lst (pa_cons pe_int (pa_cons pe_int (pa_cons pe_int (pa_cons pe_int (pa_cons pe_int (pa_cons pe_int (pa_cons pe_int pa_nil)))))))) (pe_op op_mod (pv 1) pe_int) (fun _ _ => rfl))) (pe_op op_mulX pe_int (pv 1))) pe_int))
    (pss_one (ps_ret (pe_lst (pa_cons (pe_callB (call_max2 rfl) (by rfl) B.max_ (by decide +kernel) (pa_cons pe_int (pa_cons (pe_op op_sub (pe_callB call_abs (by rfl) B.abs_ (by decide +kernel) (pa_cons (pv 2) pa_nil)) (pe_op op_pow pe_int pe_int)) pa_nil))) (pa_cons (pv 3) pa_nil))))))), ?_⟩)
  · obtain ⟨a, ns, k, rfl, _⟩ := h; rfl
  · obtain ⟨a, ns, k, rfl, hs, hk, q⟩ := h
    refine ⟨_, rfl, _, rfl, a, _, rfl, .inl hs, _, _, rfl, rfl, _, rfl, ?_⟩
    refine ifE (fun v H' => H' = H ∧ ∃ c : Int, v = .int c) ?_ (fun c Q' q' => ?_) (fun c Q' q' => q' _ _ ⟨rfl, 0, rfl⟩)
    · rintro _ _ ⟨rfl, c, rfl⟩
      obtain ⟨z, hz, hz0, hz1⟩ := menu7 (k % 7) (by omega)
      have hm1 := Int.emod_nonneg (if c < 0 then -c else c) (by decide : (2147483629 : Int) ≠ 0)
      have hm2 := Int.emod_lt_of_pos (if c < 0 then -c else c) (by decide : (0 : Int) < 2147483629)
      refine ⟨_, rfl, _, rfl, _, _, rfl, rfl, pj, sz, fun l hl => ⟨_, rfl, _, _, rfl, rfl, pj, l, _, _, _, rfl, rfl, SqL.of upd_same, at_of (j := k % 7) (by omega) hz, ?_⟩⟩
      refine ⟨_, _, rfl, rfl, mulx 31 6 (by omega) (by omega), _, rfl, _, _, rfl, rfl, mulx 10 6 (by decide) (by omega), _, _, rfl, rfl, _, _, rfl, rfl, ?_⟩
      refine ⟨_, rfl, _, rfl, _, _, rfl, rfl, ⟨by decide, by decide, by decide⟩, _, _, rfl, rfl, _, _, rfl, _, rfl, sz, fun p hp => ?_⟩
      have n1 := (same_new hl (.lst _)).free hp
      refine q p _ n1 ((same_new hl _).trans (same_new hp _)) ⟨_, _, upd_same, ?_, ?_, ?_⟩
      · split <;> omega
      · have h1 := Int.mul_nonneg hm1 (Int.le_of_lt hz0)
        omega
      · have h1 : (if c < 0 then -c else c) % 2147483629 * z ≤ 2147483629 * 41 := Int.mul_le_mul (Int.le_of_lt hm2) hz1 (Int.le_of_lt hz0) (by decide)
        omega
    · have c' : (k : Int) < ((ns.map V.int).length : Nat) := of_decide_eq_true c
      have hk2 : k < ns.length := by rw [List.length_map] at c'; omega
      refine ⟨_, rfl, _, rfl, a, _, _, _, rfl, rfl, hs, at_of (j := k) rfl (by rw [List.getElem?_map, List.getElem?_eq_getElem hk2] <;> rfl), ?_⟩
      exact q' _ _ ⟨rfl, _, rfl⟩
def spTake : Sp := fun vs H Q _ => ∃ (p : Addr) (m : Int), vs = [.ref p, .int m] ∧ PotAt H p ∧ 1 ≤ m ∧ m < 2 ^ 200 ∧ ∀ (d : Int) H', 0 ≤ d → d < m → But p H H' → PotAt H' p → Q (.int d) H'
theorem k__law_take (D : Df K mg "_law_take" s__law_take ["_law_pot_here", "_law_many"]) : Dn P w K mg base 1 "_law_take" ["_law_pot_here", "_law_many"] spTake := by
  refine D.ok fun f fd F => okG0 F sc__law_take (fun vs H Q E h => ?_) (fun cdv A outer s H vs Q E hr h => ⟨_, (pss_cons (ps_if (pt_cmpR op_gt (pe_ix (kk (K := K) (F := rIxL) (P := IxR _) ix_list) (pv 0) pe_int (fun _ _ => rfl)) pe_int (nomark _))
      (pss_cons (ps_asg (pe_callB call_divmodW (by rfl) B.divmod_ (by decide +kernel) (pa_cons (pe_ix (kk (K := K) (F := rIxL) (P := IxR _) ix_list) (pv 0) pe_int (fun _ _ => rfl)) (pa_cons (pv 1) pa_nil))) (kk (K := K) (F := fun K => gTup K _ _) (P := PG _ _) (pg_tup rfl (pgs_cons (pg_sub (pv 0) pe_int set_list) (pgs_cons (pg_name (i := 2) sc__law_take.nd rfl (Or.inl rfl)) pgs_nil)))))
      (pss_one (ps_ret (pv 2))))
      pss_nil)
    (pss_cons (ps_asg (pe_op op_mod (pe_op op_add (pe_op op_mulX (pe_ix (kk (K := K) (F := rIxL) (P := IxR _) ix_list) (pv 0) pe_int (fun _ _ => rfl)) pe_int) pe_int) pe_int) (pg_sub (pv 0) pe_int set_list))
    (pss_one (ps_ret (pe_op op_mod (pe_op op_fdivW (pe_op op_mod (pe_op op_mulX (pe_ix (kk (K := K) (F := rIxL) (P := IxR _) ix_list) (pv 0) pe_int (fun _ _ => rfl)) (pe_ix (kk (K := K) (F := rIxL) (P := IxR _) ix_list) (pv 0) pe_int (fun _ _ => rfl))) pe_int) pe_int) (pv 1)))))), ?_⟩)
  · obtain ⟨p, m, rfl, _⟩ := h; rfl
  · obtain ⟨p, m, rfl, ⟨a, b, hp, ha, hb, hb2⟩, hm, hm2, q⟩ := h
    refine ⟨_, rfl, p, _, _, _, rfl, rfl, SqL.of hp, at_of (j := 0) rfl rfl, _, _, rfl, rfl, _, rfl, ite2 (fun c => ?_) (fun c => ?_)⟩
    · refine ⟨_, rfl, p, _, _, _, rfl, rfl, SqL.of hp, at_of (j := 0) rfl rfl, _, rfl, _, _, rfl, divp_small (by omega) (Int.lt_trans hm2 (by decide)), fun t ht => ?_⟩
      have np : p ≠ t := ne_of_none hp ht
      refine ⟨t, _, rfl, SqT.of upd_same, rfl, _, _, rfl, _, rfl, p, _, _, _, rfl, rfl, by rw [upd_ne np]; exact hp, rfl, _, _, rfl, rfl, _, rfl, ?_⟩
      have h1 := Int.emod_nonneg a (by omega : m ≠ 0)
      have h2 := Int.emod_lt_of_pos a (by omega : 0 < m)
      have h3 := Int.ediv_nonneg ha (by omega : 0 ≤ m)
      exact q _ _ h1 h2 ((same_but (same_new ht _)).trans But.upd) ⟨_, _, upd_same, h3, hb, hb2⟩
    · have hm1 := Int.emod_nonneg (b * 48271 + 11) (by decide : (2147483647 : Int) ≠ 0)
      have hm3 := Int.emod_lt_of_pos (b * 48271 + 11) (by decide : (0 : Int) < 2147483647)
      refine ⟨_, rfl, p, _, _, _, rfl, rfl, SqL.of hp, at_of (j := 1) rfl rfl, _, _, rfl, rfl, mulx 40 16 (by omega) (by decide), _, _, rfl, rfl, _, _, rfl, rfl, pj, ?_⟩
      refine ⟨_, rfl, p, _, _, _, rfl, rfl, hp, rfl, ?_⟩
      refine ⟨_, rfl, p, _, _, _, rfl, rfl, SqL.of upd_same, at_of (j := 1) rfl rfl, _, rfl, p, _, _, _, rfl, rfl, SqL.of upd_same, at_of (j := 1) rfl rfl, _, _, rfl, rfl, mulx 31 31 (by omega) (by omega), ?_⟩
      refine ⟨_, _, rfl, rfl, pj, _, _, rfl, rfl, ⟨by decide, by decide⟩, _, rfl, _, _, rfl, rfl, hm, ?_⟩
      exact q _ _ (Int.emod_nonneg _ (by omega)) (Int.emod_lt_of_pos _ (by omega)) But.upd ⟨_, _, upd_same, ha, hm1, by omega⟩
def spNumber : Sp := fun vs H Q _ => ∃ (p : Addr), vs = [.ref p] ∧ PotAt H p ∧ ∀ (n : Int) H', -(10 ^ 29) ≤ n → n ≤ 10 ^ 29 → But p H H' → PotAt H' p → Q (.int n) H'
theorem k__law_number (D : Df K mg "_law_number" s__law_number ["_law_pot_here"]) (D__law_take : Dn P w K mg base 1 "_law_take" ["_law_pot_here", "_law_many"] spTake) : Dn P w K mg base 2 "_law_number" ["_law_pot_here"] spNumber := by
  refine D.ok fun f fd F => okG0 F sc__law_number (fun vs H Q E h => ?_) (fun cdv A outer s H vs Q E hr h => ⟨_, (pss_cons (ps_set (i := 1) sc__law_number.nd rfl (Or.inl rfl) (pe_cD D__law_take (hr.less (by decide)) rfl (pa_cons (pv 0) (pa_cons pe_int pa_nil))))
    (pss_cons (ps_set (i := 2) sc__law_number.nd rfl (Or.inl rfl) (pe_cD D__law_take (hr.less (by decide)) rfl (pa_cons (pv 0) (pa_cons (pe_ix (kk (K := K) (F := rIxL) (P := IxR _) ix_list) (pe_lst (pa_cons pe_int (pa_cons pe_int (pa_cons pe_int (pa_cons (pe_op op_pow pe_int pe_int) (pa_cons (pe_op op_pow pe_int pe_int) (pa_cons (pe_op op_pow pe_int pe_int) pa_nil))))))) (pv 1) (fun _ _ => rfl)) pa_nil))))
    (pss_cons (ps_if (pt_cmpR op_gt (pv 1) pe_int (nomark _))
      (pss_one (ps_set (i := 2) sc__law_number.nd rfl (Or.inl rfl) (pe_op op_mod (pe_op op_mulX (pv 2) (pe_op op_pow pe_int pe_int)) (pe_op op_pow pe_int pe_int))))
      pss_nil)
    (pss_one (ps_ret (pe_op op_mulX (pv 2) (pe_op op_sub pe_int (pe_op op_mulX pe_int (pe_cD D__law_take (hr.less (by decide)) rfl (pa_cons (pv 0) (pa_cons pe_int pa_nil))))))))))), ?_⟩)
  · obtain ⟨p, rfl, _⟩ := h; rfl
  · obtain ⟨p, rfl, hp, q⟩ := h
    refine ⟨_, rfl, p, 6, rfl, hp, by decide, by decide, fun d H1 d0 d6 b1 p1 => ?_⟩
    obtain ⟨j, rfl⟩ : ∃ j : Nat, d = (j : Int) := ⟨d.toNat, by omega⟩
    obtain ⟨z, hz, z1, z2⟩ := menu6 j (by omega)
    refine ⟨_, rfl, ?_⟩
    refine ⟨_, _, rfl, rfl, ⟨by decide, by decide, by decide⟩, _, _, rfl, rfl, ⟨by decide, by decide, by decide⟩, _, _, rfl, rfl, ⟨by decide, by decide, by decide⟩, sz, fun l hl => ?_⟩
    refine ⟨_, rfl, l, _, _, _, rfl, rfl, SqL.of upd_same, at_of (j := j) rfl hz, p, z, rfl, p1.same (same_new hl _), z1, Int.lt_of_le_of_lt z2 (by decide), fun e H2 e0 e1 b2 p2 => ?_⟩
    have b12 : But p H H2 := b1.trans ((same_but (same_new hl _)).trans b2)
    have e2 : e < 10 ^ 29 := by omega
    have key : ∀ (e : Int), 0 ≤ e → e < 10 ^ 29 → ∀ r : Option V, tRet (tOp (rI CMulX fun i j => .int (i * j)) (tVar 2) (tOp (rI0 fun i j => .int (i - j)) (tC (.int 1)) (tOp (rI CMulX fun i j => .int (i * j)) (tC (.int 2)) (tCall spTake [] E0 (tCons (tVar 0) (tCons (tC (.int 2)) tNil))))))
        { nx := fun _ H' => Q .non H', rt := Q } [some (.ref p), r, some (.int e)] H2 := by
      intro e e0 e1 r
      refine ⟨_, rfl, _, rfl, p, 2, rfl, p2, by decide, by decide, fun c H3 c0 c2 b3 p3 => ⟨_, _, rfl, rfl, mulx 2 2 (by decide) (by omega), _, _, rfl, rfl, _, _, rfl, rfl, mulx 97 2 (by omega) (by omega), ?_⟩⟩
      refine q _ _ ?_ ?_ (b12.trans b3) p3
      · have : c = 0 ∨ c = 1 := by omega
        rcases this with rfl | rfl <;> omega
      · have : c = 0 ∨ c = 1 := by omega
        rcases this with rfl | rfl <;> omega
    refine ⟨_, rfl, _, _, rfl, rfl, _, rfl, ite2 (fun c => ?_) (fun c => ?_)⟩
    · refine ⟨_, rfl, _, _, rfl, rfl, ⟨by decide, by decide, by decide⟩, _, _, rfl, rfl, mulx 97 120 (by omega) (by decide), _, _, rfl, rfl, ⟨by decide, by decide, by decide⟩, _, _, rfl, rfl, pj, ?_⟩
      exact key _ (Int.emod_nonneg _ (by decide)) (Int.emod_lt_of_pos _ (by decide)) _
    · exact key _ e0 e2 _
def spDeed : Sp := fun vs H Q _ => ∃ (p : Addr), vs = [.ref p] ∧ PotAt H p ∧ ∀ (a : Addr) (d : Dd) H', But p H H' → PotAt H' p → H a = none → H' a = some (.tup d.vs) → d.In (10 ^ 29 + 3) → d.Ok → Q (.ref a) H'
theorem k__law_deed (D : Df K mg "_law_deed" s__law_deed ["_law_pot_here"]) (D__law_take : Dn P w K mg base 1 "_law_take" ["_law_pot_here", "_law_many"] spTake) (D__law_number : Dn P w K mg base 2 "_law_number" ["_law_pot_here"] spNumber) : Dn P w K mg base 3 "_law_deed" ["_law_pot_here"] spDeed := by
  refine D.ok fun f fd F => okG0 F sc__law_deed (fun vs H Q E h => ?_) (fun cdv A outer s H vs Q E hr h => ⟨_, (pss_cons (ps_set (i := 1) sc__law_deed.nd rfl (Or.inl rfl) (pe_cD D__law_take (hr.less (by decide)) rfl (pa_cons (pv 0) (pa_cons pe_int pa_nil))))
    (pss_cons (ps_set (i := 2) sc__law_deed.nd rfl (Or.inl rfl) (pe_op op_mulX (pe_cD D__law_number (hr.less (by decide)) rfl (pa_cons (pv 0) pa_nil)) (pe_callTy call_int1 (by rfl) B.int_ (by decide +kernel) (pa_cons (pe_cmpR op_gt (pe_cD D__law_take (hr.less (by decide)) rfl (pa_cons (pv 0) (pa_cons pe_int pa_nil))) pe_int (nomark _)) pa_nil))))
    (pss_cons (ps_set (i := 3) sc__law_deed.nd rfl (Or.inl rfl) (pe_cD D__law_number (hr.less (by decide)) rfl (pa_cons (pv 0) pa_nil)))
    (pss_cons (ps_if (pt_cmpR op_eq (pv 1) pe_int (nomark _))
      (pss_one (ps_ret (pe_tup (pa_cons (pv 2) (pa_cons pe_non (pa_cons pe_non pa_nil))))))
      pss_nil)
    (pss_cons (ps_if (pt_cmpR op_lt (pv 1) pe_int (nomark _))
      (pss_one (ps_ret (pe_ix (kk (K := K) (F := rIxL) (P := IxR _) ix_list) (pe_lst (pa_cons (pe_tup (pa_cons (pv 2) (pa_cons (pv 3) (pa_cons pe_non pa_nil)))) (pa_cons (pe_tup (pa_cons (pv 2) (pa_cons pe_non (pa_cons (pv 3) pa_nil)))) pa_nil))) (pe_op op_sub (pv 1) pe_int) (fun _ _ => rfl))))
      pss_nil)
    (pss_cons (ps_set (i := 4) sc__law_deed.nd rfl (Or.inl rfl) (pe_op op_add (pv 3) (pe_cD D__law_take (hr.less (by decide)) rfl (pa_cons (pv 0) (pa_cons pe_int pa_nil)))))
    (pss_cons (ps_if (pt_cmpR op_gt (pv 1) pe_int (nomark _))
      (pss_one (ps_set (i := 4) sc__law_deed.nd rfl (Or.inl rfl) (pe_cD D__law_number (hr.less (by decide)) rfl (pa_cons (pv 0) pa_nil))))
      pss_nil)
    (pss_one (ps_ret (pe_tup (pa_cons (pe_op op_mulX (pv 2) (pe_callTy call_int1 (by rfl) B.int_ (by decide +kernel) (pa_cons (pe_cmpR op_ne (pv 3) (pv 4) (nomark _)) pa_nil))) (pa_cons (pe_callB (call_min2 rfl) (by rfl) B.min_ (by decide +kernel) (pa_cons (pv 3) (pa_cons (pv 4) pa_nil))) (pa_cons (pe_callB (call_max2 rfl) (by rfl) B.max_ (by decide +kernel) (pa_cons (pv 3) (pa_cons (pv 4) pa_nil))) pa_nil))))))))))))), ?_⟩)
  · obtain ⟨p, rfl, _⟩ := h; rfl
  · obtain ⟨p, rfl, hp, q⟩ := h
    refine ⟨_, rfl, p, 7, rfl, hp, by decide, by decide, fun road H1 d0 d7 b1 p1 => ?_⟩
    refine ⟨_, rfl, p, rfl, p1, fun n H2 n0 n1 b2 p2 => ⟨_, rfl, p, 4, rfl, p2, by decide, by decide, fun c H3 c0 c4 b3 p3 => ⟨_, _, rfl, rfl, .inr ⟨_, rfl, ?_⟩⟩⟩⟩
    refine ⟨_, _, rfl, rfl, mulx 97 2 (by omega) (by split <;> decide), ?_⟩
    have ha : -(10 ^ 29) ≤ n * (if decide (0 < c) = true then (1 : Int) else 0) ∧ n * (if decide (0 < c) = true then (1 : Int) else 0) ≤ 10 ^ 29 := by split <;> omega
    obtain ⟨ha1, ha2⟩ := ha
    refine ⟨_, rfl, p, rfl, p3, fun one H4 o0 o1 b4 p4 => ?_⟩
    have b14 : But p H H4 := b1.trans (b2.trans (b3.trans b4))
    refine ⟨_, rfl, rfl, _, rfl, ite2 (fun _ => ?_) (fun _ => ?_)⟩
    · refine ⟨_, rfl, sz, fun a ha => ?_⟩
      have np : a ≠ p := fun e => by obtain ⟨_, _, h1, _⟩ := p4; rw [← e, ha] at h1; cases h1
      exact q a ⟨_, none, none⟩ _ (b14.trans (same_but (same_new ha _))) (p4.same (same_new ha _)) (b14.free np ha) upd_same (in_mk (by omega) (by omega) in_none in_none) (fun _ _ h => nomatch h)
    refine ⟨_, rfl, _, _, rfl, rfl, _, rfl, ite2 (fun c3 => ?_) (fun c3 => ?_)⟩
    · have c3' : road < 3 := of_decide_eq_true c3
      refine ⟨_, rfl, _, rfl, sz, fun a1 ha1 => ⟨_, rfl, _, rfl, sz, fun a2 ha2 => ⟨sz, fun l hl => ⟨_, rfl, _, _, rfl, rfl, ?_⟩⟩⟩⟩
      have e12 : a1 ≠ a2 := ne_of_none upd_same ha2
      have e1l : a1 ≠ l := ne_of_none (by rw [upd_ne e12]; exact upd_same) hl
      have e2l : a2 ≠ l := ne_of_none upd_same hl
      have S2 := (same_new ha1 (.tup [.int (n * (if decide (0 < c) = true then (1 : Int) else 0)), .int one, .non])).trans (same_new ha2 (.tup [.int (n * (if decide (0 < c) = true then (1 : Int) else 0)), .non, .int one]))
      have S3 := S2.trans (same_new hl (.lst [.ref a1, .ref a2]))
      have hp' : ∀ a, H4 a = none → a ≠ p := fun a ha e => by obtain ⟨_, _, h1, _⟩ := p4; rw [← e, ha] at h1; cases h1
      have f2 : H4 a2 = none := (same_new ha1 _).free ha2
      by_cases r1 : road = 1
      · subst r1
        refine ⟨l, _, _, _, rfl, rfl, SqL.of upd_same, at_of (j := 0) rfl rfl, ?_⟩
        exact q a1 ⟨_, some one, none⟩ _ (b14.trans (same_but S3)) (p4.same S3) (b14.free (hp' a1 ha1) ha1) (by rw [upd_ne e1l, upd_ne e12, upd_same] <;> rfl) (in_mk (by omega) (by omega) (in_some (by omega) (by omega)) in_none) (fun _ _ _ h => nomatch h)
      · have r2 : road = 2 := by
          have : road ≠ 0 := by intro e; subst e; simp_all
          omega
        subst r2
        refine ⟨l, _, _, _, rfl, rfl, SqL.of upd_same, at_of (j := 1) rfl rfl, ?_⟩
        exact q a2 ⟨_, none, some one⟩ _ (b14.trans (same_but S3)) (p4.same S3) (b14.free (hp' a2 f2) f2) (by rw [upd_ne e2l, upd_same] <;> rfl) (in_mk (by omega) (by omega) in_none (in_some (by omega) (by omega))) (fun _ _ h => nomatch h)
    refine ⟨_, rfl, _, rfl, p, 3, rfl, p4, by decide, by decide, fun m H5 m0 m3 b5 p5 => ⟨_, _, rfl, rfl, ?_⟩⟩
    have b15 := b14.trans b5
    have key : ∀ (add other : Int) (H6 : Hp), -(10 ^ 29) ≤ add → add ≤ 10 ^ 29 → But p H H6 → PotAt H6 p → -(10 ^ 29 + 3) ≤ other → other ≤ 10 ^ 29 + 3 → tRet (tTup (tCons (tOp (rI CMulX fun i j => V.int (i * j)) (tVar 2) (tCB (fun xs H Q => (∃ i, xs = [V.int i] ∧ Q (V.int i) H) ∨ ∃ k, xs = [V.bl k] ∧ Q (V.int (if k = true then 1 else 0)) H) (tCons (tOp rNe (tVar 3) (tVar 4)) tNil)))
        (tCons (tCB (fun xs H Q => ∃ i j, xs = [V.int i, V.int j] ∧ Q (V.int (if j < i then j else i)) H) (tCons (tVar 3) (tCons (tVar 4) tNil))) (tCons (tCB (fun xs H Q => ∃ i j, xs = [V.int i, V.int j] ∧ Q (V.int (if j > i then j else i)) H) (tCons (tVar 3) (tCons (tVar 4) tNil))) tNil))))
        { nx := fun _ H' => Q .non H', rt := Q } [some (.ref p), some (.int road), some (.int add), some (.int one), some (.int other)] H6 := by
      intro add other H6 ad1 ad2 b6 p6 o2 o3
      refine ⟨_, rfl, _, rfl, _, rfl, rfl, .inr ⟨_, rfl, ⟨_, _, rfl, rfl, mulx 97 2 (by omega) (by split <;> decide), _, rfl, _, rfl, _, _, rfl, _, rfl, _, rfl, _, _, rfl, sz, fun a ha => ?_⟩⟩⟩
      have np : a ≠ p := fun e => by obtain ⟨_, _, h1, _⟩ := p6; rw [← e, ha] at h1; cases h1
      refine q a ⟨_, some _, some _⟩ _ (b6.trans (same_but (same_new ha _))) (p6.same (same_new ha _)) (b6.free np ha) upd_same (in_mk ?_ ?_ (in_some ?_ ?_) (in_some ?_ ?_)) ?_
      · by_cases e : one = other
        · rw [if_neg (by simp [e])]; omega
        · rw [if_pos (by simp [e])]; omega
      · by_cases e : one = other
        · rw [if_neg (by simp [e])]; omega
        · rw [if_pos (by simp [e])]; omega
      · split <;> omega
      · split <;> omega
      · split <;> omega
      · split <;> omega
      · intro l h e1 e2
        cases e1; cases e2
        by_cases e : one = other
        · refine .inr ⟨?_, ?_⟩
          · split <;> split <;> omega
          · show _ * _ = (0 : Int)
            rw [if_neg (by simp [e])]; omega
        · left
          split <;> split <;> omega
    refine ⟨_, rfl, _, _, rfl, rfl, _, rfl, ite2 (fun _ => ?_) (fun _ => ?_)⟩
    · exact ⟨_, rfl, p, rfl, p5, fun o H6 o2 o3 b6 p6 => key _ o H6 ha1 ha2 (b15.trans b6) p6 (by omega) (by omega)⟩
    · exact key _ _ H5 ha1 ha2 b15 p5 (by omega) (by omega)
def spMakes (K : PySem.W.Frag) : Sp := fun vs H Q _ => ∃ (a : Addr) (d : Dd) (v : Int), vs = [.ref a, .int v] ∧ SqT K H a d.vs ∧ d.Ok ∧ Q (.int (d.ap v)) H
theorem k__law_makes (D : Df K mg "_law_makes" s__law_makes ["_law_deed_here", "_law_value"]) : Dn P w K mg base 1 "_law_makes" ["_law_deed_here", "_law_value"] (spMakes K) := by
  refine D.ok fun f fd F => okG0 F sc__law_makes (fun vs H Q E h => ?_) (fun cdv A outer s H vs Q E hr h => ⟨_, (pss_cons (ps_asg (pv 0) (kk (K := K) (F := fun K => gTup K _ _) (P := PG _ _) (pg_tup rfl (pgs_cons (pg_name (i := 2) sc__law_makes.nd rfl (Or.inl rfl)) (pgs_cons (pg_name (i := 3) sc__law_makes.nd rfl (Or.inl rfl)) (pgs_cons (pg_name (i := 4) sc__law_makes.nd rfl (Or.inl rfl)) pgs_nil))))))
    (pss_cons (ps_set (i := 5) sc__law_makes.nd rfl (Or.inl rfl) (pe_op op_add (pv 1) (pv 2)))
    (pss_cons (ps_if (PW.pt (pw_and (pt_cmpR op_notN (pv 3) pe_non (nomark _)) (pw_and1 (pt_cmpR op_lt (pv 5) (pv 3) (nomark _)))))
      (pss_one (ps_ret (pv 3)))
      pss_nil)
    (pss_one (ps_ret (pe_ifExp (PW.pt (pw_and (pt_cmpR op_notN (pv 4) pe_non (nomark _)) (pw_and1 (pt_cmpR op_gt (pv 5) (pv 4) (nomark _))))) (pv 4) (pv 5))))))), ?_⟩)
  · obtain ⟨a, d, v, rfl, _⟩ := h; rfl
  · obtain ⟨a, d, v, rfl, hx, ok, q⟩ := h
    refine ⟨_, rfl, a, _, rfl, hx, rfl, _, _, rfl, _, _, rfl, _, _, rfl, rfl, ?_⟩
    refine ⟨_, rfl, _, rfl, _, _, rfl, rfl, ?_⟩
    obtain ⟨add, low, high⟩ := d
    rw [← mk_eq ok] at q
    cases low with
    | none =>
      refine ⟨_, rfl, rfl, _, rfl, iteF (iteF ?_)⟩
      cases high with
      | none => exact ⟨_, rfl, rfl, _, rfl, iteF (iteF ⟨_, rfl, q⟩)⟩
      | some h =>
        refine ⟨_, rfl, rfl, _, rfl, iteT ⟨_, rfl, _, rfl, _, _, rfl, rfl, _, rfl, ite2 (fun c => ⟨_, rfl, ?_⟩) (fun c => ⟨_, rfl, ?_⟩)⟩⟩
        · have c' : v + add > h := of_decide_eq_true c
          exact qi q (by simp only [mk, hi]; rw [if_pos c'])
        · have c' : ¬ v + add > h := of_decide_eq_false (Bool.eq_false_iff.mpr c)
          exact qi q (by simp only [mk, hi]; rw [if_neg c'])
    | some l =>
      refine ⟨_, rfl, rfl, _, rfl, iteT ⟨_, rfl, _, rfl, _, _, rfl, rfl, _, rfl, ite2 (fun c => ⟨_, rfl, ?_⟩) (fun c => ?_)⟩⟩
      · have c' : v + add < l := of_decide_eq_true c
        exact qi q (by simp only [mk]; rw [if_pos c'])
      · have c' : ¬ v + add < l := of_decide_eq_false (Bool.eq_false_iff.mpr c)
        cases high with
        | none => exact ⟨_, rfl, rfl, _, rfl, iteF (iteF ⟨_, rfl, qi q (by simp only [mk, hi]; rw [if_neg c'])⟩)⟩
        | some h =>
          refine ⟨_, rfl, rfl, _, rfl, iteT ⟨_, rfl, _, rfl, _, _, rfl, rfl, _, rfl, ite2 (fun c2 => ⟨_, rfl, ?_⟩) (fun c2 => ⟨_, rfl, ?_⟩)⟩⟩
          · have c2' : v + add > h := of_decide_eq_true c2
            exact qi q (by simp only [mk, hi]; rw [if_neg c', if_pos c2'])
          · have c2' : ¬ v + add > h := of_decide_eq_false (Bool.eq_false_iff.mpr c2)
            exact qi q (by simp only [mk, hi]; rw [if_neg c', if_neg c2'])
/-- ints within b -/
def Ints (b : Int) (ws : List Int) : Prop := ∀ x ∈ ws, -b ≤ x ∧ x ≤ b
def spTurns (K : PySem.W.Frag) : Sp := fun vs H Q _ => ∃ (a : Addr) (d : Dd) (b : Int), vs = [.ref a] ∧ SqT K H a d.vs ∧ 0 ≤ b ∧ d.In b ∧ ∀ (l : Addr) (ws : List Int) H', Same H H' → H l = none → H' l = some (.lst (ws.map V.int)) → Ints (2 * b + 1) ws → ws.length ≤ 20 → Q (.ref l) H'
theorem k__law_turns (D : Df K mg "_law_turns" s__law_turns ["_law_deed_here"]) : Dn P w K mg base 1 "_law_turns" ["_law_deed_here"] (spTurns K) := by
  refine D.ok fun f fd F => okG0 F sc__law_turns (fun vs H Q E h => ?_) (fun cdv A outer s H vs Q E hr h => ⟨_, (pss_cons (ps_set (i := 1) sc__law_turns.nd rfl (Or.inl rfl) (pe_lst (pa_cons pe_int pa_nil)))
    (pss_cons (ps_for PassesOwn.never rfl (kk (K := K) (F := fun K => iTup K _) (P := PI _ _ _) (pi_tup (pe_slice (kk (K := K) (F := rSlT) (P := L2.SlR _) sl_tup) (pv 0) (po_some pe_int) po_none))) (pg_name (i := 2) sc__law_turns.nd rfl (Or.inl rfl))
      (pss_one (ps_if (pt_cmpR op_notN (pv 2) pe_non (nomark _))
       (pss_one (ps_expr (kk (K := K) (F := fun K => tBM K "list" _ _ _) (P := PE _ _) (pe_bm PySem.F.plainAttrs_list PySem.F.slot_list_extend PySem.F.type_list_extend mt_extend (pv 1) (pa_cons (pe_lst (pa_cons (pe_op op_sub (pe_op op_sub (pv 2) (pe_ix (kk (K := K) (F := rIxT) (P := IxR _) ix_tup) (pv 0) pe_int (fun _ _ => rfl))) pe_int) (pa_cons (pe_op op_sub (pv 2) (pe_ix (kk (K := K) (F := rIxT) (P := IxR _) ix_tup) (pv 0) pe_int (fun _ _ => rfl))) (pa_cons (pe_op op_add (pe_op op_sub (pv 2) (pe_ix (kk (K := K) (F := rIxT) (P := IxR _) ix_tup) (pv 0) pe_int (fun _ _ => rfl))) pe_int) (pa_cons (pe_op op_sub (pv 2) pe_int) (pa_cons (pv 2) (pa_cons (pe_op op_add (pv 2) pe_int) pa_nil))))))) pa_nil)))))
       pss_nil)))
    (pss_one (ps_ret (pv 1))))), ?_⟩)
  · obtain ⟨a, d, b, rfl, _⟩ := h; rfl
  · obtain ⟨a, d, b, rfl, hx, b0, hb, q⟩ := h
    refine ⟨sz, fun l hl => ?_⟩
    have S1 := same_new hl (.lst [V.int 0])
    refine ⟨_, rfl, _, rfl, a, _, rfl, same_tup S1 hx, by simp [HT.sIx, Dd.vs], fun t ht => ?_⟩
    have S2 := S1.trans (same_new ht (.tup (cutV d.vs (some 1) none)))
    have elt : l ≠ t := ne_of_none upd_same ht
    have ecut : cutV d.vs (some 1) none = [oV d.low, oV d.high] := rfl
    rw [ecut]
    refine ⟨t, rfl, ⟨_, SqT.of upd_same⟩, for_tup (K := K) (a := t) (xs := [oV d.low, oV d.high]) (fun i σ H2 => ∃ (ws : List Int) (v : Option V), σ = [some (.ref a), some (.ref l), v] ∧ Same H H2 ∧ SqT K H2 a d.vs ∧ H2 t = some (.tup [oV d.low, oV d.high]) ∧ H2 l = some (.lst (ws.map V.int)) ∧ Ints (2 * b + 1) ws ∧ ws.length ≤ 1 + 6 * i)
      ⟨[0], none, rfl, by rw [← ecut]; exact S2, same_tup (by rw [← ecut]; exact S2) hx, upd_same, by rw [upd_ne elt, upd_same] <;> rfl, by intro x hx; simp at hx; omega, by simp⟩ (fun i σ H2 _ ⟨_, _, _, _, _, h, _⟩ => SqT.of h) ?_ ?_⟩
    · rintro i y σ H2 hi ⟨ws, v, rfl, s2, hx2, h2, hl2, hI, hn⟩
      have hy : ∃ o : Option Int, y = oV o ∧ ∀ e, o = some e → -b ≤ e ∧ e ≤ b := by
        match i, hi with
        | 0, hi => exact ⟨d.low, (Option.some.inj hi).symm, hb.2.2.1⟩
        | 1, hi => exact ⟨d.high, (Option.some.inj hi).symm, hb.2.2.2⟩
        | n + 2, hi => simp at hi
      have hi2 : i < 2 := by
        have := (List.getElem?_eq_some_iff.mp hi).1
        simpa using this
      obtain ⟨o, rfl, ho⟩ := hy
      cases o with
      | none =>
        refine ⟨_, rfl, rfl, _, rfl, iteF ?_⟩
        exact ⟨ws, _, rfl, s2, hx2, h2, hl2, hI, by omega⟩
      | some e =>
        obtain ⟨e1, e2⟩ := ho e rfl
        obtain ⟨a1, a2, _⟩ := hb
        refine ⟨_, rfl, rfl, _, rfl, iteT ?_⟩
        refine ⟨_, rfl, .inl ⟨rfl, _, SqL.of hl2⟩, ?_⟩
        refine ⟨_, rfl, _, rfl, a, _, _, _, rfl, rfl, hx2, at_of (j := 0) rfl rfl, _, _, rfl, rfl, _, _, rfl, rfl, ?_⟩
        refine ⟨_, rfl, _, rfl, a, _, _, _, rfl, rfl, hx2, at_of (j := 0) rfl rfl, _, _, rfl, rfl, ?_⟩
        refine ⟨_, rfl, _, rfl, a, _, _, _, rfl, rfl, hx2, at_of (j := 0) rfl rfl, _, _, rfl, rfl, _, _, rfl, rfl, ?_⟩
        refine ⟨_, rfl, _, _, rfl, rfl, _, rfl, _, rfl, _, _, rfl, rfl, sz, fun m hm => ?_⟩
        have elm : l ≠ m := ne_of_none hl2 hm
        refine ⟨l, m, _, _, rfl, rfl, by rw [upd_ne elm]; exact hl2, upd_same, ?_, ?_⟩
        · rw [List.length_map]; exact small (by show ws.length + 6 ≤ 1000; omega)
        · have S3 : Same H2 (upd H2 m (.lst [.int (e - d.add - 1), .int (e - d.add), .int (e - d.add + 1), .int (e - 1), .int e, .int (e + 1)])) := same_new hm _
          refine ⟨ws ++ [e - d.add - 1, e - d.add, e - d.add + 1, e - 1, e, e + 1], _, rfl, ?_, ?_, ?_, ?_, ?_, ?_⟩
          · exact but_same hl s2 ((same_but S3).trans But.upd)
          · exact but_tup ((same_but S3).trans But.upd) hl2 hx2
          · rw [upd_ne (ne_of h2 hl2 (by intro z; cases z))]; exact S3 _ _ h2
          · rw [upd_same, List.map_append] <;> rfl
          · intro x hx
            rcases List.mem_append.mp hx with h | h
            · exact hI x h
            · simp only [List.mem_cons, List.mem_nil_iff, or_false] at h
              rcases h with rfl | rfl | rfl | rfl | rfl | rfl <;> omega
          · rw [List.length_append]; show ws.length + 6 ≤ _; omega
    · rintro σ H2 ⟨ws, v, rfl, s2, hx2, h2, hl2, hI, hn⟩
      exact ⟨_, rfl, q l ws H2 s2 hl hl2 hI (by have : ws.length ≤ 1 + 6 * 2 := hn; omega)⟩
def spWholeDeed : Sp := fun vs H Q _ => ∃ (add : Int) (low high : Option Int), vs = [.int add, oV low, oV high] ∧ NewD H Q (wholeD add low high)
theorem k_whole_deed (D : Df K mg "whole_deed" s_whole_deed ["add", "low", "high"]) : Dn P w K mg base 1 "whole_deed" ["add", "low", "high"] spWholeDeed := by
  refine D.ok fun f fd F => okG0 F sc_whole_deed (fun vs H Q E h => ?_) (fun cdv A outer s H vs Q E hr h => ⟨_, (pss_cons (ps_if (PW.pt (pw_and (pt_cmpR op_notN (pv 1) pe_non (nomark _)) (pw_and1 (pt_cmpR op_eq (pv 1) (pv 2) (nomark _)))))
      (pss_one (ps_ret (pe_tup (pa_cons pe_int (pa_cons (pv 1) (pa_cons (pv 2) pa_nil))))))
      pss_nil)
    (pss_one (ps_ret (pe_tup (pa_cons (pv 0) (pa_cons (pv 1) (pa_cons (pv 2) pa_nil))))))), ?_⟩)
  · obtain ⟨add, low, high, rfl, _⟩ := h; rfl
  · obtain ⟨add, low, high, rfl, q⟩ := h
    have key : ∀ d : Dd, wholeD add low high = d → tRet (tTup (tCons (tC (.int d.add)) (tCons (tC (oV d.low)) (tCons (tC (oV d.high)) tNil)))) { nx := fun _ H' => Q .non H', rt := Q } (start ["add", "low", "high"] [.int add, oV low, oV high]) H := by
      rintro d rfl
      exact ⟨sz, fun p hp => q p _ (same_new hp _) hp upd_same⟩
    cases low with
    | none =>
      refine ⟨_, rfl, rfl, _, rfl, iteF (iteF ?_)⟩
      have := key ⟨add, none, high⟩ (if_neg fun z => z.1 rfl)
      exact ⟨_, rfl, _, rfl, _, rfl, this⟩
    | some l =>
      refine ⟨_, rfl, rfl, _, rfl, iteT ⟨_, rfl, _, rfl, ?_⟩⟩
      cases high with
      | none =>
        have := key ⟨add, some l, none⟩ (if_neg fun z => nomatch z.2)
        exact ⟨rfl, _, rfl, iteF ⟨_, rfl, _, rfl, _, rfl, this⟩⟩
      | some h =>
        refine ⟨rfl, _, rfl, ite2 (fun c => ?_) (fun c => ?_)⟩
        · have c' : l = h := by have := of_decide_eq_true c; cases this; rfl
          have := key ⟨0, some l, some h⟩ (if_pos ⟨Option.some_ne_none l, by rw [c']⟩)
          exact ⟨_, rfl, _, rfl, this⟩
        · have c' : ¬ l = h := fun e => c (decide_eq_true (by rw [e]))
          have := key ⟨add, some l, some h⟩ (if_neg fun z => c' (Option.some.inj z.2))
          exact ⟨_, rfl, _, rfl, _, rfl, this⟩
theorem k__law_whole (D : Df K mg "_law_whole" s__law_whole ["_law_thing"]) : Dn P w K mg base 1 "_law_whole" ["_law_thing"] spIsWhole := by
  refine D.ok fun f fd F => okG0 F sc__law_whole (fun vs H Q E h => ?_) (fun cdv A outer s H vs Q E hr h => ⟨_, (pss_one (ps_ret (pe_and (pe_callB (kk (K := K) (F := rIsi) (P := CallR _ _) call_isi) (by rfl) B.isinstance_ (by decide +kernel) (pa_cons (pv 0) (pa_cons (pe_bltn (v := .ty "int") (u := .type "int") (by rfl) B.int_ (by decide +kernel) rfl) pa_nil))) (pe_one (pe_not (pe_callB (kk (K := K) (F := rIsi) (P := CallR _ _) call_isi) (by rfl) B.isinstance_ (by decide +kernel) (pa_cons (pv 0) (pa_cons (pe_bltn (v := .ty "bool") (u := .type "bool") (by rfl) B.bool_ (by decide +kernel) rfl) pa_nil)))))))), ?_⟩)
  · obtain ⟨i, rfl, _⟩ := h; rfl
  · obtain ⟨i, rfl, q⟩ := h
    refine ⟨_, rfl, _, _, _, _, _, rfl, .ty _, .base (.int _), kit_ty (b := "int") (r := true) (by decide +kernel), _, rfl, iteT ?_⟩
    refine ⟨_, rfl, _, _, _, _, _, rfl, .ty _, .base (.int _), kit_ty (b := "bool") (r := false) (by decide +kernel), _, rfl, ?_⟩
    exact q
def spWantFrom : Sp := fun vs H Q _ => ∃ (i m : Int), vs = [.int i, .int m] ∧ m ≤ i ∧ Q .non H
theorem k_want_from (D : Df K mg "want_from" s_want_from ["thing", "least"]) (D_is_whole : Dn P w K mg base 1 "is_whole" ["thing"] spIsWhole) : Dn P w K mg base 2 "want_from" ["thing", "least"] spWantFrom := by
  refine D.ok fun f fd F => okG0 F sc_want_from (fun vs H Q E h => ?_) (fun cdv A outer s H vs Q E hr h => ⟨_, (pss_one (ps_if (PW.pt (pw_or (pt_not (pt_val (pe_cD D_is_whole (hr.less (by decide)) rfl (pa_cons (pv 0) pa_nil)))) (pw_or1 (pt_cmpR op_lt (pv 0) (pv 1) (nomark _)))))
     (pss_one ps_never)
     pss_nil)), ?_⟩)
  · obtain ⟨i, m, rfl, _⟩ := h; rfl
  · obtain ⟨i, m, rfl, hm, q⟩ := h
    exact ⟨_, rfl, i, rfl, _, rfl, iteF ⟨_, rfl, _, rfl, _, _, rfl, rfl, _, rfl, ifF (decide_eq_false (by omega)) q⟩⟩
def spAgain (K : PySem.W.Frag) : Sp := fun vs H Q _ => ∃ (a : Addr) (d : Dd) (n : Nat), vs = [.ref a, .int n] ∧ DeedArg K H a d ∧ d.add.natAbs < 2 ^ 10000 ∧ n < 2 ^ 10000 ∧ ∀ (r : Addr) H', Same H H' → TupAt K H' r (pw d n).vs → Q (.ref r) H'
theorem k_again (D : Df K mg "again" s_again ["deed", "many"]) (D_want_from : Dn P w K mg base 2 "want_from" ["thing", "least"] spWantFrom) (D_want_deed : Dn P w K mg base 4 "want_deed" ["thing"] (spWantDeed K)) (D_whole_deed : Dn P w K mg base 1 "whole_deed" ["add", "low", "high"] spWholeDeed) : Dn P w K mg base 5 "again" ["deed", "many"] (spAgain K) := by
  refine D.ok fun f fd F => okG0 F sc_again (fun vs H Q E h => ?_) (fun cdv A outer s H vs Q E hr h => ⟨_, (pss_cons (ps_expr (pe_cD D_want_from (hr.less (by decide)) rfl (pa_cons (pv 1) (pa_cons pe_int pa_nil))))
    (pss_cons (ps_expr (pe_cD D_want_deed (hr.less (by decide)) rfl (pa_cons (pv 0) pa_nil)))
    (pss_cons (ps_if (pt_cmpR op_eq (pv 1) pe_int (nomark _))
      (pss_one (ps_ret (pe_glob (v := .ref B.LOOK_.choose) (by rfl) B.LOOK_.choose_spec.1 rfl)))
      pss_nil)
    (pss_cons (ps_asg (pv 0) (kk (K := K) (F := fun K => gTup K _ _) (P := PG _ _) (pg_tup rfl (pgs_cons (pg_name (i := 2) sc_again.nd rfl (Or.inl rfl)) (pgs_cons (pg_name (i := 3) sc_again.nd rfl (Or.inl rfl)) (pgs_cons (pg_name (i := 4) sc_again.nd rfl (Or.inl rfl)) pgs_nil))))))
    (pss_cons (ps_set (i := 5) sc_again.nd rfl (Or.inl rfl) (pe_op op_mulX (pe_op op_sub (pv 1) pe_int) (pv 2)))
    (C8.pss_cut (ps_if (PW.pt (pw_and (pt_cmpR op_notN (pv 3) pe_non (nomark _)) (pw_and1 (pt_cmpR op_gt (pv 5) pe_int (nomark _)))))
      (pss_one (ps_set (i := 3) sc_again.nd rfl (Or.inl rfl) (pe_ifExp (pt_cmpR op_isN (pv 4) pe_non (nomark _)) (pe_op op_add (pv 3) (pv 5)) (pe_callB (call_min2 rfl) (by rfl) B.min_ (by decide +kernel) (pa_cons (pv 4) (pa_cons (pe_op op_add (pv 3) (pv 5)) pa_nil))))))
      pss_nil)
    (C8.pss_cut (ps_if (PW.pt (pw_and (pt_cmpR op_notN (pv 4) pe_non (nomark _)) (pw_and1 (pt_cmpR op_lt (pv 5) pe_int (nomark _)))))
      (pss_one (ps_set (i := 4) sc_again.nd rfl (Or.inl rfl) (pe_ifExp (pt_cmpR op_isN (pv 3) pe_non (nomark _)) (pe_op op_add (pv 4) (pv 5)) (pe_callB (call_max2 rfl) (by rfl) B.max_ (by decide +kernel) (pa_cons (pv 3) (pa_cons (pe_op op_add (pv 4) (pv 5)) pa_nil))))))
      pss_nil)
    (pss_one (ps_ret (pe_cD D_whole_deed (hr.less (by decide)) rfl (pa_cons (pe_op op_mulX (pv 1) (pv 2)) (pa_cons (pv 3) (pa_cons (pv 4) pa_nil))))))))))))), ?_⟩)
  · obtain ⟨a, d, n, rfl, _⟩ := h; rfl
  · obtain ⟨a, d, n, rfl, ha, hd, hn, q⟩ := h
    refine ⟨_, rfl, _, 0, rfl, by omega, _, rfl, a, d, rfl, ha, _, rfl, rfl, _, rfl, ite2 (fun c => ?_) (fun c => ?_)⟩
    · have c' : n = 0 := by have := V.int.inj (of_decide_eq_true c); omega
      subst c'
      exact q _ H (Same.refl H) (.inr B.LOOK_.choose_spec.2)
    have c' : 0 < n := by
      rcases Nat.eq_zero_or_pos n with e | e
      · exact absurd (by rw [e] <;> rfl) c
      · exact e
    obtain ⟨m, rfl⟩ : ∃ m, n = m + 1 := ⟨n - 1, by omega⟩
    have hfin : agn d (((m + 1 : Nat) : Int)) = pw d (m + 1) := agn_pw ha.2.2 m
    refine ⟨_, rfl, a, _, rfl, ha.2.1, rfl, _, _, rfl, _, _, rfl, _, _, rfl, rfl, ?_⟩
    refine ⟨_, rfl, _, _, rfl, rfl, _, rfl, _, _, rfl, rfl, mulx 10001 10000 (by omega) hd, ?_⟩
    have hfar : ∃ far : Int, far = (((m + 1 : Nat) : Int) - 1) * d.add := ⟨_, rfl⟩
    obtain ⟨far, efar⟩ := hfar
    have eA : agn d (((m + 1 : Nat) : Int)) = wholeD (((m + 1 : Nat) : Int) * d.add) (agL d far) (agH d far) := by rw [efar] <;> rfl
    rw [hfin] at eA
    refine ⟨fun σ H2 => H2 = H ∧ σ = [some (.ref a), some (.int ((m + 1 : Nat) : Int)), some (.int d.add), some (oV (agL d far)), some (oV d.high), some (.int far)], ?_, ?_⟩
    · subst efar
      cases e1 : d.low with
      | none => exact ⟨_, rfl, rfl, _, rfl, iteF (iteF ⟨rfl, by rw [agL_n e1] <;> rfl⟩)⟩
      | some l =>
        refine ⟨_, rfl, rfl, _, rfl, iteT ⟨_, rfl, _, _, rfl, rfl, _, rfl, ite2 (fun c => ?_) (fun c => ?_)⟩⟩
        · have c2 : (((m + 1 : Nat) : Int) - 1) * d.add > 0 := of_decide_eq_true c
          cases e2 : d.high with
          | none => exact ⟨_, rfl, rfl, _, rfl, iteT ⟨_, rfl, _, rfl, _, _, rfl, rfl, rfl, by rw [agL_p e1 e2 c2] <;> rfl⟩⟩
          | some h => exact ⟨_, rfl, rfl, _, rfl, iteF ⟨_, rfl, _, rfl, _, rfl, _, _, rfl, rfl, _, _, rfl, rfl, by rw [agL_q e1 e2 c2] <;> rfl⟩⟩
        · have c2 : ¬ (((m + 1 : Nat) : Int) - 1) * d.add > 0 := of_decide_eq_false (Bool.eq_false_iff.mpr c)
          exact ⟨rfl, by rw [agL_z e1 c2] <;> rfl⟩
    rintro _ H2 ⟨rfl, rfl⟩
    refine ⟨fun σ H3 => H3 = H2 ∧ σ = [some (.ref a), some (.int ((m + 1 : Nat) : Int)), some (.int d.add), some (oV (agL d far)), some (oV (agH d far)), some (.int far)], ?_, ?_⟩
    · cases e2 : d.high with
      | none => exact ⟨_, rfl, rfl, _, rfl, iteF (iteF ⟨rfl, by rw [agH_n e2] <;> rfl⟩)⟩
      | some h =>
        refine ⟨_, rfl, rfl, _, rfl, iteT ⟨_, rfl, _, _, rfl, rfl, _, rfl, ite2 (fun c => ?_) (fun c => ?_)⟩⟩
        · have c2 : far < 0 := of_decide_eq_true c
          cases e1 : d.low with
          | none =>
            rw [agL_n e1, agH_p e2 e1 c2]
            exact ⟨_, rfl, rfl, _, rfl, iteT ⟨_, rfl, _, rfl, _, _, rfl, rfl, rfl, rfl⟩⟩
          | some l =>
            rw [agL_z e1 (show ¬ far > 0 by omega), agH_q e2 e1 c2]
            exact ⟨_, rfl, rfl, _, rfl, iteF ⟨_, rfl, _, rfl, _, rfl, _, _, rfl, rfl, _, _, rfl, rfl, rfl⟩⟩
        · have c2 : ¬ far < 0 := of_decide_eq_false (Bool.eq_false_iff.mpr c)
          exact ⟨rfl, by rw [agH_z e2 c2] <;> rfl⟩
    rintro _ _ ⟨rfl, rfl⟩
    refine ⟨_, rfl, _, rfl, _, _, rfl, rfl, mulx 10001 10000 (by omega) hd, _, rfl, _, rfl, _, _, _, rfl, fun r H4 S4 n4 h4 => q r H4 S4 (.inl ?_)⟩
    rw [h4, eA]
def spStays (K : PySem.W.Frag) : Sp := fun vs H Q _ => ∃ (a : Addr) (d : Dd), vs = [.ref a] ∧ DeedArg K H a d ∧ NewS H Q (staysD d)
theorem k_stays (D : Df K mg "stays" s_stays ["deed"]) (D_want_deed : Dn P w K mg base 4 "want_deed" ["thing"] (spWantDeed K)) : Dn P w K mg base 5 "stays" ["deed"] (spStays K) := by
  refine D.ok fun f fd F => okG0 F sc_stays (fun vs H Q E h => ?_) (fun cdv A outer s H vs Q E hr h => ⟨_, (pss_cons (ps_expr (pe_cD D_want_deed (hr.less (by decide)) rfl (pa_cons (pv 0) pa_nil)))
    (pss_cons (ps_asg (pv 0) (kk (K := K) (F := fun K => gTup K _ _) (P := PG _ _) (pg_tup rfl (pgs_cons (pg_name (i := 1) sc_stays.nd rfl (Or.inl rfl)) (pgs_cons (pg_name (i := 2) sc_stays.nd rfl (Or.inl rfl)) (pgs_cons (pg_name (i := 3) sc_stays.nd rfl (Or.inl rfl)) pgs_nil))))))
    (pss_cons (ps_if (pt_cmpR op_eq (pv 1) pe_int (nomark _))
      (pss_one (ps_ret (pe_tup (pa_cons (pv 2) (pa_cons (pv 3) pa_nil)))))
      pss_nil)
    (pss_cons (ps_set (i := 4) sc_stays.nd rfl (Or.inl rfl) (pe_ifExp (pt_cmpR op_gt (pv 1) pe_int (nomark _)) (pv 3) (pv 2)))
    (pss_one (ps_ret (pe_ifExp (pt_cmpR op_isN (pv 4) pe_non (nomark _)) pe_non (pe_tup (pa_cons (pv 4) (pa_cons (pv 4) pa_nil)))))))))), ?_⟩)
  · obtain ⟨a, d, rfl, _⟩ := h; rfl
  · obtain ⟨a, d, rfl, ha, q⟩ := h
    refine ⟨_, rfl, a, d, rfl, ha, _, rfl, a, _, rfl, ha.2.1, rfl, _, _, rfl, _, _, rfl, _, _, rfl, rfl, ?_⟩
    refine ⟨_, rfl, rfl, _, rfl, ?_⟩
    unfold staysD at q
    by_cases c : d.add = 0
    · rw [if_pos c] at q
      refine ifT (decide_eq_true (by rw [c])) ⟨_, rfl, _, rfl, sz, fun p hp => q (.ref p) _ (same_new hp _) ⟨p, rfl, upd_same⟩⟩
    · rw [if_neg c] at q
      refine ifF (decide_eq_false (fun z => c (V.int.inj z))) ⟨_, rfl, _, _, rfl, rfl, _, rfl, ?_⟩
      have key : ∀ o : Option Int, NewS H Q (match o with | none => none | some e => some (some e, some e)) → tRet (tIf (tTest (tOp (fun x y H Q => y = V.non ∧ Q (V.bl (decide (x = V.non))) H) (tVar 4) (tC .non))) (tC .non) (tTup (tCons (tVar 4) (tCons (tVar 4) tNil)))) { nx := fun _ H' => Q .non H', rt := Q }
          [some (.ref a), some (.int d.add), some (oV d.low), some (oV d.high), some (oV o)] H := by
        intro o q
        cases o with
        | none => exact ⟨_, rfl, rfl, _, rfl, iteT (q .non H (Same.refl H) rfl)⟩
        | some e => exact ⟨_, rfl, rfl, _, rfl, iteF ⟨_, rfl, _, rfl, sz, fun p hp => q (.ref p) _ (same_new hp _) ⟨p, rfl, upd_same⟩⟩⟩
      by_cases c2 : d.add > 0
      · rw [if_pos c2] at q
        exact ifT (decide_eq_true c2) ⟨_, rfl, key _ q⟩
      · rw [if_neg c2] at q
        exact ifF (decide_eq_false c2) ⟨_, rfl, key _ q⟩
def spBeyond (K : PySem.W.Frag) : Sp := fun vs H Q _ => ∃ (a : Addr) (d : Dd) (g : Int), vs = [.ref a, .int g] ∧ SqT K H a d.vs ∧ Q (.bl (beyond d g)) H
theorem k_is_beyond (D : Df K mg "is_beyond" s_is_beyond ["deed", "value"]) : Dn P w K mg base 1 "is_beyond" ["deed", "value"] (spBeyond K) := by
  refine D.ok fun f fd F => okG0 F sc_is_beyond (fun vs H Q E h => ?_) (fun cdv A outer s H vs Q E hr h => ⟨_, (pss_cons (ps_par (i := 2) (j := 3) rfl sc_is_beyond.nd rfl rfl (by decide) rfl rfl (pa_cons (pe_ix (kk (K := K) (F := rIxT) (P := IxR _) ix_tup) (pv 0) pe_int (fun _ _ => rfl)) (pa_cons (pe_ix (kk (K := K) (F := rIxT) (P := IxR _) ix_tup) (pv 0) pe_int (fun _ _ => rfl)) pa_nil)) (by rfl))
    (pss_one (ps_ret (pe_or (pe_and (pe_cmpR op_notN (pv 2) pe_non (nomark _)) (pe_one (pe_cmpR op_lt (pv 1) (pv 2) (nomark _)))) (pe_one (pe_and (pe_cmpR op_notN (pv 3) pe_non (nomark _)) (pe_one (pe_cmpR op_gt (pv 1) (pv 3) (nomark _))))))))), ?_⟩)
  · obtain ⟨a, d, g, rfl, _⟩ := h; rfl
  · obtain ⟨a, d, g, rfl, hx, q⟩ := h
    refine ⟨_, rfl, a, _, _, _, rfl, rfl, hx, at_of (j := 1) rfl rfl, _, rfl, a, _, _, _, rfl, rfl, hx, at_of (j := 2) rfl rfl, _, _, rfl, ?_⟩
    unfold beyond at q
    obtain ⟨add, low, high⟩ := d
    have hiW : ∀ b : Bool, Q (.bl (b || beyH high g)) H → ∃ c : Bool, V.bl b = .bl c ∧ if c = true then Q (.bl true) H else tAndV (tOp (fun x y H Q => y = V.non ∧ Q (V.bl (!decide (x = V.non))) H) (tVar 3) (tC .non)) (tOp (rI0 fun i j => .bl (decide (j < i))) (tVar 1) (tVar 3))
        [some (.ref a), some (.int g), some (oV low), some (oV high)] H Q := by
      intro b q
      refine ⟨b, rfl, ?_⟩
      cases b with
      | true => exact iteT q
      | false =>
        refine iteF ?_
        cases high with
        | none => exact ⟨_, rfl, rfl, _, rfl, iteF q⟩
        | some h => exact ⟨_, rfl, rfl, _, rfl, iteT ⟨_, rfl, _, rfl, _, _, rfl, rfl, q⟩⟩
    cases low with
    | none => exact ⟨_, rfl, rfl, _, rfl, iteF (hiW false q)⟩
    | some l => exact ⟨_, rfl, rfl, _, rfl, iteT ⟨_, rfl, _, rfl, _, _, rfl, rfl, hiW _ q⟩⟩
def spLeads (K : PySem.W.Frag) : Sp := fun vs H Q _ => ∃ (a : Addr) (d : Dd) (g : Int), vs = [.ref a, .int g] ∧ DeedArg K H a d ∧ NewS H Q (leadsD d g)
theorem k_leads (D : Df K mg "leads" s_leads ["deed", "value"]) (D_want_whole : Dn P w K mg base 2 "want_whole" ["thing"] spWantWhole) (D_want_deed : Dn P w K mg base 4 "want_deed" ["thing"] (spWantDeed K)) (D_is_beyond : Dn P w K mg base 1 "is_beyond" ["deed", "value"] (spBeyond K)) : Dn P w K mg base 5 "leads" ["deed", "value"] (spLeads K) := by
  refine D.ok fun f fd F => okG0 F sc_leads (fun vs H Q E h => ?_) (fun cdv A outer s H vs Q E hr h => ⟨_, (pss_cons (ps_expr (pe_cD D_want_whole (hr.less (by decide)) rfl (pa_cons (pv 1) pa_nil)))
    (pss_cons (ps_expr (pe_cD D_want_deed (hr.less (by decide)) rfl (pa_cons (pv 0) pa_nil)))
    (pss_cons (ps_if (pt_val (pe_cD D_is_beyond (hr.less (by decide)) rfl (pa_cons (pv 0) (pa_cons (pv 1) pa_nil))))
      (pss_one (ps_ret pe_non))
      pss_nil)
    (pss_cons (ps_set (i := 2) sc_leads.nd rfl (Or.inl rfl) (pe_op op_sub (pv 1) (pe_ix (kk (K := K) (F := rIxT) (P := IxR _) ix_tup) (pv 0) pe_int (fun _ _ => rfl))))
    (pss_one (ps_ret (pe_tup (pa_cons (pe_ifExp (pt_cmpR op_eq (pv 1) (pe_ix (kk (K := K) (F := rIxT) (P := IxR _) ix_tup) (pv 0) pe_int (fun _ _ => rfl)) (nomark _)) pe_non (pv 2)) (pa_cons (pe_ifExp (pt_cmpR op_eq (pv 1) (pe_ix (kk (K := K) (F := rIxT) (P := IxR _) ix_tup) (pv 0) pe_int (fun _ _ => rfl)) (nomark _)) pe_non (pv 2)) pa_nil))))))))), ?_⟩)
  · obtain ⟨a, d, g, rfl, _⟩ := h; rfl
  · obtain ⟨a, d, g, rfl, ha, q⟩ := h
    refine ⟨_, rfl, g, rfl, _, rfl, a, d, rfl, ha, _, rfl, _, rfl, a, d, g, rfl, ha.2.1, _, rfl, ?_⟩
    unfold leadsD at q
    by_cases c : beyond d g = true
    · rw [if_pos c] at q
      exact ifT c (q .non H (Same.refl H) rfl)
    · rw [if_neg c] at q
      refine ifF (Bool.eq_false_iff.mpr c) ⟨_, rfl, _, rfl, a, _, _, _, rfl, rfl, ha.2.1, at_of (j := 0) rfl rfl, _, _, rfl, rfl, ?_⟩
      have key : ∀ o : Option Int, decide (V.int g = oV o) = decide (some g = o) := by
        intro o
        cases o with
        | none => rw [decide_eq_false (fun z => nomatch z), decide_eq_false (fun z => nomatch z)]
        | some x =>
          show decide (V.int g = V.int x) = decide (some g = some x)
          by_cases e : g = x
          · rw [e, decide_eq_true rfl, decide_eq_true rfl]
          · rw [decide_eq_false (fun z => e (V.int.inj z)), decide_eq_false (fun z => e (Option.some.inj z))]
      have sc : ∀ o : Option Int, scal (.int g) (oV o) = true := fun o => by cases o <;> rfl
      refine ⟨_, rfl, _, rfl, a, _, _, _, rfl, rfl, ha.2.1, at_of (j := 1) rfl rfl, sc _, _, rfl, ?_⟩
      have fin : ∀ lo : Option Int, lo = (if some g = d.low then none else some (g - d.add)) → tCons (tIf (tTest (tOp rEq (tVar 1) (tOp (rIxT K) (tVar 0) (tC (.int 2))))) (tC .non) (tVar 2)) tNil [some (.ref a), some (.int g), some (.int (g - d.add))] H fun vs H1 => ([oV lo] ++ vs).length ≤ sizeLine ∧ ∀ p, H1 p = none → Q (.ref p) (upd H1 p (.tup ([oV lo] ++ vs))) := by
        rintro _ rfl
        refine ⟨_, rfl, _, rfl, a, _, _, _, rfl, rfl, ha.2.1, at_of (j := 2) rfl rfl, sc _, _, rfl, ?_⟩
        rw [key]
        by_cases c2 : some g = d.high
        · refine ifT (decide_eq_true c2) ⟨sz, fun p hp => q (.ref p) _ (same_new hp _) ⟨p, rfl, ?_⟩⟩
          rw [upd_same, if_pos c2] <;> rfl
        · refine ifF (decide_eq_false c2) ⟨_, rfl, sz, fun p hp => q (.ref p) _ (same_new hp _) ⟨p, rfl, ?_⟩⟩
          rw [upd_same, if_neg c2] <;> rfl
      rw [show decide (V.int g = oV d.low) = decide (some g = d.low) from key _]
      by_cases c1 : some g = d.low
      · exact ifT (decide_eq_true c1) (fin none (by rw [if_pos c1]))
      · exact ifF (decide_eq_false c1) ⟨_, rfl, fin (some (g - d.add)) (by rw [if_neg c1])⟩
def spIsSpan (K : PySem.W.Frag) : Sp := fun vs H Q _ => ∃ (v : V) (s : Span), vs = [v] ∧ SpV H v s ∧ SpOk s ∧ ∀ H', Same H H' → Q (.bl true) H'
theorem k__law_is_span (D : Df K mg "_law_is_span" s__law_is_span ["_law_span"]) (D__law_whole : Dn P w K mg base 1 "_law_whole" ["_law_thing"] spIsWhole) : Dn P w K mg base 2 "_law_is_span" ["_law_span"] (spIsSpan K) := by
  refine D.ok fun f fd F => okG0 F sc__law_is_span (fun vs H Q E h => ?_) (fun cdv A outer s H vs Q E hr h => ⟨_, (pss_cons (ps_if (pt_cmpR op_isN (pv 0) pe_non (nomark _))
      (pss_one (ps_ret pe_bl))
      pss_nil)
    (pss_cons (ps_if (PW.pt (pw_or (pt_not (pt_val (pe_callB (kk (K := K) (F := rIsi) (P := CallR _ _) call_isi) (by rfl) B.isinstance_ (by decide +kernel) (pa_cons (pv 0) (pa_cons (pe_bltn (v := .ty "tuple") (u := .type "tuple") (by rfl) B.tuple_ (by decide +kernel) rfl) pa_nil))))) (pw_or (pt_cmpR op_ne (pe_callB (lenK (K := K)) (by rfl) B.len_ (by decide +kernel) (pa_cons (pv 0) pa_nil)) pe_int (nomark _)) (pw_or1 (pt_not (pt_val (pe_callB (kk (K := K) (F := rAll) (P := CallR _ _) (cr_all rfl)) (by rfl) B.all_ (by decide +kernel) (pa_cons (pe_lc (own := [("_law_end", 1)]) (g := gName 1) (tt := tYes) rfl sc__law_is_span.nd (kk (K := K) (F := fun K => iTup K _) (P := PI _ _ _) (pi_tup (pv 0))) (blkOk_by (own := [("_law_end", 1)]) (N := ["_law_span", "_law_end"]) (sc := defScope s__law_is_span) (by decide +kernel)) (fun _ _ _ _ _ => (pg_name (i := 1) sc__law_is_span.nd rfl (Or.inl rfl))) (fun _ _ _ _ _ => pts_nil) (fun _ _ _ _ _ => (pe_or (pe_cmpR op_isN (pv 1) pe_non (nomark _)) (pe_one (pe_cD D__law_whole (hr.less (by decide)) rfl (pa_cons (pv 1) pa_nil)))))) pa_nil))))))))
      (pss_one (ps_ret pe_bl))
      pss_nil)
    (pss_one (ps_ret (pe_or (pe_cmpR op_isN (pe_ix (kk (K := K) (F := rIxT) (P := IxR _) ix_tup) (pv 0) pe_int (fun _ _ => rfl)) pe_non (nomark _)) (pe_or (pe_cmpR op_isN (pe_ix (kk (K := K) (F := rIxT) (P := IxR _) ix_tup) (pv 0) pe_int (fun _ _ => rfl)) pe_non (nomark _)) (pe_one (pe_cmpR op_le (pe_ix (kk (K := K) (F := rIxT) (P := IxR _) ix_tup) (pv 0) pe_int (fun _ _ => rfl)) (pe_ix (kk (K := K) (F := rIxT) (P := IxR _) ix_tup) (pv 0) pe_int (fun _ _ => rfl)) (nomark _))))))))), ?_⟩)
  · obtain ⟨v, s, rfl, _⟩ := h; rfl
  · obtain ⟨v, s, rfl, hv, ok, q⟩ := h
    cases s with
    | none =>
      cases (show v = .non from hv)
      exact ⟨_, rfl, rfl, _, rfl, iteT (q H (Same.refl H))⟩
    | some p =>
      obtain ⟨l, k⟩ := p
      obtain ⟨a, rfl, ha⟩ := hv
      refine ⟨_, rfl, rfl, _, rfl, iteF ?_⟩
      refine ⟨_, rfl, _, _, _, _, _, rfl, .ty _, .base (.tup ha), kit_ty (b := "tuple") (r := true) (by decide +kernel), _, rfl, iteF ?_⟩
      refine ⟨_, rfl, a, _, rfl, .inr (SqT.of ha), rfl, _, rfl, iteF ?_⟩
      refine ⟨_, rfl, a, rfl, ⟨_, SqT.of ha⟩, fun D hD => lc_tup (K := K) (a := a) (xs := [oV l, oV k]) (fun i H2 => Same H H2 ∧ H2 D = some (.lst ((List.replicate i true).map V.bl))) ⟨same_new hD _, upd_same⟩ (fun i H2 _ h => SqT.of (h.1 _ _ ha)) ?_ ?_⟩
      · rintro i y H2 hi ⟨S2, h2⟩
        obtain ⟨hi2, o, rfl, _⟩ := spL_at (s := some (l, k)) hi
        have fin : ∃ acc, H2 D = some (.lst acc) ∧ acc.length < sizeLine ∧ (Same H (upd H2 D (.lst (acc ++ [V.bl true]))) ∧ (upd H2 D (.lst (acc ++ [V.bl true]))) D = some (.lst ((List.replicate (i + 1) true).map V.bl))) :=
          ⟨_, h2, by rw [rep_len]; exact small1000 (by omega), but_same hD S2 But.upd, by rw [upd_same, rep_snoc]⟩
        refine ⟨rfl, ?_⟩
        cases o with
        | none => exact ⟨_, rfl, rfl, _, rfl, iteT fin⟩
        | some e => exact ⟨_, rfl, rfl, _, rfl, iteF ⟨_, rfl, e, rfl, fin⟩⟩
      · rintro H2 ⟨S2, h2⟩
        refine ⟨D, [true, true], rfl, SqL.of h2, _, rfl, iteF ?_⟩
        have ha2 := S2 _ _ ha
        refine ⟨_, rfl, a, _, _, _, rfl, rfl, SqT.of ha2, at_of (j := 0) rfl rfl, rfl, _, rfl, ?_⟩
        cases l with
        | none => exact iteT (q H2 S2)
        | some x =>
          refine iteF ⟨_, rfl, a, _, _, _, rfl, rfl, SqT.of ha2, at_of (j := 1) rfl rfl, rfl, _, rfl, ?_⟩
          cases k with
          | none => exact iteT (q H2 S2)
          | some y =>
            refine iteF ⟨_, rfl, a, _, _, _, rfl, rfl, SqT.of ha2, at_of (j := 0) rfl rfl, _, rfl, a, _, _, _, rfl, rfl, SqT.of ha2, at_of (j := 1) rfl rfl, _, _, rfl, rfl, ?_⟩
            have := ok x y rfl
            have e : (V.bl (decide (x ≤ y))) = .bl true := by rw [decide_eq_true this]
            show Q (V.bl (decide (x ≤ y))) H2
            rw [e]
            exact q H2 S2
def spIn (K : PySem.W.Frag) : Sp := fun vs H Q _ => ∃ (v : V) (s : Span) (x : Int), vs = [v, .int x] ∧ SpV H v s ∧ Q (.bl (inS s x)) H
theorem k__law_in (D : Df K mg "_law_in" s__law_in ["_law_span", "_law_value"]) : Dn P w K mg base 1 "_law_in" ["_law_span", "_law_value"] (spIn K) := by
  refine D.ok fun f fd F => okG0 F sc__law_in (fun vs H Q E h => ?_) (fun cdv A outer s H vs Q E hr h => ⟨_, (pss_cons (ps_if (PW.pt (pw_or (pt_cmpR op_isN (pv 0) pe_non (nomark _)) (pw_or1 (PW.pt (pw_and (pt_cmpR op_notN (pe_ix (kk (K := K) (F := rIxT) (P := IxR _) ix_tup) (pv 0) pe_int (fun _ _ => rfl)) pe_non (nomark _)) (pw_and1 (pt_cmpR op_lt (pv 1) (pe_ix (kk (K := K) (F := rIxT) (P := IxR _) ix_tup) (pv 0) pe_int (fun _ _ => rfl)) (nomark _))))))))
      (pss_one (ps_ret pe_bl))
      pss_nil)
    (pss_one (ps_ret (pe_and (pe_cmpR op_notN (pv 0) pe_non (nomark _)) (pe_one (pe_or (pe_cmpR op_isN (pe_ix (kk (K := K) (F := rIxT) (P := IxR _) ix_tup) (pv 0) pe_int (fun _ _ => rfl)) pe_non (nomark _)) (pe_one (pe_cmpR op_le (pv 1) (pe_ix (kk (K := K) (F := rIxT) (P := IxR _) ix_tup) (pv 0) pe_int (fun _ _ => rfl)) (nomark _))))))))), ?_⟩)
  · obtain ⟨v, s, x, rfl, _⟩ := h; rfl
  · obtain ⟨v, s, x, rfl, hv, q⟩ := h
    cases s with
    | none =>
      cases (show v = .non from hv)
      exact ⟨_, rfl, rfl, _, rfl, iteT q⟩
    | some p =>
      obtain ⟨l, k⟩ := p
      obtain ⟨a, rfl, ha⟩ := hv
      refine ⟨_, rfl, rfl, _, rfl, iteF ?_⟩
      refine ⟨_, rfl, a, _, _, _, rfl, rfl, SqT.of ha, at_of (j := 0) rfl rfl, rfl, _, rfl, ?_⟩
      have hi : (∀ y, l = some y → y ≤ x) → tRet (tAndV (tOp (fun x y H Q => y = V.non ∧ Q (V.bl (!decide (x = V.non))) H) (tVar 0) (tC .non)) (tOrV (tOp (fun x y H Q => y = V.non ∧ Q (V.bl (decide (x = V.non))) H) (tOp (rIxT K) (tVar 0) (tC (.int 1))) (tC .non)) (tOp (rI0 fun i j => V.bl (decide (i ≤ j))) (tVar 1) (tOp (rIxT K) (tVar 0) (tC (.int 1))))))
          { nx := fun _ H' => Q .non H', rt := Q } [some (.ref a), some (.int x)] H := by
        intro hl
        have e0 : inL l x = true := by
          cases l with
          | none => rfl
          | some y => exact decide_eq_true (hl y rfl)
        have q' : Q (.bl (inH k x)) H := by
          have e : inS (some (l, k)) x = inH k x := by
            show (inL l x && inH k x) = _
            rw [e0, Bool.true_and]
          rw [← e]; exact q
        refine ⟨_, rfl, rfl, _, rfl, iteT ⟨_, rfl, a, _, _, _, rfl, rfl, SqT.of ha, at_of (j := 1) rfl rfl, rfl, _, rfl, ?_⟩⟩
        cases k with
        | none => exact iteT q'
        | some y => exact iteF ⟨_, rfl, _, rfl, a, _, _, _, rfl, rfl, SqT.of ha, at_of (j := 1) rfl rfl, _, _, rfl, rfl, q'⟩
      cases l with
      | none => exact iteF (iteF (hi (fun _ h => nomatch h)))
      | some y =>
        refine iteT ⟨_, rfl, _, rfl, a, _, _, _, rfl, rfl, SqT.of ha, at_of (j := 0) rfl rfl, _, _, rfl, rfl, _, rfl, ite2 (fun c => ?_) (fun c => ?_)⟩
        · have c' : x < y := of_decide_eq_true c
          have e : inS (some (some y, k)) x = false := by
            show (decide (y ≤ x) && _) = false
            rw [decide_eq_false (by omega)] <;> rfl
          rw [e] at q
          exact q
        · have c' : ¬ x < y := of_decide_eq_false (Bool.eq_false_iff.mpr c)
          exact hi (fun z hz => by cases hz; omega)
def spPlaces (K : PySem.W.Frag) : Sp := fun vs H Q _ => ∃ (a : Addr) (d : Dd) (v : V) (s : Span), vs = [.ref a, v] ∧ SqT K H a d.vs ∧ d.In (10 ^ 80) ∧ SpV H v s ∧ ∀ (l : Addr) (ws : List Int) H', Same H H' → H l = none → H' l = some (.lst (ws.map V.int)) → ws.length ≤ 60 → Q (.ref l) H'
theorem k__law_places (D : Df K mg "_law_places" s__law_places ["_law_deed_here", "_law_span"]) (D__law_turns : Dn P w K mg base 1 "_law_turns" ["_law_deed_here"] (spTurns K)) : Dn P w K mg base 2 "_law_places" ["_law_deed_here", "_law_span"] (spPlaces K) := by
  refine D.ok fun f fd F => okG0 F sc__law_places (fun vs H Q E h => ?_) (fun cdv A outer s H vs Q E hr h => ⟨_, (pss_cons (ps_set (i := 2) sc__law_places.nd rfl (Or.inl rfl) (pe_op op_cat (pe_cD D__law_turns (hr.less (by decide)) rfl (pa_cons (pv 0) pa_nil)) (pe_lst (pa_cons (pe_op op_pow pe_int pe_int) (pa_cons (pe_un un_neg (pe_op op_pow pe_int pe_int)) pa_nil)))))
    (pss_cons (ps_for PassesOwn.never rfl (kk (K := K) (F := fun K => iTup K _) (P := PI _ _ _) (pi_tup (kk (K := K) (F := fun K => tOrT K _ _) (P := PE _ _) (pe_orT (pv 1) (pe_one (pe_tup pa_nil)))))) (pg_name (i := 3) sc__law_places.nd rfl (Or.inl rfl))
      (pss_one (ps_if (pt_cmpR op_notN (pv 3) pe_non (nomark _))
       (pss_one (ps_expr (kk (K := K) (F := fun K => tBM K "list" _ _ _) (P := PE _ _) (pe_bm PySem.F.plainAttrs_list PySem.F.slot_list_extend PySem.F.type_list_extend mt_extend (pv 2) (pa_cons (pe_lst (pa_cons (pe_op op_sub (pv 3) pe_int) (pa_cons (pv 3) (pa_cons (pe_op op_add (pv 3) pe_int) pa_nil)))) pa_nil)))))
       pss_nil)))
    (pss_one (ps_ret (pv 2))))), ?_⟩)
  · obtain ⟨a, d, v, s, rfl, _⟩ := h; rfl
  · obtain ⟨a, d, v, s, rfl, ha, id, hv, q⟩ := h
    refine ⟨_, rfl, a, d, 10 ^ 80, rfl, ha, by decide, id, fun l ws H1 S1 nl hl _ hlen => ?_⟩
    refine ⟨_, _, rfl, rfl, ⟨by decide, by decide, by decide⟩, _, _, rfl, rfl, ⟨by decide, by decide, by decide⟩, _, rfl, sz, fun m hm => ?_⟩
    have nlm : l ≠ m := ne_of_none hl hm
    refine ⟨l, m, _, _, rfl, rfl, by rw [upd_ne nlm]; exact hl, upd_same, small (by rw [List.length_map]; show ws.length + 2 ≤ 1000; omega), fun L hL => ?_⟩
    have S2 := S1.trans ((same_new hm (.lst [.int (10 ^ Int.toNat 64), .int (-10 ^ Int.toNat 64)])).trans (same_new hL (.lst (ws.map V.int ++ [.int (10 ^ Int.toNat 64), .int (-10 ^ Int.toNat 64)]))))
    have nL0 : H L = none := (S1.trans (same_new hm (.lst [.int (10 ^ Int.toNat 64), .int (-10 ^ Int.toNat 64)]))).free hL
    have hL2 : (upd (upd H1 m (.lst [.int (10 ^ Int.toNat 64), .int (-10 ^ Int.toNat 64)])) L (.lst (ws.map V.int ++ [.int (10 ^ Int.toNat 64), .int (-10 ^ Int.toNat 64)]))) L = some (.lst ((ws ++ [10 ^ Int.toNat 64, -10 ^ Int.toNat 64]).map V.int)) := by rw [upd_same, List.map_append] <;> rfl
    generalize upd (upd H1 m (.lst [.int (10 ^ Int.toNat 64), .int (-10 ^ Int.toNat 64)])) L (.lst (ws.map V.int ++ [.int (10 ^ Int.toNat 64), .int (-10 ^ Int.toNat 64)])) = H2 at S2 hL2
    refine or_span rfl (hv.same S2) fun t H3 S3 ht => ⟨t, rfl, ⟨_, SqT.of ht⟩, ?_⟩
    refine for_tup (K := K) (a := t) (xs := spL s) (fun i σ H4 => ∃ (us : List Int) (w : Option V), σ = [some (.ref a), some v, some (.ref L), w] ∧ Same H H4 ∧ H4 t = some (.tup (spL s)) ∧ H4 L = some (.lst (us.map V.int)) ∧ us.length ≤ 30 + 3 * i)
      ⟨_, none, rfl, S2.trans S3, ht, S3 _ _ hL2, by rw [List.length_append]; show ws.length + 2 ≤ _; omega⟩ (fun i σ H4 _ ⟨_, _, _, _, h, _⟩ => SqT.of h) ?_ ?_
    · rintro i y σ H4 hi ⟨us, w, rfl, S4, ht4, hL4, hn⟩
      obtain ⟨hi2, o, rfl, _⟩ := spL_at hi
      cases o with
      | none => exact ⟨_, rfl, rfl, _, rfl, iteF ⟨us, _, rfl, S4, ht4, hL4, by omega⟩⟩
      | some e =>
        refine ⟨_, rfl, rfl, _, rfl, iteT ⟨_, rfl, .inl ⟨rfl, _, SqL.of hL4⟩, _, rfl, _, _, rfl, rfl, _, rfl, _, rfl, _, _, rfl, rfl, sz, fun z hz => ?_⟩⟩
        have nLz : L ≠ z := ne_of_none hL4 hz
        refine ⟨L, z, _, _, rfl, rfl, by rw [upd_ne nLz]; exact hL4, upd_same, small (by rw [List.length_map]; show us.length + 3 ≤ 1000; omega), ?_⟩
        refine ⟨us ++ [e - 1, e, e + 1], _, rfl, but_same nL0 S4 ((same_but (same_new hz _)).trans But.upd), ?_, by rw [upd_same, List.map_append] <;> rfl, by rw [List.length_append]; show us.length + 3 ≤ _; omega⟩
        rw [upd_ne (ne_of ht4 hL4 (by intro z; cases z))]
        exact (same_new hz _) _ _ ht4
    · rintro σ H4 ⟨us, w, rfl, S4, ht4, hL4, hn⟩
      refine ⟨_, rfl, q L us H4 S4 nL0 hL4 ?_⟩
      have : (spL s).length ≤ 2 := by
        cases s with
        | none => exact Nat.zero_le _
        | some p => exact Nat.le_refl _
      omega
def spStaysR (K : PySem.W.Frag) : Sp := fun vs H Q _ => ∃ (a : Addr) (d : Dd), vs = [.ref a] ∧ Dq K H a d ∧ d.In (10 ^ 80) ∧ ∀ H', Same H H' → Q (.bl true) H'
theorem k__law_stays_right (D : Df K mg "_law_stays_right" s__law_stays_right ["_law_deed_here"]) (D_stays : Dn P w K mg base 5 "stays" ["deed"] (spStays K)) (D__law_is_span : Dn P w K mg base 2 "_law_is_span" ["_law_span"] (spIsSpan K)) (D__law_places : Dn P w K mg base 2 "_law_places" ["_law_deed_here", "_law_span"] (spPlaces K)) (D__law_in : Dn P w K mg base 1 "_law_in" ["_law_span", "_law_value"] (spIn K)) (D__law_makes : Dn P w K mg base 1 "_law_makes" ["_law_deed_here", "_law_value"] (spMakes K)) (D_done : Dn P w K mg base 5 "done" ["deed", "value"] (spDone K)) : Dn P w K mg base 6 "_law_stays_right" ["_law_deed_here"] (spStaysR K) := by
  refine D.ok fun f fd F => okG0 F sc__law_stays_right (fun vs H Q E h => ?_) (fun cdv A outer s H vs Q E hr h => ⟨_, (pss_cons (ps_set (i := 1) sc__law_stays_right.nd rfl (Or.inl rfl) (pe_cD D_stays (hr.less (by decide)) rfl (pa_cons (pv 0) pa_nil)))
    (pss_cons (ps_if (PW.pt (pw_or (pt_not (pt_val (pe_cD D__law_is_span (hr.less (by decide)) rfl (pa_cons (pv 1) pa_nil)))) (pw_or1 (pt_cmpR op_ne (pe_callB (reprK (K := K) hr) (by rfl) B.repr_ (by decide +kernel) (pa_cons (pe_cD D_stays (hr.less (by decide)) rfl (pa_cons (pv 0) pa_nil)) pa_nil)) (pe_callB (reprK (K := K) hr) (by rfl) B.repr_ (by decide +kernel) (pa_cons (pv 1) pa_nil)) (nomark _)))))
      (pss_one (ps_ret pe_bl))
      pss_nil)
    (pss_cons (ps_for PassesOwn.never rfl (kk (K := K) (F := fun K => iList K _) (P := PI _ _ _) (pi_list (pe_cD D__law_places (hr.less (by decide)) rfl (pa_cons (pv 0) (pa_cons (pv 1) pa_nil))))) (pg_name (i := 2) sc__law_stays_right.nd rfl (Or.inl rfl))
      (pss_one (ps_if (pt_cmpR op_ne (pe_cD D__law_in (hr.less (by decide)) rfl (pa_cons (pv 1) (pa_cons (pv 2) pa_nil))) (pe_cmpR op_eq (pe_cD D__law_makes (hr.less (by decide)) rfl (pa_cons (pv 0) (pa_cons (pv 2) pa_nil))) (pv 2) (nomark _)) (nomark _))
       (pss_one (ps_ret pe_bl))
       pss_nil)))
    (pss_one (ps_ret (pe_callB (kk (K := K) (F := rAll) (P := CallR _ _) (cr_all rfl)) (by rfl) B.all_ (by decide +kernel) (pa_cons (pe_lc (own := [("_law_end", 3)]) (g := gName 3) rfl sc__law_stays_right.nd (kk (K := K) (F := fun K => iTup K _) (P := PI _ _ _) (pi_tup (kk (K := K) (F := fun K => tOrT K _ _) (P := PE _ _) (pe_orT (pv 1) (pe_one (pe_tup pa_nil)))))) (blkOk_by (own := [("_law_end", 3)]) (N := ["_law_deed_here", "_law_span", "_law_value", "_law_end"]) (sc := defScope s__law_stays_right) (by decide +kernel)) (fun _ _ _ _ _ => (pg_name (i := 3) sc__law_stays_right.nd rfl (Or.inl rfl))) (fun _ _ _ _ _ => (pts_one (pt_cmpR op_notN (pv 3) pe_non (nomark _)))) (fun _ _ _ _ _ => (pe_cmpR op_eq (pe_cD D_done (hr.less (by decide)) rfl (pa_cons (pv 0) (pa_cons (pv 3) pa_nil))) (pv 3) (nomark _)))) pa_nil))))))), ?_⟩)
  · obtain ⟨a, d, rfl, _⟩ := h; rfl
  · obtain ⟨a, d, rfl, ha, id, q⟩ := h
    have bd := stays_bd id
    refine ⟨_, rfl, a, d, rfl, ha.arg, fun v H1 S1 hv => ?_⟩
    refine ⟨_, rfl, v, _, rfl, hv, stays_ok ha.2, fun H2 S2 => ⟨_, rfl, iteF ?_⟩⟩
    refine ⟨_, rfl, a, d, rfl, (ha.same (S1.trans S2)).arg, fun v2 H3 S3 hv2 => ?_⟩
    obtain ⟨p1, p2, p3⟩ := pS_rest (staysD d)
    have p4 := pS_show bd (by decide)
    refine ⟨_, _, rfl, hv2.dp, p4, p1, shown_sz p4 p2 p3, _, rfl, _, _, rfl, (hv.same (S2.trans S3)).dp, p4, p1, shown_sz p4 p2 p3, rfl, _, rfl, ifF (dec_ne rfl) ?_⟩
    have S13 := S1.trans (S2.trans S3)
    replace hv := hv.same (S2.trans S3)
    refine ⟨_, rfl, _, rfl, a, d, v, _, rfl, (ha.same S13).1.sq, id, hv, fun l ws H4 S4 nl hl hlen => ⟨l, rfl, ⟨_, SqL.of hl⟩, ?_⟩⟩
    have S14 := S13.trans S4
    refine for_list (K := K) (a := l) (xs := ws.map V.int) (fun i σ H5 => H5 = H4 ∧ ∃ w2 w3 : Option V, σ = [some (.ref a), some v, w2, w3]) ⟨rfl, none, none, rfl⟩ (fun i σ H5 _ h => by rw [h.1]; exact SqL.of hl) ?_ ?_
    · rintro i y σ H5 hi ⟨rfl, w2, w3, rfl⟩
      obtain ⟨x, rfl, _⟩ := at_map hi
      refine ⟨_, rfl, _, rfl, v, _, x, rfl, hv.same S4, _, rfl, _, rfl, a, d, x, rfl, (ha.same S14).1.sq, ha.2, _, rfl, rfl, rfl, _, rfl, ifF (dec_ne ?_) ⟨rfl, _, _, rfl⟩⟩
      exact congrArg V.bl (bool_eq_dec ((stays_in ha.2 x).trans ⟨fun z => congrArg V.int z, fun z => V.int.inj z⟩))
    · rintro σ H5 ⟨rfl, w2, w3, rfl⟩
      refine or_span rfl (hv.same S4) fun t H6 S6 ht => ⟨t, rfl, ⟨_, SqT.of ht⟩, fun D hD => ?_⟩
      have S16 := S14.trans S6
      refine lc_tup (K := K) (a := t) (xs := spL (staysD d)) (fun i H7 => Same H H7 ∧ H7 t = some (.tup (spL (staysD d))) ∧ ∃ n, n ≤ i ∧ H7 D = some (.lst ((List.replicate n true).map V.bl)))
        ⟨S16.trans (same_new hD _), by rw [upd_ne (ne_of_none ht hD)]; exact ht, 0, Nat.le_refl _, upd_same⟩ (fun i H7 _ h => SqT.of h.2.1) ?_ ?_
      · rintro i y H7 hi ⟨S7, ht7, n, hn, hD7⟩
        obtain ⟨hi2, o, rfl, l1, k1, e1, e2⟩ := spL_at hi
        refine ⟨rfl, ?_⟩
        cases o with
        | none => exact ⟨_, rfl, rfl, _, rfl, iteF ⟨S7, ht7, n, by omega, hD7⟩⟩
        | some e =>
          refine ⟨_, rfl, rfl, _, rfl, iteT ⟨_, rfl, _, rfl, a, d, e, rfl, (ha.same S7).arg, _, rfl, rfl, ?_⟩⟩
          have ee : d.ap e = e := (stays_in ha.2 e).mp (inS_end (stays_ok ha.2) e1 e2 rfl)
          rw [show decide (V.int (d.ap e) = oV (some e)) = true from decide_eq_true (by rw [ee] <;> rfl)]
          refine ⟨_, hD7, by rw [rep_len]; exact small1000 (by omega), but_same (S16.free hD) S7 But.upd, ?_, n + 1, by omega, by rw [upd_same, rep_snoc]⟩
          rw [upd_ne (ne_of ht7 hD7 (by intro z; cases z))]
          exact ht7
      · rintro H7 ⟨S7, ht7, n, hn, hD7⟩
        refine ⟨D, _, rfl, SqL.of hD7, ?_⟩
        rw [rep_all]
        exact q H7 S7
def spLeadsR (K : PySem.W.Frag) : Sp := fun vs H Q _ => ∃ (a : Addr) (d : Dd) (g : Int), vs = [.ref a, .int g] ∧ Dq K H a d ∧ d.In (10 ^ 80) ∧ (-(10 ^ 90) ≤ g ∧ g ≤ 10 ^ 90) ∧ ∀ H', Same H H' → Q (.bl true) H'
theorem k__law_leads_right (D : Df K mg "_law_leads_right" s__law_leads_right ["_law_deed_here", "_law_goal"]) (D_leads : Dn P w K mg base 5 "leads" ["deed", "value"] (spLeads K)) (D__law_is_span : Dn P w K mg base 2 "_law_is_span" ["_law_span"] (spIsSpan K)) (D__law_places : Dn P w K mg base 2 "_law_places" ["_law_deed_here", "_law_span"] (spPlaces K)) (D__law_in : Dn P w K mg base 1 "_law_in" ["_law_span", "_law_value"] (spIn K)) (D__law_makes : Dn P w K mg base 1 "_law_makes" ["_law_deed_here", "_law_value"] (spMakes K)) (D_done : Dn P w K mg base 5 "done" ["deed", "value"] (spDone K)) : Dn P w K mg base 6 "_law_leads_right" ["_law_deed_here", "_law_goal"] (spLeadsR K) := by
  refine D.ok fun f fd F => okG0 F sc__law_leads_right (fun vs H Q E h => ?_) (fun cdv A outer s H vs Q E hr h => ⟨_, (pss_cons (ps_set (i := 2) sc__law_leads_right.nd rfl (Or.inl rfl) (pe_cD D_leads (hr.less (by decide)) rfl (pa_cons (pv 0) (pa_cons (pv 1) pa_nil))))
    (pss_cons (ps_if (PW.pt (pw_or (pt_not (pt_val (pe_cD D__law_is_span (hr.less (by decide)) rfl (pa_cons (pv 2) pa_nil)))) (pw_or1 (pt_cmpR op_ne (pe_callB (reprK (K := K) hr) (by rfl) B.repr_ (by decide +kernel) (pa_cons (pe_cD D_leads (hr.less (by decide)) rfl (pa_cons (pv 0) (pa_cons (pv 1) pa_nil))) pa_nil)) (pe_callB (reprK (K := K) hr) (by rfl) B.repr_ (by decide +kernel) (pa_cons (pv 2) pa_nil)) (nomark _)))))
      (pss_one (ps_ret pe_bl))
      pss_nil)
    (pss_cons (ps_for PassesOwn.never rfl (kk (K := K) (F := fun K => iList K _) (P := PI _ _ _) (pi_list (pe_op op_cat (pe_cD D__law_places (hr.less (by decide)) rfl (pa_cons (pv 0) (pa_cons (pv 2) pa_nil))) (pe_lst (pa_cons (pe_op op_sub (pe_op op_sub (pv 1) (pe_ix (kk (K := K) (F := rIxT) (P := IxR _) ix_tup) (pv 0) pe_int (fun _ _ => rfl))) pe_int) (pa_cons (pe_op op_sub (pv 1) (pe_ix (kk (K := K) (F := rIxT) (P := IxR _) ix_tup) (pv 0) pe_int (fun _ _ => rfl))) (pa_cons (pe_op op_add (pe_op op_sub (pv 1) (pe_ix (kk (K := K) (F := rIxT) (P := IxR _) ix_tup) (pv 0) pe_int (fun _ _ => rfl))) pe_int) pa_nil))))))) (pg_name (i := 3) sc__law_leads_right.nd rfl (Or.inl rfl))
      (pss_one (ps_if (pt_cmpR op_ne (pe_cD D__law_in (hr.less (by decide)) rfl (pa_cons (pv 2) (pa_cons (pv 3) pa_nil))) (pe_cmpR op_eq (pe_cD D__law_makes (hr.less (by decide)) rfl (pa_cons (pv 0) (pa_cons (pv 3) pa_nil))) (pv 1) (nomark _)) (nomark _))
       (pss_one (ps_ret pe_bl))
       pss_nil)))
    (pss_one (ps_ret (pe_callB (kk (K := K) (F := rAll) (P := CallR _ _) (cr_all rfl)) (by rfl) B.all_ (by decide +kernel) (pa_cons (pe_lc (own := [("_law_end", 4)]) (g := gName 4) rfl sc__law_leads_right.nd (kk (K := K) (F := fun K => iTup K _) (P := PI _ _ _) (pi_tup (kk (K := K) (F := fun K => tOrT K _ _) (P := PE _ _) (pe_orT (pv 2) (pe_one (pe_tup pa_nil)))))) (blkOk_by (own := [("_law_end", 4)]) (N := ["_law_deed_here", "_law_goal", "_law_span", "_law_value", "_law_end"]) (sc := defScope s__law_leads_right) (by decide +kernel)) (fun _ _ _ _ _ => (pg_name (i := 4) sc__law_leads_right.nd rfl (Or.inl rfl))) (fun _ _ _ _ _ => (pts_one (pt_cmpR op_notN (pv 4) pe_non (nomark _)))) (fun _ _ _ _ _ => (pe_cmpR op_eq (pe_cD D_done (hr.less (by decide)) rfl (pa_cons (pv 0) (pa_cons (pv 4) pa_nil))) (pv 1) (nomark _)))) pa_nil))))))), ?_⟩)
  · obtain ⟨a, d, g, rfl, _⟩ := h; rfl
  · obtain ⟨a, d, g, rfl, ha, id, ⟨g1, g2⟩, q⟩ := h
    have bd := leads_bd id g1 g2
    refine ⟨_, rfl, _, rfl, a, d, g, rfl, ha.arg, fun v H1 S1 hv => ?_⟩
    refine ⟨_, rfl, v, _, rfl, hv, leads_ok, fun H2 S2 => ⟨_, rfl, iteF ?_⟩⟩
    refine ⟨_, rfl, _, rfl, a, d, g, rfl, (ha.same (S1.trans S2)).arg, fun v2 H3 S3 hv2 => ?_⟩
    obtain ⟨p1, p2, p3⟩ := pS_rest (leadsD d g)
    have p4 := pS_show bd (by decide)
    refine ⟨_, _, rfl, hv2.dp, p4, p1, shown_sz p4 p2 p3, _, rfl, _, _, rfl, (hv.same (S2.trans S3)).dp, p4, p1, shown_sz p4 p2 p3, rfl, _, rfl, ifF (dec_ne rfl) ?_⟩
    have S13 := S1.trans (S2.trans S3)
    replace hv := hv.same (S2.trans S3)
    refine ⟨_, rfl, _, rfl, a, d, v, _, rfl, (ha.same S13).1.sq, id, hv, fun l0 ws0 H4 S4 nl hl0 hlen => ?_⟩
    have S14 := S13.trans S4
    have ha4 := ha.same S14
    refine ⟨_, rfl, _, rfl, a, _, _, _, rfl, rfl, ha4.1.sq, at_of (j := 0) rfl rfl, _, _, rfl, rfl, _, _, rfl, rfl, ?_⟩
    refine ⟨_, rfl, _, rfl, a, _, _, _, rfl, rfl, ha4.1.sq, at_of (j := 0) rfl rfl, _, _, rfl, rfl, ?_⟩
    refine ⟨_, rfl, _, rfl, a, _, _, _, rfl, rfl, ha4.1.sq, at_of (j := 0) rfl rfl, _, _, rfl, rfl, _, _, rfl, rfl, sz, fun m hm => ?_⟩
    have nlm : l0 ≠ m := ne_of_none hl0 hm
    refine ⟨l0, m, _, _, rfl, rfl, by rw [upd_ne nlm]; exact hl0, upd_same, small (by rw [List.length_map]; show ws0.length + 3 ≤ 1000; omega), fun l hl => ?_⟩
    have S45 := (same_new hm (.lst [.int (g - d.add - 1), .int (g - d.add), .int (g - d.add + 1)])).trans (same_new hl (.lst (ws0.map V.int ++ [.int (g - d.add - 1), .int (g - d.add), .int (g - d.add + 1)])))
    have hl5 : (upd (upd H4 m (.lst [.int (g - d.add - 1), .int (g - d.add), .int (g - d.add + 1)])) l (.lst (ws0.map V.int ++ [.int (g - d.add - 1), .int (g - d.add), .int (g - d.add + 1)]))) l = some (.lst ((ws0 ++ [g - d.add - 1, g - d.add, g - d.add + 1]).map V.int)) := by rw [upd_same, List.map_append] <;> rfl
    refine ⟨l, rfl, ⟨_, SqL.of hl5⟩, ?_⟩
    generalize upd (upd H4 m (.lst [.int (g - d.add - 1), .int (g - d.add), .int (g - d.add + 1)])) l (.lst (ws0.map V.int ++ [.int (g - d.add - 1), .int (g - d.add), .int (g - d.add + 1)])) = H5 at S45 hl5
    generalize ws0 ++ [g - d.add - 1, g - d.add, g - d.add + 1] = ws at hl5
    have S15 := S14.trans S45
    have hv5 := (hv.same S4).same S45
    refine for_list (K := K) (a := l) (xs := ws.map V.int) (fun i σ H6 => H6 = H5 ∧ ∃ w2 w3 : Option V, σ = [some (.ref a), some (.int g), some v, w2, w3]) ⟨rfl, none, none, rfl⟩ (fun i σ H6 _ h => by rw [h.1]; exact SqL.of hl5) ?_ ?_
    · rintro i y σ H6 hi ⟨rfl, w2, w3, rfl⟩
      obtain ⟨x, rfl, _⟩ := at_map hi
      refine ⟨_, rfl, _, rfl, v, _, x, rfl, hv5, _, rfl, _, rfl, a, d, x, rfl, (ha.same S15).1.sq, ha.2, _, rfl, rfl, rfl, _, rfl, ifF (dec_ne ?_) ⟨rfl, _, _, rfl⟩⟩
      exact congrArg V.bl (bool_eq_dec ((leads_in ha.2 g x).trans ⟨fun z => congrArg V.int z, fun z => V.int.inj z⟩))
    · rintro σ H6 ⟨rfl, w2, w3, rfl⟩
      refine or_span rfl hv5 fun t H6 S6 ht => ⟨t, rfl, ⟨_, SqT.of ht⟩, fun D hD => ?_⟩
      have S16 := S15.trans S6
      refine lc_tup (K := K) (a := t) (xs := spL (leadsD d g)) (fun i H7 => Same H H7 ∧ H7 t = some (.tup (spL (leadsD d g))) ∧ ∃ n, n ≤ i ∧ H7 D = some (.lst ((List.replicate n true).map V.bl)))
        ⟨S16.trans (same_new hD _), by rw [upd_ne (ne_of_none ht hD)]; exact ht, 0, Nat.le_refl _, upd_same⟩ (fun i H7 _ h => SqT.of h.2.1) ?_ ?_
      · rintro i y H7 hi ⟨S7, ht7, n, hn, hD7⟩
        obtain ⟨hi2, o, rfl, l1, k1, e1, e2⟩ := spL_at hi
        refine ⟨rfl, ?_⟩
        cases o with
        | none => exact ⟨_, rfl, rfl, _, rfl, iteF ⟨S7, ht7, n, by omega, hD7⟩⟩
        | some e =>
          refine ⟨_, rfl, rfl, _, rfl, iteT ⟨_, rfl, _, rfl, a, d, e, rfl, (ha.same S7).arg, _, rfl, rfl, ?_⟩⟩
          have ee : d.ap e = g := (leads_in ha.2 g e).mp (inS_end leads_ok e1 e2 rfl)
          rw [show decide (V.int (d.ap e) = V.int g) = true from decide_eq_true (by rw [ee])]
          refine ⟨_, hD7, by rw [rep_len]; exact small1000 (by omega), but_same (S16.free hD) S7 But.upd, ?_, n + 1, by omega, by rw [upd_same, rep_snoc]⟩
          rw [upd_ne (ne_of ht7 hD7 (by intro z; cases z))]
          exact ht7
      · rintro H7 ⟨S7, ht7, n, hn, hD7⟩
        refine ⟨D, _, rfl, SqL.of hD7, ?_⟩
        rw [rep_all]
        exact q H7 S7
def spLaw (K : PySem.W.Frag) : Sp := fun vs H Q _ => ∃ (a : Addr) (ns : List Int), vs = [.ref a] ∧ SqL K H a (ns.map V.int) ∧ ns.length ≤ 63 ∧ ∀ H', Q (.bl true) H'
theorem k_law {f : Addr} {fd : FuncData} (F : Fun K "law" "law" s_law f fd) (D__law_pot : Dn P w K mg base 1 "_law_pot" ["_law_script", "_law_k"] (spPot K)) (D__law_take : Dn P w K mg base 1 "_law_take" ["_law_pot_here", "_law_many"] spTake) (D__law_deed : Dn P w K mg base 3 "_law_deed" ["_law_pot_here"] spDeed) (D__law_number : Dn P w K mg base 2 "_law_number" ["_law_pot_here"] spNumber) (D_again : Dn P w K mg base 5 "again" ["deed", "many"] (spAgain K)) (D_done : Dn P w K mg base 5 "done" ["deed", "value"] (spDone K)) (D__law_stays_right : Dn P w K mg base 6 "_law_stays_right" ["_law_deed_here"] (spStaysR K)) (D__law_leads_right : Dn P w K mg base 6 "_law_leads_right" ["_law_deed_here", "_law_goal"] (spLeadsR K)) (D_stays : Dn P w K mg base 5 "stays" ["deed"] (spStays K)) : FnG P w K mg base CX0 7 f fd ["_law_script"] (spLaw K) := by
  refine okG0 F sc_law (fun vs H Q E h => ?_) (fun cdv A outer s H vs Q E hr h => ⟨_, (pss_cons (ps_for PassesOwn.never rfl (pi_range1 (by rfl) B.range_ (pa_cons (pe_op op_add (pe_callB (call_min2 rfl) (by rfl) B.min_ (by decide +kernel) (pa_cons (pe_callB (lenK (K := K)) (by rfl) B.len_ (by decide +kernel) (pa_cons (pv 0) pa_nil)) (pa_cons pe_int pa_nil))) pe_int) pa_nil)) (pg_name (i := 1) sc_law.nd rfl (Or.inl rfl))
      (pss_cons (ps_set (i := 2) sc_law.nd rfl (Or.inl rfl) (pe_cD D__law_pot (hr.less (by decide)) rfl (pa_cons (pv 0) (pa_cons (pv 1) pa_nil))))
      (pss_cons (ps_set (i := 3) sc_law.nd rfl (Or.inl rfl) (pe_cmpR op_eq (pe_cD D__law_take (hr.less (by decide)) rfl (pa_cons (pv 2) (pa_cons pe_int pa_nil))) pe_int (nomark _)))
      (pss_cons (ps_set (i := 4) sc_law.nd rfl (Or.inr rfl) (pe_cD D__law_deed (hr.less (by decide)) rfl (pa_cons (pv 2) pa_nil)))
      (pss_cons (ps_set (i := 5) sc_law.nd rfl (Or.inl rfl) (pe_cD D__law_number (hr.less (by decide)) rfl (pa_cons (pv 2) pa_nil)))
      (C8.pss_cut (ps_if (pt_val (pv 3))
        (pss_one (ps_set (i := 4) sc_law.nd rfl (Or.inr rfl) (pe_cD D_again (hr.less (by decide)) rfl (pa_cons (pv 4) (pa_cons (pe_callB call_abs (by rfl) B.abs_ (by decide +kernel) (pa_cons (pe_cD D__law_number (hr.less (by decide)) rfl (pa_cons (pv 2) pa_nil)) pa_nil)) pa_nil)))))
        pss_nil)
      (pss_cons (ps_set (i := 6) sc_law.nd rfl (Or.inl rfl) (pe_lst (pa_cons (pv 5) (pa_cons (pe_cD D_done (hr.less (by decide)) rfl (pa_cons (pv 4) (pa_cons (pv 5) pa_nil))) (pa_cons pe_int pa_nil)))))
      (pss_cons (ps_for PassesOwn.never rfl (kk (K := K) (F := fun K => iTup K _) (P := PI _ _ _) (pi_tup (pe_slice (kk (K := K) (F := rSlT) (P := L2.SlR _) sl_tup) (pv 4) (po_some pe_int) po_none))) (pg_name (i := 7) sc_law.nd rfl (Or.inl rfl))
        (pss_one (ps_if (pt_cmpR op_notN (pv 7) pe_non (nomark _))
         (pss_one (ps_expr (kk (K := K) (F := fun K => tBM K "list" _ _ _) (P := PE _ _) (pe_bm PySem.F.plainAttrs_list PySem.F.slot_list_extend PySem.F.type_list_extend mt_extend (pv 6) (pa_cons (pe_slice (kk (K := K) (F := rSlL) (P := L2.SlR _) sl_list) (pe_lst (pa_cons (pe_op op_sub (pv 7) pe_int) (pa_cons (pv 7) (pa_cons (pe_op op_add (pv 7) pe_int) pa_nil)))) (po_some (pe_callTy call_int1 (by rfl) B.int_ (by decide +kernel) (pa_cons (pe_cmpR op_gt (pe_callB call_abs (by rfl) B.abs_ (by decide +kernel) (pa_cons (pv 7) pa_nil)) (pe_op op_add (pe_op op_pow pe_int pe_int) pe_int) (nomark _)) pa_nil))) (po_some (pe_op op_sub pe_int (pe_callTy call_int1 (by rfl) B.int_ (by decide +kernel) (pa_cons (pe_cmpR op_gt (pe_callB call_abs (by rfl) B.abs_ (by decide +kernel) (pa_cons (pv 7) pa_nil)) (pe_op op_add (pe_op op_pow pe_int pe_int) pe_int) (nomark _)) pa_nil))))) pa_nil)))))
         pss_nil)))
      (pss_one (ps_if (PW.pt (pw_or (pt_not (pt_val (pe_cD D__law_stays_right (hr.less (by decide)) rfl (pa_cons (pv 4) pa_nil)))) (pw_or1 (pt_not (pt_val (pe_callB (kk (K := K) (F := rAll) (P := CallR _ _) (cr_all rfl)) (by rfl) B.all_ (by decide +kernel) (pa_cons (pe_lc (own := [("_law_goal", 8)]) (g := gName 8) (tt := tYes) rfl sc_law.nd (kk (K := K) (F := fun K => iList K _) (P := PI _ _ _) (pi_list (pv 6))) (blkOk_by (own := [("_law_goal", 8)]) (N := ["_law_script", "_law_k", "_law_pot_here", "_law_is_great", "_law_deed_here", "_law_value", "_law_goals", "_law_end", "_law_goal"]) (sc := defScope s_law) (by decide +kernel)) (fun _ _ _ _ _ => (pg_name (i := 8) sc_law.nd rfl (Or.inl rfl))) (fun _ _ _ _ _ => pts_nil) (fun _ _ _ _ _ => (pe_cD D__law_leads_right (hr.less (by decide)) rfl (pa_cons (pv 4) (pa_cons (pv 8) pa_nil))))) pa_nil)))))))
       (pss_one (ps_ret pe_bl))
       pss_nil))))))))))
    (pss_one (ps_ret (pe_and (pe_cmpR (kk (K := K) (F := rEqD) (P := OpR _ _) (op_eqD hr.units)) (pe_cD D_stays (hr.less (by decide)) rfl (pa_cons (pe_tup (pa_cons pe_int (pa_cons pe_non (pa_cons pe_non pa_nil)))) pa_nil)) (pe_tup (pa_cons pe_non (pa_cons pe_non pa_nil))) (nomark _)) (pe_one (pe_cmpR op_isN (pe_cD D_stays (hr.less (by decide)) rfl (pa_cons (pe_tup (pa_cons pe_int (pa_cons pe_non (pa_cons pe_non pa_nil)))) pa_nil)) pe_non (nomark _))))))), ?_⟩)
  · obtain ⟨a, ns, rfl, _⟩ := h; rfl
  · obtain ⟨a, ns, rfl, hs, hn, q⟩ := h
    refine ⟨_, rfl, a, _, rfl, .inl hs, _, _, rfl, _, _, rfl, rfl, _, rfl, ?_, ?_, ?_⟩
    · split <;> simp <;> omega
    · split <;> simp <;> omega
    have hN : ((if (8 : Int) < ((ns.map V.int).length : Nat) then (8 : Int) else ((ns.map V.int).length : Nat)) + 1).toNat ≤ 9 := by split <;> omega
    generalize ((if (8 : Int) < ((ns.map V.int).length : Nat) then (8 : Int) else ((ns.map V.int).length : Nat)) + 1).toNat = n at hN
    refine for_range (lo := 0) (n := n) (fun i σ H1 => ∃ (x1 x2 x3 x4 x5 x6 x7 x8 : Option V), σ = [some (.ref a), x1, x2, x3, x4, x5, x6, x7, x8] ∧ Same H H1)
      ⟨none, none, none, none, none, none, none, none, rfl, Same.refl H⟩ ?_ ?_
    · rintro i σ H1 hi ⟨x1, x2, x3, x4, x5, x6, x7, x8, rfl, S1⟩
      refine ⟨_, rfl, _, rfl, a, ns, i, by show [V.ref a, V.int (0 + (i : Int))] = _; rw [Int.zero_add], S1.seq hs, by omega, fun p H2 np S2 p2 => ?_⟩
      refine ⟨_, rfl, p, 4, rfl, p2, by decide, by decide, fun g H3 g0 g4 b3 p3 => ⟨rfl, ?_⟩⟩
      refine ⟨_, rfl, p, rfl, p3, fun aA dA H4 b4 p4 nA hA iA oA => ?_⟩
      refine ⟨_, rfl, p, rfl, p4, fun v H5 v0 v1 b5 p5 => ?_⟩
      have eA : Dq K H5 aA dA := ⟨.inl (b5 _ _ (pot_ne p3 nA) hA), oA⟩
      have S15 : Same H1 H5 := but_same np S2 (b3.trans (b4.trans b5))
      refine ⟨fun σ H6 => ∃ (y3 y6 y7 y8 : Option V) (bA : Addr) (fA : Dd), σ = [some (.ref a), some (.int (0 + (i : Int))), some (.ref p), y3, some (.ref bA), some (.int v), y6, y7, y8] ∧ Same H1 H6 ∧ Dq K H6 bA fA ∧ fA.In (10 ^ 80), ?_, ?_⟩
      · refine ⟨_, rfl, _, rfl, ite2 (fun _ => ?_) (fun _ => ?_)⟩
        · refine ⟨_, rfl, _, rfl, p, rfl, p5, fun u H6 u0 u1 b6 p6 => ⟨_, rfl, ?_⟩⟩
          obtain ⟨m, hm, hm2⟩ : ∃ m : Nat, (if u < 0 then -u else u) = (m : Int) ∧ m ≤ 10 ^ 29 := ⟨(if u < 0 then -u else u).toNat, by split <;> omega, by split <;> omega⟩
          rw [hm]
          obtain ⟨_, _, hpl, _⟩ := p5
          have eA6 : Dq K H6 aA dA := ⟨eA.1.but b6 hpl, oA⟩
          have B1 : (m : Int) * (10 ^ 29 + 3) ≤ 10 ^ 80 := Int.le_trans (Int.mul_le_mul_of_nonneg_right (by omega : (m : Int) ≤ 10 ^ 29) (by decide)) (by decide)
          refine ⟨aA, dA, m, rfl, eA6.arg, Nat.lt_of_le_of_lt (m := 10 ^ 29 + 3) (by have := iA.1; have := iA.2.1; omega) (by decide), Nat.lt_of_le_of_lt hm2 (by decide), fun r H7 S7 tr => ?_⟩
          exact ⟨_, _, _, _, r, pw dA m, rfl, (but_same np S2 (b3.trans (b4.trans (b5.trans b6)))).trans S7, ⟨tr, pw_ok oA m⟩, pw_in' iA (by decide) (Nat.le_refl m) B1⟩
        · exact ⟨_, _, _, _, aA, dA, rfl, S15, eA, In.le iA (by decide)⟩
      clear eA S15
      rintro _ H6 ⟨y3, y6, y7, y8, bA, fA, rfl, S6, eA, iF⟩
      have t1 := ap_in (v := v) (c := 10 ^ 29) iF (by omega) (by omega) (by decide)
      refine ⟨_, rfl, _, rfl, _, rfl, bA, fA, v, rfl, eA.arg, sz, fun L hL => ?_⟩
      have S7 := same_new hL (.lst [.int v, .int (fA.ap v), .int 0])
      refine ⟨_, rfl, _, rfl, bA, _, rfl, (eA.same S7).1.sq, by simp [HT.sIx, Dd.vs], fun t ht => ?_⟩
      have ecut : cutV fA.vs (some 1) none = [oV fA.low, oV fA.high] := rfl
      rw [ecut]
      have S8 := S7.trans (same_new ht (.tup [oV fA.low, oV fA.high]))
      have nLt : L ≠ t := ne_of_none upd_same ht
      refine ⟨t, rfl, ⟨_, SqT.of upd_same⟩, for_tup (K := K) (a := t) (xs := [oV fA.low, oV fA.high]) (fun j σ H9 => ∃ (ws : List Int) (w7 w8 : Option V), σ = [some (.ref a), some (.int (0 + (i : Int))), some (.ref p), y3, some (.ref bA), some (.int v), some (.ref L), w7, w8] ∧ Same H6 H9 ∧ H9 t = some (.tup [oV fA.low, oV fA.high]) ∧ H9 L = some (.lst (ws.map V.int)) ∧ ws.length ≤ 3 + 3 * j ∧ ∀ x ∈ ws, -(10 ^ 90) ≤ x ∧ x ≤ 10 ^ 90)
        ⟨[v, fA.ap v, 0], _, _, rfl, S8, upd_same, by rw [upd_ne nLt, upd_same] <;> rfl, by simp, ?_⟩ (fun j σ H9 _ ⟨_, _, _, _, _, h, _⟩ => SqT.of h) ?_ ?_⟩
      · intro x hx
        simp only [List.mem_cons, List.mem_nil_iff, or_false] at hx
        rcases hx with rfl | rfl | rfl <;> omega
      · rintro j y σ H9 hj ⟨ws, w7, w8, rfl, S9, ht9, hL9, hlen, hws⟩
        have hj2 : j < 2 := by
          have := (List.getElem?_eq_some_iff.mp hj).1
          simpa using this
        obtain ⟨o, rfl, ho⟩ : ∃ o : Option Int, y = oV o ∧ ∀ e, o = some e → -(10 ^ 80) ≤ e ∧ e ≤ 10 ^ 80 := by
          match j, hj with
          | 0, hj => exact ⟨fA.low, (Option.some.inj hj).symm, iF.2.2.1⟩
          | 1, hj => exact ⟨fA.high, (Option.some.inj hj).symm, iF.2.2.2⟩
          | n + 2, hj => simp at hj
        cases o with
        | none => exact ⟨_, rfl, rfl, _, rfl, iteF ⟨ws, _, _, rfl, S9, ht9, hL9, by omega, hws⟩⟩
        | some e =>
          obtain ⟨e1, e2⟩ := ho e rfl
          refine ⟨_, rfl, rfl, _, rfl, iteT ⟨_, rfl, .inl ⟨rfl, _, SqL.of hL9⟩, _, rfl, _, _, rfl, rfl, _, rfl, _, rfl, _, _, rfl, rfl, sz, fun m hm => ?_⟩⟩
          refine ⟨_, rfl, _, rfl, _, _, rfl, rfl, ⟨by decide, by decide, by decide⟩, _, _, rfl, rfl, _, _, rfl, rfl, .inr ⟨_, rfl, _, rfl, ?_⟩⟩
          refine ⟨_, rfl, _, rfl, _, _, rfl, rfl, ⟨by decide, by decide, by decide⟩, _, _, rfl, rfl, _, _, rfl, rfl, .inr ⟨_, rfl, _, _, rfl, rfl, _, rfl, ?_⟩⟩
          refine ⟨m, _, rfl, SqL.of upd_same, fun z hz => ?_⟩
          have nLm : L ≠ m := ne_of_none hL9 hm
          have nLz : L ≠ z := ne_of_none (by rw [upd_ne nLm]; exact hL9) hz
          dsimp only [tNil]
          refine ext_cut (es := [e - 1, e, e + 1]) (by rw [upd_ne nLz, upd_ne nLm]; exact hL9) upd_same (by show ws.length + 3 ≤ 1000; omega) fun us u1 u2 => ?_
          refine ⟨ws ++ us, _, _, rfl, ?_, ?_, upd_same, ?_, ?_⟩
          · exact but_same hL S9 ((same_but ((same_new hm (.lst [.int (e - 1), .int e, .int (e + 1)])).trans (same_new hz _))).trans But.upd)
          · rw [upd_ne (ne_of ht9 hL9 (by intro z; cases z)), upd_ne (ne_of_none ((same_new hm (.lst [.int (e - 1), .int e, .int (e + 1)])) _ _ ht9) hz), upd_ne (ne_of_none ht9 hm)]
            exact ht9
          · rw [List.length_append]
            have : us.length ≤ 3 := u1
            omega
          · intro x hx
            rcases List.mem_append.mp hx with h | h
            · exact hws x h
            · have := u2 x h
              simp only [List.mem_cons, List.mem_nil_iff, or_false] at this
              rcases this with rfl | rfl | rfl <;> omega
      · rintro σ H9 ⟨ws, w7, w8, rfl, S9, ht9, hL9, hlen, hws⟩
        have hlen2 : ws.length ≤ 9 := hlen
        have eA9 := eA.same S9
        refine ⟨_, rfl, bA, fA, rfl, eA9, iF, fun H10 S10 => ⟨_, rfl, iteF ?_⟩⟩
        refine ⟨_, rfl, L, rfl, ⟨_, SqL.of (S10 _ _ hL9)⟩, fun D hD => ?_⟩
        refine lc_list (K := K) (a := L) (xs := ws.map V.int) (fun j H11 => Same H10 H11 ∧ H11 D = some (.lst ((List.replicate j true).map V.bl))) ⟨same_new hD _, upd_same⟩ (fun j H11 _ h => SqL.of (h.1 _ _ (S10 _ _ hL9))) ?_ ?_
        · rintro j y H11 hj ⟨S11, hD11⟩
          obtain ⟨x, rfl, hx⟩ := at_map hj
          have hjn : j < ws.length := (List.getElem?_eq_some_iff.mp hx).1
          refine ⟨rfl, ?_⟩
          refine ⟨_, rfl, _, rfl, bA, fA, x, rfl, (eA9.same S10).same S11, iF, hws x (List.mem_of_getElem? hx), fun H12 S12 => ?_⟩
          exact ⟨_, S12 _ _ hD11, by rw [rep_len]; exact small1000 (by omega), but_same hD (S11.trans S12) But.upd, by rw [upd_same, rep_snoc]⟩
        · rintro H11 ⟨S11, hD11⟩
          refine ⟨D, _, rfl, SqL.of hD11, _, rfl, ifF (by rw [rep_all] <;> rfl) ?_⟩
          exact ⟨_, _, _, _, _, _, _, _, rfl, S1.trans (S6.trans (S9.trans (S10.trans S11)))⟩
    · rintro σ H1 ⟨x1, x2, x3, x4, x5, x6, x7, x8, rfl, S1⟩
      refine ⟨sz, fun t1 n1 => ⟨t1, look, rfl, ⟨.base (.tup upd_same), SqT.of upd_same, look_ok⟩, fun v H2 S2 hv => ?_⟩⟩
      obtain ⟨s1, rfl, hs1⟩ := (show ∃ a, v = .ref a ∧ H2 a = some (.tup [oV none, oV none]) from hv)
      refine ⟨sz, fun t2 n2 => ?_⟩
      refine ⟨.tuple [.none, .none], .tuple [.none, .none], .tup (SqT.of ((same_new n2 _) _ _ hs1)) (.cons .non (.cons .non .nil)), .tup (SqT.of upd_same) (.cons .non (.cons .non .nil)), rfl, rfl, _, rfl, ifT rfl ?_⟩
      refine ⟨sz, fun t3 n3 => ⟨t3, ⟨1, none, none⟩, rfl, ⟨.base (.tup upd_same), SqT.of upd_same, fun _ _ h => nomatch h⟩, fun v H3 S3 hv => ?_⟩⟩
      cases (show v = .non from hv)
      exact ⟨rfl, q _⟩
end
structure AllD (K : PySem.W.Frag) (mg : Str → Option Value) : Prop where
  d_is_whole : Df K mg "is_whole" s_is_whole ["thing"]
  d_is_row_of : Df K mg "is_row_of" s_is_row_of ["thing", "many"]
  d_want_whole : Df K mg "want_whole" s_want_whole ["thing"]
  d_want_from : Df K mg "want_from" s_want_from ["thing", "least"]
  d_is_end : Df K mg "is_end" s_is_end ["thing"]
  d_is_deed : Df K mg "is_deed" s_is_deed ["thing"]
  d_want_deed : Df K mg "want_deed" s_want_deed ["thing"]
  d_put_through : Df K mg "put_through" s_put_through ["deed", "value"]
  d_done : Df K mg "done" s_done ["deed", "value"]
  d_whole_deed : Df K mg "whole_deed" s_whole_deed ["add", "low", "high"]
  d_again : Df K mg "again" s_again ["deed", "many"]
  d_stays : Df K mg "stays" s_stays ["deed"]
  d_is_beyond : Df K mg "is_beyond" s_is_beyond ["deed", "value"]
  d_leads : Df K mg "leads" s_leads ["deed", "value"]
  d__law_pot : Df K mg "_law_pot" s__law_pot ["_law_script", "_law_k"]
  d__law_take : Df K mg "_law_take" s__law_take ["_law_pot_here", "_law_many"]
  d__law_number : Df K mg "_law_number" s__law_number ["_law_pot_here"]
  d__law_deed : Df K mg "_law_deed" s__law_deed ["_law_pot_here"]
  d__law_makes : Df K mg "_law_makes" s__law_makes ["_law_deed_here", "_law_value"]
  d__law_turns : Df K mg "_law_turns" s__law_turns ["_law_deed_here"]
  d__law_whole : Df K mg "_law_whole" s__law_whole ["_law_thing"]
  d__law_is_span : Df K mg "_law_is_span" s__law_is_span ["_law_span"]
  d__law_in : Df K mg "_law_in" s__law_in ["_law_span", "_law_value"]
  d__law_places : Df K mg "_law_places" s__law_places ["_law_deed_here", "_law_span"]
  d__law_stays_right : Df K mg "_law_stays_right" s__law_stays_right ["_law_deed_here"]
  d__law_leads_right : Df K mg "_law_leads_right" s__law_leads_right ["_law_deed_here", "_law_goal"]
  d_law : Df K mg "law" s_law ["_law_script"]
  bl : Bl K mg
theorem all_mk {w : World} {K : PySem.W.Frag} {h : Heap} {mg : Str → Option Value} (X : K.In h) (G : h.Ns mainGlobals mg)
    {f1 f2 f3 f4 f5 f6 f7 f8 f9 f10 f11 f12 f13 f14 f15 f16 f17 f18 f19 f20 f21 f22 f23 f24 f25 f26 f27 : Addr} {od1 an1 od2 an2 od3 an3 od4 an4 od5 an5 od6 an6 od7 an7 od8 an8 od9 an9 od10 an10 od11 an11 od12 an12 od13 an13 od14 an14 od15 an15 od16 an16 od17 an17 od18 an18 od19 an19 od20 an20 od21 an21 od22 an22 od23 an23 od24 an24 od25 an25 od26 an26 od27 an27 : Option Addr} {sl1 sl2 sl3 sl4 sl5 sl6 sl7 sl8 sl9 sl10 sl11 sl12 sl13 sl14 sl15 sl16 sl17 sl18 sl19 sl20 sl21 sl22 sl23 sl24 sl25 sl26 sl27 : Array (Option Value)} {oc1 kV1 dc1 pm1 cd1 ct1 oc2 kV2 dc2 pm2 cd2 ct2 oc3 kV3 dc3 pm3 cd3 ct3 oc4 kV4 dc4 pm4 cd4 ct4 oc5 kV5 dc5 pm5 cd5 ct5 oc6 kV6 dc6 pm6 cd6 ct6 oc7 kV7 dc7 pm7 cd7 ct7 oc8 kV8 dc8 pm8 cd8 ct8 oc9 kV9 dc9 pm9 cd9 ct9 oc10 kV10 dc10 pm10 cd10 ct10 oc11 kV11 dc11 pm11 cd11 ct11 oc12 kV12 dc12 pm12 cd12 ct12 oc13 kV13 dc13 pm13 cd13 ct13 oc14 kV14 dc14 pm14 cd14 ct14 oc15 kV15 dc15 pm15 cd15 ct15 oc16 kV16 dc16 pm16 cd16 ct16 oc17 kV17 dc17 pm17 cd17 ct17 oc18 kV18 dc18 pm18 cd18 ct18 oc19 kV19 dc19 pm19 cd19 ct19 oc20 kV20 dc20 pm20 cd20 ct20 oc21 kV21 dc21 pm21 cd21 ct21 oc22 kV22 dc22 pm22 cd22 ct22 oc23 kV23 dc23 pm23 cd23 ct23 oc24 kV24 dc24 pm24 cd24 ct24 oc25 kV25 dc25 pm25 cd25 ct25 oc26 kV26 dc26 pm26 cd26 ct26 oc27 kV27 dc27 pm27 cd27 ct27 : Value}
    (a1 : PySem.W.nsIn K mainGlobals "is_whole" = some (some (.ref f1))) (l1 : K.lookup f1 = some ⟨oc1, od1, .func (PySem.W.fnOf "is_whole" "is_whole" (defArgs s_is_whole) (defBody s_is_whole) (defScope s_is_whole) .none kV1 dc1 pm1 an1 cd1 ct1), sl1⟩) (c1 : PySem.W.codeIn K cd1 "is_whole" = true) (k1 : PySem.W.keepIn K (.ref f1) = true)
    (a2 : PySem.W.nsIn K mainGlobals "is_row_of" = some (some (.ref f2))) (l2 : K.lookup f2 = some ⟨oc2, od2, .func (PySem.W.fnOf "is_row_of" "is_row_of" (defArgs s_is_row_of) (defBody s_is_row_of) (defScope s_is_row_of) .none kV2 dc2 pm2 an2 cd2 ct2), sl2⟩) (c2 : PySem.W.codeIn K cd2 "is_row_of" = true) (k2 : PySem.W.keepIn K (.ref f2) = true)
    (a3 : PySem.W.nsIn K mainGlobals "want_whole" = some (some (.ref f3))) (l3 : K.lookup f3 = some ⟨oc3, od3, .func (PySem.W.fnOf "want_whole" "want_whole" (defArgs s_want_whole) (defBody s_want_whole) (defScope s_want_whole) .none kV3 dc3 pm3 an3 cd3 ct3), sl3⟩) (c3 : PySem.W.codeIn K cd3 "want_whole" = true) (k3 : PySem.W.keepIn K (.ref f3) = true)
    (a4 : PySem.W.nsIn K mainGlobals "want_from" = some (some (.ref f4))) (l4 : K.lookup f4 = some ⟨oc4, od4, .func (PySem.W.fnOf "want_from" "want_from" (defArgs s_want_from) (defBody s_want_from) (defScope s_want_from) .none kV4 dc4 pm4 an4 cd4 ct4), sl4⟩) (c4 : PySem.W.codeIn K cd4 "want_from" = true) (k4 : PySem.W.keepIn K (.ref f4) = true)
    (a5 : PySem.W.nsIn K mainGlobals "is_end" = some (some (.ref f5))) (l5 : K.lookup f5 = some ⟨oc5, od5, .func (PySem.W.fnOf "is_end" "is_end" (defArgs s_is_end) (defBody s_is_end) (defScope s_is_end) .none kV5 dc5 pm5 an5 cd5 ct5), sl5⟩) (c5 : PySem.W.codeIn K cd5 "is_end" = true) (k5 : PySem.W.keepIn K (.ref f5) = true)
    (a6 : PySem.W.nsIn K mainGlobals "is_deed" = some (some (.ref f6))) (l6 : K.lookup f6 = some ⟨oc6, od6, .func (PySem.W.fnOf "is_deed" "is_deed" (defArgs s_is_deed) (defBody s_is_deed) (defScope s_is_deed) .none kV6 dc6 pm6 an6 cd6 ct6), sl6⟩) (c6 : PySem.W.codeIn K cd6 "is_deed" = true) (k6 : PySem.W.keepIn K (.ref f6) = true)
    (a7 : PySem.W.nsIn K mainGlobals "want_deed" = some (some (.ref f7))) (l7 : K.lookup f7 = some ⟨oc7, od7, .func (PySem.W.fnOf "want_deed" "want_deed" (defArgs s_want_deed) (defBody s_want_deed) (defScope s_want_deed) .none kV7 dc7 pm7 an7 cd7 ct7), sl7⟩) (c7 : PySem.W.codeIn K cd7 "want_deed" = true) (k7 : PySem.W.keepIn K (.ref f7) = true)
    (a8 : PySem.W.nsIn K mainGlobals "put_through" = some (some (.ref f8))) (l8 : K.lookup f8 = some ⟨oc8, od8, .func (PySem.W.fnOf "put_through" "put_through" (defArgs s_put_through) (defBody s_put_through) (defScope s_put_through) .none kV8 dc8 pm8 an8 cd8 ct8), sl8⟩) (c8 : PySem.W.codeIn K cd8 "put_through" = true) (k8 : PySem.W.keepIn K (.ref f8) = true)
    (a9 : PySem.W.nsIn K mainGlobals "done" = some (some (.ref f9))) (l9 : K.lookup f9 = some ⟨oc9, od9, .func (PySem.W.fnOf "done" "done" (defArgs s_done) (defBody s_done) (defScope s_done) .none kV9 dc9 pm9 an9 cd9 ct9), sl9⟩) (c9 : PySem.W.codeIn K cd9 "done" = true) (k9 : PySem.W.keepIn K (.ref f9) = true)
    (a10 : PySem.W.nsIn K mainGlobals "whole_deed" = some (some (.ref f10))) (l10 : K.lookup f10 = some ⟨oc10, od10, .func (PySem.W.fnOf "whole_deed" "whole_deed" (defArgs s_whole_deed) (defBody s_whole_deed) (defScope s_whole_deed) .none kV10 dc10 pm10 an10 cd10 ct10), sl10⟩) (c10 : PySem.W.codeIn K cd10 "whole_deed" = true) (k10 : PySem.W.keepIn K (.ref f10) = true)
    (a11 : PySem.W.nsIn K mainGlobals "again" = some (some (.ref f11))) (l11 : K.lookup f11 = some ⟨oc11, od11, .func (PySem.W.fnOf "again" "again" (defArgs s_again) (defBody s_again) (defScope s_again) .none kV11 dc11 pm11 an11 cd11 ct11), sl11⟩) (c11 : PySem.W.codeIn K cd11 "again" = true) (k11 : PySem.W.keepIn K (.ref f11) = true)
    (a12 : PySem.W.nsIn K mainGlobals "stays" = some (some (.ref f12))) (l12 : K.lookup f12 = some ⟨oc12, od12, .func (PySem.W.fnOf "stays" "stays" (defArgs s_stays) (defBody s_stays) (defScope s_stays) .none kV12 dc12 pm12 an12 cd12 ct12), sl12⟩) (c12 : PySem.W.codeIn K cd12 "stays" = true) (k12 : PySem.W.keepIn K (.ref f12) = true)
    (a13 : PySem.W.nsIn K mainGlobals "is_beyond" = some (some (.ref f13))) (l13 : K.lookup f13 = some ⟨oc13, od13, .func (PySem.W.fnOf "is_beyond" "is_beyond" (defArgs s_is_beyond) (defBody s_is_beyond) (defScope s_is_beyond) .none kV13 dc13 pm13 an13 cd13 ct13), sl13⟩) (c13 : PySem.W.codeIn K cd13 "is_beyond" = true) (k13 : PySem.W.keepIn K (.ref f13) = true)
    (a14 : PySem.W.nsIn K mainGlobals "leads" = some (some (.ref f14))) (l14 : K.lookup f14 = some ⟨oc14, od14, .func (PySem.W.fnOf "leads" "leads" (defArgs s_leads) (defBody s_leads) (defScope s_leads) .none kV14 dc14 pm14 an14 cd14 ct14), sl14⟩) (c14 : PySem.W.codeIn K cd14 "leads" = true) (k14 : PySem.W.keepIn K (.ref f14) = true)
    (a15 : PySem.W.nsIn K mainGlobals "_law_pot" = some (some (.ref f15))) (l15 : K.lookup f15 = some ⟨oc15, od15, .func (PySem.W.fnOf "_law_pot" "_law_pot" (defArgs s__law_pot) (defBody s__law_pot) (defScope s__law_pot) .none kV15 dc15 pm15 an15 cd15 ct15), sl15⟩) (c15 : PySem.W.codeIn K cd15 "_law_pot" = true) (k15 : PySem.W.keepIn K (.ref f15) = true)
    (a16 : PySem.W.nsIn K mainGlobals "_law_take" = some (some (.ref f16))) (l16 : K.lookup f16 = some ⟨oc16, od16, .func (PySem.W.fnOf "_law_take" "_law_take" (defArgs s__law_take) (defBody s__law_take) (defScope s__law_take) .none kV16 dc16 pm16 an16 cd16 ct16), sl16⟩) (c16 : PySem.W.codeIn K cd16 "_law_take" = true) (k16 : PySem.W.keepIn K (.ref f16) = true)
    (a17 : PySem.W.nsIn K mainGlobals "_law_number" = some (some (.ref f17))) (l17 : K.lookup f17 = some ⟨oc17, od17, .func (PySem.W.fnOf "_law_number" "_law_number" (defArgs s__law_number) (defBody s__law_number) (defScope s__law_number) .none kV17 dc17 pm17 an17 cd17 ct17), sl17⟩) (c17 : PySem.W.codeIn K cd17 "_law_number" = true) (k17 : PySem.W.keepIn K (.ref f17) = true)
    (a18 : PySem.W.nsIn K mainGlobals "_law_deed" = some (some (.ref f18))) (l18 : K.lookup f18 = some ⟨oc18, od18, .func (PySem.W.fnOf "_law_deed" "_law_deed" (defArgs s__law_deed) (defBody s__law_deed) (defScope s__law_deed) .none kV18 dc18 pm18 an18 cd18 ct18), sl18⟩) (c18 : PySem.W.codeIn K cd18 "_law_deed" = true) (k18 : PySem.W.keepIn K (.ref f18) = true)
    (a19 : PySem.W.nsIn K mainGlobals "_law_makes" = some (some (.ref f19))) (l19 : K.lookup f19 = some ⟨oc19, od19, .func (PySem.W.fnOf "_law_makes" "_law_makes" (defArgs s__law_makes) (defBody s__law_makes) (defScope s__law_makes) .none kV19 dc19 pm19 an19 cd19 ct19), sl19⟩) (c19 : PySem.W.codeIn K cd19 "_law_makes" = true) (k19 : PySem.W.keepIn K (.ref f19) = true)
    (a20 : PySem.W.nsIn K mainGlobals "_law_turns" = some (some (.ref f20))) (l20 : K.lookup f20 = some ⟨oc20, od20, .func (PySem.W.fnOf "_law_turns" "_law_turns" (defArgs s__law_turns) (defBody s__law_turns) (defScope s__law_turns) .none kV20 dc20 pm20 an20 cd20 ct20), sl20⟩) (c20 : PySem.W.codeIn K cd20 "_law_turns" = true) (k20 : PySem.W.keepIn K (.ref f20) = true)
    (a21 : PySem.W.nsIn K mainGlobals "_law_whole" = some (some (.ref f21))) (l21 : K.lookup f21 = some ⟨oc21, od21, .func (PySem.W.fnOf "_law_whole" "_law_whole" (defArgs s__law_whole) (defBody s__law_whole) (defScope s__law_whole) .none kV21 dc21 pm21 an21 cd21 ct21), sl21⟩) (c21 : PySem.W.codeIn K cd21 "_law_whole" = true) (k21 : PySem.W.keepIn K (.ref f21) = true)
    (a22 : PySem.W.nsIn K mainGlobals "_law_is_span" = some (some (.ref f22))) (l22 : K.lookup f22 = some ⟨oc22, od22, .func (PySem.W.fnOf "_law_is_span" "_law_is_span" (defArgs s__law_is_span) (defBody s__law_is_span) (defScope s__law_is_span) .none kV22 dc22 pm22 an22 cd22 ct22), sl22⟩) (c22 : PySem.W.codeIn K cd22 "_law_is_span" = true) (k22 : PySem.W.keepIn K (.ref f22) = true)
    (a23 : PySem.W.nsIn K mainGlobals "_law_in" = some (some (.ref f23))) (l23 : K.lookup f23 = some ⟨oc23, od23, .func (PySem.W.fnOf "_law_in" "_law_in" (defArgs s__law_in) (defBody s__law_in) (defScope s__law_in) .none kV23 dc23 pm23 an23 cd23 ct23), sl23⟩) (c23 : PySem.W.codeIn K cd23 "_law_in" = true) (k23 : PySem.W.keepIn K (.ref f23) = true)
    (a24 : PySem.W.nsIn K mainGlobals "_law_places" = some (some (.ref f24))) (l24 : K.lookup f24 = some ⟨oc24, od24, .func (PySem.W.fnOf "_law_places" "_law_places" (defArgs s__law_places) (defBody s__law_places) (defScope s__law_places) .none kV24 dc24 pm24 an24 cd24 ct24), sl24⟩) (c24 : PySem.W.codeIn K cd24 "_law_places" = true) (k24 : PySem.W.keepIn K (.ref f24) = true)
    (a25 : PySem.W.nsIn K mainGlobals "_law_stays_right" = some (some (.ref f25))) (l25 : K.lookup f25 = some ⟨oc25, od25, .func (PySem.W.fnOf "_law_stays_right" "_law_stays_right" (defArgs s__law_stays_right) (defBody s__law_stays_right) (defScope s__law_stays_right) .none kV25 dc25 pm25 an25 cd25 ct25), sl25⟩) (c25 : PySem.W.codeIn K cd25 "_law_stays_right" = true) (k25 : PySem.W.keepIn K (.ref f25) = true)
    (a26 : PySem.W.nsIn K mainGlobals "_law_leads_right" = some (some (.ref f26))) (l26 : K.lookup f26 = some ⟨oc26, od26, .func (PySem.W.fnOf "_law_leads_right" "_law_leads_right" (defArgs s__law_leads_right) (defBody s__law_leads_right) (defScope s__law_leads_right) .none kV26 dc26 pm26 an26 cd26 ct26), sl26⟩) (c26 : PySem.W.codeIn K cd26 "_law_leads_right" = true) (k26 : PySem.W.keepIn K (.ref f26) = true)
    (a27 : PySem.W.nsIn K mainGlobals "law" = some (some (.ref f27))) (l27 : K.lookup f27 = some ⟨oc27, od27, .func (PySem.W.fnOf "law" "law" (defArgs s_law) (defBody s_law) (defScope s_law) .none kV27 dc27 pm27 an27 cd27 ct27), sl27⟩) (c27 : PySem.W.codeIn K cd27 "law" = true) (k27 : PySem.W.keepIn K (.ref f27) = true)
    (z0 : PySem.W.nsIn K mainGlobals "abs" = some none)
    (z1 : PySem.W.nsIn K mainGlobals "all" = some none)
    (z2 : PySem.W.nsIn K mainGlobals "bool" = some none)
    (z3 : PySem.W.nsIn K mainGlobals "divmod" = some none)
    (z4 : PySem.W.nsIn K mainGlobals "int" = some none)
    (z5 : PySem.W.nsIn K mainGlobals "isinstance" = some none)
    (z6 : PySem.W.nsIn K mainGlobals "len" = some none)
    (z7 : PySem.W.nsIn K mainGlobals "max" = some none)
    (z8 : PySem.W.nsIn K mainGlobals "min" = some none)
    (z9 : PySem.W.nsIn K mainGlobals "range" = some none)
    (z10 : PySem.W.nsIn K mainGlobals "repr" = some none)
    (z11 : PySem.W.nsIn K mainGlobals "tuple" = some none)
    {tc0_0 : Tok} {ga0 : Addr} {gd0 : Option Addr} {gn0 : Nat} {gs0 : Array (Option Value)} (cst0 : PySem.W.nsIn K mainGlobals "LOOK" = some (some (.ref ga0))) (cstl0 : K.lookup ga0 = some ⟨.type "tuple", gd0, .seq #[.int 0 tc0_0, .none, .none] gn0, gs0⟩)
    : AllD K mg := by
  exact ⟨Df.of l1 c1 k1 (PySem.W.mg_of X G a1) (fun _ _ _ _ _ _ us hl => match us, hl with | [_], _ => rfl), Df.of l2 c2 k2 (PySem.W.mg_of X G a2) (fun _ _ _ _ _ _ us hl => match us, hl with | [_, _], _ => rfl), Df.of l3 c3 k3 (PySem.W.mg_of X G a3) (fun _ _ _ _ _ _ us hl => match us, hl with | [_], _ => rfl), Df.of l4 c4 k4 (PySem.W.mg_of X G a4) (fun _ _ _ _ _ _ us hl => match us, hl with | [_, _], _ => rfl), Df.of l5 c5 k5 (PySem.W.mg_of X G a5) (fun _ _ _ _ _ _ us hl => match us, hl with | [_], _ => rfl), Df.of l6 c6 k6 (PySem.W.mg_of X G a6) (fun _ _ _ _ _ _ us hl => match us, hl with | [_], _ => rfl), Df.of l7 c7 k7 (PySem.W.mg_of X G a7) (fun _ _ _ _ _ _ us hl => match us, hl with | [_], _ => rfl), Df.of l8 c8 k8 (PySem.W.mg_of X G a8) (fun _ _ _ _ _ _ us hl => match us, hl with | [_, _], _ => rfl), Df.of l9 c9 k9 (PySem.W.mg_of X G a9) (fun _ _ _ _ _ _ us hl => match us, hl with | [_, _], _ => rfl), Df.of l10 c10 k10 (PySem.W.mg_of X G a10) (fun _ _ _ _ _ _ us hl => match us, hl with | [_, _, _], _ => rfl), Df.of l11 c11 k11 (PySem.W.mg_of X G a11) (fun _ _ _ _ _ _ us hl => match us, hl with | [_, _], _ => rfl), Df.of l12 c12 k12 (PySem.W.mg_of X G a12) (fun _ _ _ _ _ _ us hl => match us, hl with | [_], _ => rfl), Df.of l13 c13 k13 (PySem.W.mg_of X G a13) (fun _ _ _ _ _ _ us hl => match us, hl with | [_, _], _ => rfl), Df.of l14 c14 k14 (PySem.W.mg_of X G a14) (fun _ _ _ _ _ _ us hl => match us, hl with | [_, _], _ => rfl), Df.of l15 c15 k15 (PySem.W.mg_of X G a15) (fun _ _ _ _ _ _ us hl => match us, hl with | [_, _], _ => rfl), Df.of l16 c16 k16 (PySem.W.mg_of X G a16) (fun _ _ _ _ _ _ us hl => match us, hl with | [_, _], _ => rfl), Df.of l17 c17 k17 (PySem.W.mg_of X G a17) (fun _ _ _ _ _ _ us hl => match us, hl with | [_], _ => rfl), Df.of l18 c18 k18 (PySem.W.mg_of X G a18) (fun _ _ _ _ _ _ us hl => match us, hl with | [_], _ => rfl), Df.of l19 c19 k19 (PySem.W.mg_of X G a19) (fun _ _ _ _ _ _ us hl => match us, hl with | [_, _], _ => rfl), Df.of l20 c20 k20 (PySem.W.mg_of X G a20) (fun _ _ _ _ _ _ us hl => match us, hl with | [_], _ => rfl), Df.of l21 c21 k21 (PySem.W.mg_of X G a21) (fun _ _ _ _ _ _ us hl => match us, hl with | [_], _ => rfl), Df.of l22 c22 k22 (PySem.W.mg_of X G a22) (fun _ _ _ _ _ _ us hl => match us, hl with | [_], _ => rfl), Df.of l23 c23 k23 (PySem.W.mg_of X G a23) (fun _ _ _ _ _ _ us hl => match us, hl with | [_, _], _ => rfl), Df.of l24 c24 k24 (PySem.W.mg_of X G a24) (fun _ _ _ _ _ _ us hl => match us, hl with | [_, _], _ => rfl), Df.of l25 c25 k25 (PySem.W.mg_of X G a25) (fun _ _ _ _ _ _ us hl => match us, hl with | [_], _ => rfl), Df.of l26 c26 k26 (PySem.W.mg_of X G a26) (fun _ _ _ _ _ _ us hl => match us, hl with | [_, _], _ => rfl), Df.of l27 c27 k27 (PySem.W.mg_of X G a27) (fun _ _ _ _ _ _ us hl => match us, hl with | [_], _ => rfl), ⟨PySem.W.mg_none_of X G z0, PySem.W.mg_none_of X G z1, PySem.W.mg_none_of X G z2, PySem.W.mg_none_of X G z3, PySem.W.mg_none_of X G z4, PySem.W.mg_none_of X G z5, PySem.W.mg_none_of X G z6, PySem.W.mg_none_of X G z7, PySem.W.mg_none_of X G z8, PySem.W.mg_none_of X G z9, PySem.W.mg_none_of X G z10, PySem.W.mg_none_of X G z11, ⟨_, PySem.W.mg_of X G cst0, _, _, _, cstl0, rfl, rfl, by show 3 ≤ sizeLine; decide, (.cons ⟨_, rfl⟩ (.cons rfl (.cons rfl .nil)))⟩⟩⟩

theorem law_fd {P : Program} {w : World} {K : PySem.W.Frag} {mg : Str → Option Value} {fa : Addr} (A : AllD K mg) (hfa : mg "law" = some (.ref fa)) :
    ∃ fd : FuncData, (∀ (s : Shared) (v : Value), BindsTo s fd ⟨[v], []⟩ [("_law_script", v)]) ∧ ∀ base : Heap, K.In base → base.Ns mainGlobals mg → FnG P w K mg base CX0 7 fa fd ["_law_script"] (spLaw K) := by
  obtain ⟨f, fd, F, m, b⟩ := A.d_law.ex
  have e := hfa.symm.trans m
  cases e
  refine ⟨fd, fun s v => by obtain ⟨oc, od, kV, doc, pm, an, cdv, ct, osl, rfl, lk, hcd⟩ := F.ex; exact .of_eq rfl, fun base _ _ => ?_⟩
  have B := A.bl
  have D_is_whole : Dn P w K mg base 1 "is_whole" ["thing"] spIsWhole := k_is_whole B A.d_is_whole 
  have D_is_row_of : Dn P w K mg base 1 "is_row_of" ["thing", "many"] (spIsRow K) := k_is_row_of B A.d_is_row_of 
  have D_want_whole : Dn P w K mg base 2 "want_whole" ["thing"] spWantWhole := k_want_whole B A.d_want_whole D_is_whole
  have D_is_end : Dn P w K mg base 2 "is_end" ["thing"] spIsEnd := k_is_end B A.d_is_end D_is_whole
  have D_is_deed : Dn P w K mg base 3 "is_deed" ["thing"] (spIsDeed K) := k_is_deed B A.d_is_deed D_is_whole D_is_row_of D_is_end
  have D_want_deed : Dn P w K mg base 4 "want_deed" ["thing"] (spWantDeed K) := k_want_deed B A.d_want_deed D_is_deed
  have D_put_through : Dn P w K mg base 1 "put_through" ["deed", "value"] (spPut K) := k_put_through B A.d_put_through 
  have D_done : Dn P w K mg base 5 "done" ["deed", "value"] (spDone K) := k_done B A.d_done D_want_whole D_want_deed D_put_through
  have D__law_pot : Dn P w K mg base 1 "_law_pot" ["_law_script", "_law_k"] (spPot K) := k__law_pot B A.d__law_pot 
  have D__law_take : Dn P w K mg base 1 "_law_take" ["_law_pot_here", "_law_many"] spTake := k__law_take B A.d__law_take 
  have D__law_number : Dn P w K mg base 2 "_law_number" ["_law_pot_here"] spNumber := k__law_number B A.d__law_number D__law_take
  have D__law_deed : Dn P w K mg base 3 "_law_deed" ["_law_pot_here"] spDeed := k__law_deed B A.d__law_deed D__law_take D__law_number
  have D__law_makes : Dn P w K mg base 1 "_law_makes" ["_law_deed_here", "_law_value"] (spMakes K) := k__law_makes B A.d__law_makes 
  have D__law_turns : Dn P w K mg base 1 "_law_turns" ["_law_deed_here"] (spTurns K) := k__law_turns B A.d__law_turns 
  have D_whole_deed : Dn P w K mg base 1 "whole_deed" ["add", "low", "high"] spWholeDeed := k_whole_deed B A.d_whole_deed 
  have D__law_whole : Dn P w K mg base 1 "_law_whole" ["_law_thing"] spIsWhole := k__law_whole B A.d__law_whole 
  have D_want_from : Dn P w K mg base 2 "want_from" ["thing", "least"] spWantFrom := k_want_from B A.d_want_from D_is_whole
  have D_again : Dn P w K mg base 5 "again" ["deed", "many"] (spAgain K) := k_again B A.d_again D_want_from D_want_deed D_whole_deed
  have D_stays : Dn P w K mg base 5 "stays" ["deed"] (spStays K) := k_stays B A.d_stays D_want_deed
  have D_is_beyond : Dn P w K mg base 1 "is_beyond" ["deed", "value"] (spBeyond K) := k_is_beyond B A.d_is_beyond 
  have D_leads : Dn P w K mg base 5 "leads" ["deed", "value"] (spLeads K) := k_leads B A.d_leads D_want_whole D_want_deed D_is_beyond
  have D__law_is_span : Dn P w K mg base 2 "_law_is_span" ["_law_span"] (spIsSpan K) := k__law_is_span B A.d__law_is_span D__law_whole
  have D__law_in : Dn P w K mg base 1 "_law_in" ["_law_span", "_law_value"] (spIn K) := k__law_in B A.d__law_in 
  have D__law_places : Dn P w K mg base 2 "_law_places" ["_law_deed_here", "_law_span"] (spPlaces K) := k__law_places B A.d__law_places D__law_turns
  have D__law_stays_right : Dn P w K mg base 6 "_law_stays_right" ["_law_deed_here"] (spStaysR K) := k__law_stays_right B A.d__law_stays_right D_stays D__law_is_span D__law_places D__law_in D__law_makes D_done
  have D__law_leads_right : Dn P w K mg base 6 "_law_leads_right" ["_law_deed_here", "_law_goal"] (spLeadsR K) := k__law_leads_right B A.d__law_leads_right D_leads D__law_is_span D__law_places D__law_in D__law_makes D_done
  exact k_law B F D__law_pot D__law_take D__law_deed D__law_number D_again D_done D__law_stays_right D__law_leads_right D_stays

theorem walk {l : PySem.W.OpenLaw} {q : Program} {loose : List Str} {XP : (Str → Option Value) → Heap → Prop} {YP : World → Heap → Prop} {d : DefRec} {K : Params → PySem.W.Frag} (hn : l.most = some 63) (hdf : d.params.defaults = [])
    (hY : ∀ (w : World) (h : Heap), YP w h → (K w.params).In h) (hname : d.name = "law") (F : ∀ (w : World) (mg : Str → Option Value) (h : Heap), (K w.params).In h → h.Ns mainGlobals mg → AllD (K w.params) mg) :
    PySem.W.WalkO q loose XP YP l.row.toRowW d [] (fun f vs => PySem.call f vs) :=
  walk_G (n := 63) (k := 7) (x := "_law_script") (sp := spLaw) hn (by decide) hdf ⟨rfl, by decide, by decide⟩ hY
    (fun w mg fa h KX G hfa => law_fd (F w mg h KX G) (by rw [hname] at hfa; exact hfa)) fun _ _ a ns hl hS => ⟨a, ns, rfl, hS, hl, fun _ => rfl⟩
end Toy
open PySem PySem.W PyProof.Rows
set_option maxRecDepth 100000 in
set_option maxHeartbeats 0 in
theorem PySem.Challenge.cw_joinedasks_k16_whole_stays_and_leads_holds : PySem.Challenge.rw_joinedasks_k16_whole_stays_and_leads.Holds := by
  w_on; o_law; k_head; (case hw => w_witness2)
  k_fill
  refine Toy.walk (l := PySem.Challenge.rw_joinedasks_k16_whole_stays_and_leads) rfl rfl (fun w h Y => PySem.W.kIn_of Y) rfl ?F
  case F =>
    intro w mg h KX G
    refine' Toy.all_mk (w := w) KX G ?a1 ?l1 ?c1 ?k1 ?a2 ?l2 ?c2 ?k2 ?a3 ?l3 ?c3 ?k3 ?a4 ?l4 ?c4 ?k4 ?a5 ?l5 ?c5 ?k5 ?a6 ?l6 ?c6 ?k6 ?a7 ?l7 ?c7 ?k7 ?a8 ?l8 ?c8 ?k8 ?a9 ?l9 ?c9 ?k9 ?a10 ?l10 ?c10 ?k10 ?a11 ?l11 ?c11 ?k11 ?a12 ?l12 ?c12 ?k12 ?a13 ?l13 ?c13 ?k13 ?a14 ?l14 ?c14 ?k14 ?a15 ?l15 ?c15 ?k15 ?a16 ?l16 ?c16 ?k16 ?a17 ?l17 ?c17 ?k17 ?a18 ?l18 ?c18 ?k18 ?a19 ?l19 ?c19 ?k19 ?a20 ?l20 ?c20 ?k20 ?a21 ?l21 ?c21 ?k21 ?a22 ?l22 ?c22 ?k22 ?a23 ?l23 ?c23 ?k23 ?a24 ?l24 ?c24 ?k24 ?a25 ?l25 ?c25 ?k25 ?a26 ?l26 ?c26 ?k26 ?a27 ?l27 ?c27 ?k27 ?z0 ?z1 ?z2 ?z3 ?z4 ?z5 ?z6 ?z7 ?z8 ?z9 ?z10 ?z11 ?cst0 ?cstl0
    (case a1 => k_is)
    (case l1 => k_is)
    (case c1 => k_is)
    (case k1 => k_is)
    (case a2 => k_is)
    (case l2 => k_is)
    (case c2 => k_is)
    (case k2 => k_is)
    (case a3 => k_is)
    (case l3 => k_is)
    (case c3 => k_is)
    (case k3 => k_is)
    (case a4 => k_is)
    (case l4 => k_is)
    (case c4 => k_is)
    (case k4 => k_is)
    (case a5 => k_is)
    (case l5 => k_is)
    (case c5 => k_is)
    (case k5 => k_is)
    (case a6 => k_is)
    (case l6 => k_is)
    (case c6 => k_is)
    (case k6 => k_is)
    (case a7 => k_is)
    (case l7 => k_is)
    (case c7 => k_is)
    (case k7 => k_is)
    (case a8 => k_is)
    (case l8 => k_is)
    (case c8 => k_is)
    (case k8 => k_is)
    (case a9 => k_is)
    (case l9 => k_is)
    (case c9 => k_is)
    (case k9 => k_is)
    (case a10 => k_is)
    (case l10 => k_is)
    (case c10 => k_is)
    (case k10 => k_is)
    (case a11 => k_is)
    (case l11 => k_is)
    (case c11 => k_is)
    (case k11 => k_is)
    (case a12 => k_is)
    (case l12 => k_is)
    (case c12 => k_is)
    (case k12 => k_is)
    (case a13 => k_is)
    (case l13 => k_is)
    (case c13 => k_is)
    (case k13 => k_is)
    (case a14 => k_is)
    (case l14 => k_is)
    (case c14 => k_is)
    (case k14 => k_is)
    (case a15 => k_is)
    (case l15 => k_is)
    (case c15 => k_is)
    (case k15 => k_is)
    (case a16 => k_is)
    (case l16 => k_is)
    (case c16 => k_is)
    (case k16 => k_is)
    (case a17 => k_is)
    (case l17 => k_is)
    (case c17 => k_is)
    (case k17 => k_is)
    (case a18 => k_is)
    (case l18 => k_is)
    (case c18 => k_is)
    (case k18 => k_is)
    (case a19 => k_is)
    (case l19 => k_is)
    (case c19 => k_is)
    (case k19 => k_is)
    (case a20 => k_is)
    (case l20 => k_is)
    (case c20 => k_is)
    (case k20 => k_is)
    (case a21 => k_is)
    (case l21 => k_is)
    (case c21 => k_is)
    (case k21 => k_is)
    (case a22 => k_is)
    (case l22 => k_is)
    (case c22 => k_is)
    (case k22 => k_is)
    (case a23 => k_is)
    (case l23 => k_is)
    (case c23 => k_is)
    (case k23 => k_is)
    (case a24 => k_is)
    (case l24 => k_is)
    (case c24 => k_is)
    (case k24 => k_is)
    (case a25 => k_is)
    (case l25 => k_is)
    (case c25 => k_is)
    (case k25 => k_is)
    (case a26 => k_is)
    (case l26 => k_is)
    (case c26 => k_is)
    (case k26 => k_is)
    (case a27 => k_is)
    (case l27 => k_is)
    (case c27 => k_is)
    (case k27 => k_is)
    (case z0 => k_is)
    (case z1 => k_is)
    (case z2 => k_is)
    (case z3 => k_is)
    (case z4 => k_is)
    (case z5 => k_is)
    (case z6 => k_is)
    (case z7 => k_is)
    (case z8 => k_is)
    (case z9 => k_is)
    (case z10 => k_is)
    (case z11 => k_is)
    (case cst0 => k_is)
    (case cstl0 => k_is)
#print axioms PySem.Challenge.cw_joinedasks_k16_whole_stays_and_leads_holds

