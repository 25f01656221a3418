import PyProof.Rows.All
import Wide.All
import OpenK.AllK
import Wide.FinOn
import HandS.ForMost
import HandS.Defaults
import HandS.WideBits
import HandS.Conv
import HandS.IsInst
import HandS.RaiseMore
import HandS.SortInts
import HandS.Style
import HandS.Codes
import HandS.ForExc
import HandS.TryMany
import HandS.Flow
import KE.KEqSeq
import PyProof.ReprRoads
import KE.GoesMore
import KE.KDictZip
import PyProof.ListNew
import PyProof.StrLawsRepr
import HandS.TupAny
import HandS.TryOnly
import HandS.ExcIs
import HandS.SetFor
import KE.KDictDisplayH
import HandS.TupLen
import KE.KDictSum
import HandS.Sort
import HandS.HotCalls
import HandS.TupMul
import PySem.Challenge.RW_joinedasks_k67_refused_by_tables
set_option Elab.async false
set_option linter.all false
set_option maxRecDepth 100000
set_option maxHeartbeats 4000000
set_option exponentiation.threshold 100000
namespace Toy
open PySem PySem.Spec PyProof.Rows L2
/-- a def of the text stands behind its name -/
structure Df (K : PySem.W.Frag) (mg : Str → Option Value) (x : Str) (st : Stmt) (ps : List Str) : Prop where
  ex : ∃ f fd, Fun K x x st f fd ∧ mg x = some (.ref f) ∧ Binds K fd ps []
theorem Df.of {K : PySem.W.Frag} {mg : Str → Option Value} {x : Str} {st : Stmt} {ps : List Str} {f : Addr} {oc : Value} {od an : Option Addr} {osl : Array (Option Value)} {kV doc pm cdv ct : Value}
    (l : K.lookup f = some ⟨oc, od, .func (PySem.W.fnOf x x (defArgs st) (defBody st) (defScope st) .none kV doc pm an cdv ct), osl⟩) (c : PySem.W.codeIn K cdv x = true) (k : PySem.W.keepIn K (.ref f) = true) (m : mg x = some (.ref f))
    (h : ∀ (kV doc pm : Value) (an : Option Addr) (cdv ct : Value) (us : List Value), us.length = ps.length → bindArgs (PySem.W.fnOf x x (defArgs st) (defBody st) (defScope st) .none kV doc pm an cdv ct) ⟨us, []⟩ = pure (ps.zip us)) : Df K mg x st ps :=
  ⟨_, _, fun_mk l c k, m, (fun_mk l c k).binds h⟩
end Toy
namespace Toy
open PySem PySem.Spec PyProof.Rows L2
/-- room for calls, and nothing is being shown (repr, str of containers ask that) -/
structure RoomG (k : Nat) (A : Around) : Prop where
  room : Room k A
  idle : A.guards = some []
theorem RoomG.less {j k : Nat} {A : Around} (r : RoomG k A) (h : j ≤ k) : RoomG j A := ⟨r.room.mono h, r.idle⟩
theorem RoomG.units {k : Nat} {A : Around} (r : RoomG k A) : A.units + 64 < cLine := r.room.units
theorem RoomG.in_ {k : Nat} {A : Around} (r : RoomG (k + 1) A) (env : Env) : RoomG k (A.deeper env) := ⟨r.room.deeper env, r.idle⟩
/-- a def's promise under such a call -/
structure FnG (P : Program) (w : World) (K : PySem.W.Frag) (mg : Str → Option Value) (base : Heap) (CX : CXT) (k : Nat) (f : Addr) (fd : FuncData) (ps : List Str) (sp : Sp) : Prop where
  arity : ∀ vs H Q E, sp vs H Q E → vs.length = ps.length
  go : ∀ {A : Around} {outer : List Env} {s : Shared} {H : Hp} {args : Args} {us : List Value} {vs : List V} {Q : VK} {E : XK}, RoomG k A → Env0 P w K mg base A outer s H →
    BindsTo s fd args (ps.zip us) → Vals vs us → sp vs H Q E → codeAny (model P w) A (.call (.ref f) args) (CR CX outer P w H s Q E) s
section
variable {P : Program} {w : World} {K : PySem.W.Frag} {mg : Str → Option Value} {base : Heap} {CX : CXT}
/-- a body that ends well ends the call well -/
theorem flow_end {N : List Str} {qual : Str} {scope : Scope} {f : Addr} {cd : Value} {A : Around} {outer : List Env} {s : Shared} {H : Hp} {Q : VK} {E : XK} {fl : Flow} {s' : Shared}
    (h : SP (cxOf CX P w K mg base N qual scope f cd A outer s H E) [] { nx := fun _ H' => Q .non H', rt := Q } fl s') :
    ∃ u, (fl = .next ∧ u = Value.none ∨ fl = .ret u) ∧ CE outer P w H s Q u s' := by
  cases fl with
  | next =>
    obtain ⟨σ, H1, J, q⟩ := h
    exact ⟨_, .inl ⟨rfl, rfl⟩, .non, H1, J.os, J.bare, J.base, J.hok, rfl, q⟩
  | ret u =>
    obtain ⟨v, σ, H1, J, r, q⟩ := h
    exact ⟨u, .inr rfl, v, H1, J.os, J.bare, J.base, J.hok, r, q⟩
  | brk =>
    obtain ⟨_, _, _, q⟩ := h
    cases q
  | cont =>
    obtain ⟨_, _, _, q⟩ := h
    cases q
/-- a def of the text, whatever its defaults -/
structure FunA (K : PySem.W.Frag) (x qual : Str) (st : Stmt) (f : Addr) (fd : FuncData) : Prop where
  ex : ∃ (oc : Value) (od : Option Addr) (dV kV doc pm : Value) (an : Option Addr) (cdv ct : Value) (osl : Array (Option Value)),
    fd = PySem.W.fnOf x qual (defArgs st) (defBody st) (defScope st) dV kV doc pm an cdv ct ∧ K.lookup f = some ⟨oc, od, .func fd, osl⟩ ∧ PySem.W.codeIn K cdv qual = true
theorem toA {K : PySem.W.Frag} {x qual : Str} {st : Stmt} {f : Addr} {fd : FuncData} (F : Fun K x qual st f fd) : FunA K x qual st f fd := by
  obtain ⟨oc, od, kV, doc, pm, an, cdv, ct, osl, e, lk, hcd⟩ := F.ex
  exact ⟨⟨oc, od, .none, kV, doc, pm, an, cdv, ct, osl, e, lk, hcd⟩⟩
theorem okGA {x qual : Str} {st : Stmt} {f : Addr} {fd : FuncData} {N ps : List Str} {k : Nat} {sp : Sp} (F : FunA K x qual st f fd) (S : FnScope N ps (defScope st)) (ar : ∀ vs H Q E, sp vs H Q E → vs.length = ps.length)
    (body : ∀ (cdv : Value) (A : Around) (outer : List Env) (s : Shared) (H : Hp) (vs : List V) (Q : VK) (E : XK), RoomG k (A.deeper (envOfC qual (defScope st) s.heap.objs.size f cdv)) → sp vs H Q E →
      ∃ t, PSs (cxOf CX P w K mg base N qual (defScope st) f cdv A outer s H E) (defBody st) t ∧ t { nx := fun _ H' => Q .non H', rt := Q } (start N vs) H) : FnG P w K mg base CX (k + 1) f fd ps sp := by
  obtain ⟨oc, od, dV, kV, doc, pm, an, cdv, ct, osl, rfl, lk, hcd⟩ := F.ex
  refine ⟨ar, ?_⟩
  intro A outer s H args us vs Q E room e0 hb rv hsp
  have kin : K.In s.heap := e0.mod.kin.keeps fun b o z => (e0.bs b o z).1
  have nolim : s.heap.NoLimit := e0.mod.nolimit.keeps fun b o z => (e0.bs b o z).1
  have kinds : ∀ y ∈ ps.zip us, (defScope st).names.lookup y.1 = some .local ∨ ((defScope st).names.lookup y.1 = some .cell ∧ ((cellsFrom (s.heap.objs.size + 1) (defScope st).names []).lookup y.1).isSome = true) := by
    rintro ⟨n, v⟩ hy
    exact (S.par n (List.of_mem_zip hy).1).imp _root_.id fun q => ⟨q, PySem.W.cellsFrom_some _ _ _ (.inl q)⟩
  refine codeAny_call_function room.room.depth (kin _ _ lk) rfl S.co S.gen rfl (PySem.W.codeRec_of kin hcd) (hb _ _ _ _ (wpAny_newFunctionEnv_cells S.kind kinds fun env he s1 inC => ?_))
  subst he
  obtain ⟨t, ht, hq⟩ := body cdv A outer s H vs Q E (room.in_ _) hsp
  refine ⟨nolim.keeps inC.toInCall.keep, codeAny_func (wpAny_mono (ht.run [] s1 (start N vs) H _ (inv_start S room.room.hd e0 (ar _ _ _ _ hsp) rv inC) hq) (fun fl s' z => ?_) fun e s' z => z)⟩
  obtain ⟨u, c, q⟩ := flow_end z
  rcases c with ⟨rfl, rfl⟩ | rfl
  · exact q
  · exact q
theorem okG0A {x qual : Str} {st : Stmt} {f : Addr} {fd : FuncData} {N ps : List Str} {k : Nat} {sp : Sp} (F : FunA K x qual st f fd) (S : FnScope N ps (defScope st)) (ar : ∀ vs H Q E, sp vs H Q E → vs.length = ps.length)
    (body : ∀ (cdv : Value) (A : Around) (outer : List Env) (s : Shared) (H : Hp) (vs : List V) (Q : VK) (E : XK), RoomG k (A.deeper (envOfC qual (defScope st) s.heap.objs.size f cdv)) → sp vs H Q E →
      ∃ t, PSs (cxOf CX0 P w K mg base N qual (defScope st) f cdv A outer s H E).nox (defBody st) t ∧ t { nx := fun _ H' => Q .non H', rt := Q } (start N vs) H) : FnG P w K mg base CX0 (k + 1) f fd ps sp :=
  okGA F S ar fun cdv A outer s H vs Q E hr hsp => (body cdv A outer s H vs Q E hr hsp).imp fun _ z => ⟨z.1.nox, z.2⟩
theorem okG {x qual : Str} {st : Stmt} {f : Addr} {fd : FuncData} {N ps : List Str} {k : Nat} {sp : Sp} (F : Fun K x qual st f fd) (S : FnScope N ps (defScope st)) (ar : ∀ vs H Q E, sp vs H Q E → vs.length = ps.length)
    (body : ∀ (cdv : Value) (A : Around) (outer : List Env) (s : Shared) (H : Hp) (vs : List V) (Q : VK) (E : XK), RoomG k (A.deeper (envOfC qual (defScope st) s.heap.objs.size f cdv)) → sp vs H Q E →
      ∃ t, PSs (cxOf CX P w K mg base N qual (defScope st) f cdv A outer s H E) (defBody st) t ∧ t { nx := fun _ H' => Q .non H', rt := Q } (start N vs) H) : FnG P w K mg base CX (k + 1) f fd ps sp :=
  okGA (toA F) S ar body
theorem okG0 {x qual : Str} {st : Stmt} {f : Addr} {fd : FuncData} {N ps : List Str} {k : Nat} {sp : Sp} (F : Fun K x qual st f fd) (S : FnScope N ps (defScope st)) (ar : ∀ vs H Q E, sp vs H Q E → vs.length = ps.length)
    (body : ∀ (cdv : Value) (A : Around) (outer : List Env) (s : Shared) (H : Hp) (vs : List V) (Q : VK) (E : XK), RoomG k (A.deeper (envOfC qual (defScope st) s.heap.objs.size f cdv)) → sp vs H Q E →
      ∃ t, PSs (cxOf CX0 P w K mg base N qual (defScope st) f cdv A outer s H E).nox (defBody st) t ∧ t { nx := fun _ H' => Q .non H', rt := Q } (start N vs) H) : FnG P w K mg base CX0 (k + 1) f fd ps sp :=
  okG0A (toA F) S ar body
end
section
variable {X : Cx} {CX : CXT} {k : Nat} {f : Addr} {fd : FuncData} {ps : List Str} {sp : Sp}
theorem run_G {pins : List (Addr × Obj)} {σ : L2.St} {H : Hp} {s : Shared} {Q : VK} {E : XK} {us : List Value} {vs : List V} (F : FnG X.prog X.w X.K X.mg X.base CX k f fd ps sp) (hr : RoomG k X.A) (hb : Binds X.K fd ps [])
    (out : ∀ e s', CX X.stack H s E e s' → X.xe e s') (I : Inv X pins σ H s) (r : Vals vs us) (h : sp vs H Q E) : wpAny (model X.prog X.w) X.A (call (.ref f) us) (EP X pins σ Q) X.xe s := by
  have n := (r.length).symm.trans (F.arity _ _ _ _ h)
  have b := hb s us I.kIn (by rw [List.append_nil, n])
  rw [List.append_nil] at b
  refine wpAny_call (codeAny_mono (F.go hr I.env0 b r h) ?_)
  rintro (e | fl) s' q
  · exact out e s' q
  · match fl, q with
    | .ret u, q => exact I.after q
/-- a def and its promise, by its name -/
structure Dn (P : Program) (w : World) (K : PySem.W.Frag) (mg : Str → Option Value) (base : Heap) (k : Nat) (x : Str) (ps : List Str) (sp : Sp) : Prop where
  ex : ∃ f fd, FnG P w K mg base CX0 k f fd ps sp ∧ PySem.W.keepIn K (.ref f) = true ∧ mg x = some (.ref f) ∧ Binds K fd ps []
/-- .. that may raise -/
structure Dx (P : Program) (w : World) (K : PySem.W.Frag) (mg : Str → Option Value) (base : Heap) (k : Nat) (x : Str) (ps : List Str) (sp : Sp) : Prop where
  ex : ∃ f fd, FnG P w K mg base (L2.CX P w) k f fd ps sp ∧ PySem.W.keepIn K (.ref f) = true ∧ mg x = some (.ref f) ∧ Binds K fd ps []
theorem Df.ok {P : Program} {w : World} {K : PySem.W.Frag} {mg : Str → Option Value} {base : Heap} {x : Str} {st : Stmt} (D : Df K mg x st ps)
    (h : ∀ f fd, Fun K x x st f fd → FnG P w K mg base CX0 k f fd ps sp) : Dn P w K mg base k x ps sp := by
  obtain ⟨f, fd, F, m, b⟩ := D.ex
  exact ⟨f, fd, h f fd F, F.kp, m, b⟩
theorem Df.okX {P : Program} {w : World} {K : PySem.W.Frag} {mg : Str → Option Value} {base : Heap} {x : Str} {st : Stmt} (D : Df K mg x st ps)
    (h : ∀ f fd, Fun K x x st f fd → FnG P w K mg base (L2.CX P w) k f fd ps sp) : Dx P w K mg base k x ps sp := by
  obtain ⟨f, fd, F, m, b⟩ := D.ex
  exact ⟨f, fd, h f fd F, F.kp, m, b⟩
variable {x : Str} {p pos : Pos} {e : Expr} {es : List Expr} {t : TA}
theorem pe_cD (D : Dn X.prog X.w X.K X.mg X.base k x ps sp) (hr : RoomG k X.A) (hg : Gl X x) (ha : PA X (e :: es) t) (hdb : (x == ("__debug__" : Str)) = false := by decide)
    (he : starEach (e :: es) X.env = (false, eval e X.env) :: starEach es X.env := by rfl) (hpl : (backTo pos (starEach es X.env)).any (·.1) = false := by rfl) : PE X (.Call (.Name x p) (e :: es) [] pos) (tCall sp [] E0 t) := by
  obtain ⟨f, fd, F, hk, hm, hb⟩ := D.ex
  refine ⟨fun pins s σ H Q I h => wpAny_Call_Name_kw (ld_glob I hg hm (PySem.W.callWith_K (h₀ := X.base) I.ok.mod.kin hk (thn (ha.run pos pins s σ H _ I h) fun us s1 ⟨vs, H1, I1, r, q⟩ => ⟨I1.kIn, ?_⟩) he hpl) hdb)⟩
  have q' : sp vs H1 Q E0 := by
    have z : sp (vs ++ []) H1 Q E0 := q
    rw [List.append_nil] at z
    exact z
  exact run_G F hr hb (fun _ _ z => z.elim) I1 r q'
theorem pe_cD0 (D : Dn X.prog X.w X.K X.mg X.base k x ps sp) (hr : RoomG k X.A) (hg : Gl X x) (hdb : (x == ("__debug__" : Str)) = false := by decide) : PE X (.Call (.Name x p) [] [] pos) (tCall sp [] E0 tNil) := by
  obtain ⟨f, fd, F, hk, hm, hb⟩ := D.ex
  refine ⟨fun pins s σ H Q I h => wpAny_Call_Name_kw (ld_glob I hg hm (PySem.W.callWith_K0 I.kIn hk (run_G (us := []) F hr hb (fun _ _ z => z.elim) I .nil h)) hdb)⟩
/-- a def with defaults: dvs fill up -/
structure Dfd (K : PySem.W.Frag) (mg : Str → Option Value) (x : Str) (st : Stmt) (ps : List Str) (dvs : List V) : Prop where
  ex : ∃ (f : Addr) (fd : FuncData) (ds : List Value), FunA K x x st f fd ∧ PySem.W.keepIn K (.ref f) = true ∧ mg x = some (.ref f) ∧ Binds K fd ps ds ∧ Vals dvs ds
theorem Dfd.of {K : PySem.W.Frag} {mg : Str → Option Value} {x : Str} {st : Stmt} {ps : List Str} {dvs : List V} {f T : Addr} {oc : Value} {od an : Option Addr} {osl : Array (Option Value)} {kV doc pm cdv ct : Value} {o : Obj} {its : List Value} {n m : Nat}
    (l : K.lookup f = some ⟨oc, od, .func (PySem.W.fnOf x x (defArgs st) (defBody st) (defScope st) (.ref T) kV doc pm an cdv ct), osl⟩) (c : PySem.W.codeIn K cdv x = true) (k : PySem.W.keepIn K (.ref f) = true) (mx : mg x = some (.ref f))
    (lT : K.lookup T = some o) (oT : o.data = .seq its.toArray m) (rT : Vals dvs its) (hn : n + dvs.length = ps.length)
    (h : ∀ (us : List Value), us.length = n → ∃ kk, bindArgs (PySem.W.fnOf x x (defArgs st) (defBody st) (defScope st) (.ref T) kV doc pm an cdv ct) ⟨us, []⟩ = seqItems? (.ref T) >>= kk ∧ kk (some its.toArray) = pure (ps.zip (us ++ its))) : Dfd K mg x st ps dvs := by
  refine ⟨f, _, its, ⟨⟨_, _, _, _, _, _, _, _, _, _, rfl, l, c⟩⟩, k, mx, fun s us X hlen => ?_, rT⟩
  have l1 := rT.length
  have l2 : us.length = n := by
    rw [List.length_append] at hlen
    omega
  obtain ⟨kk, e1, e2⟩ := h us l2
  refine BindsTo.of_looks fun M => ?_
  rw [e1]
  exact looks_items X lT oT (.of_pure e2)
/-- .. all parameters given -/
theorem Dfd.ofAll {K : PySem.W.Frag} {mg : Str → Option Value} {x : Str} {st : Stmt} {ps : List Str} {f T : Addr} {oc : Value} {od an : Option Addr} {osl : Array (Option Value)} {kV doc pm cdv ct : Value} {o : Obj} {its : List Value} {n m : Nat}
    (l : K.lookup f = some ⟨oc, od, .func (PySem.W.fnOf x x (defArgs st) (defBody st) (defScope st) (.ref T) kV doc pm an cdv ct), osl⟩) (c : PySem.W.codeIn K cdv x = true) (k : PySem.W.keepIn K (.ref f) = true) (mx : mg x = some (.ref f))
    (lT : K.lookup T = some o) (oT : o.data = .seq its.toArray m) (hn : n = ps.length)
    (h : ∀ (us : List Value), us.length = n → ∃ kk, bindArgs (PySem.W.fnOf x x (defArgs st) (defBody st) (defScope st) (.ref T) kV doc pm an cdv ct) ⟨us, []⟩ = seqItems? (.ref T) >>= kk ∧ kk (some its.toArray) = pure (ps.zip us)) : Dfd K mg x st ps [] := by
  refine ⟨f, _, [], ⟨⟨_, _, _, _, _, _, _, _, _, _, rfl, l, c⟩⟩, k, mx, fun s us X hlen => ?_, .nil⟩
  have l2 : us.length = n := by
    rw [List.append_nil] at hlen
    omega
  obtain ⟨kk, e1, e2⟩ := h us l2
  refine BindsTo.of_looks fun M => ?_
  rw [e1, List.append_nil]
  exact looks_items X lT oT (.of_pure e2)
/-- .. and its promise -/
structure DnD (P : Program) (w : World) (K : PySem.W.Frag) (mg : Str → Option Value) (base : Heap) (k : Nat) (x : Str) (ps : List Str) (dvs : List V) (sp : Sp) : Prop where
  ex : ∃ (f : Addr) (fd : FuncData) (ds : List Value), FnG P w K mg base CX0 k f fd ps sp ∧ PySem.W.keepIn K (.ref f) = true ∧ mg x = some (.ref f) ∧ Binds K fd ps ds ∧ Vals dvs ds
theorem Dfd.ok {P : Program} {w : World} {K : PySem.W.Frag} {mg : Str → Option Value} {base : Heap} {x : Str} {st : Stmt} {dvs : List V} (D : Dfd K mg x st ps dvs)
    (h : ∀ f fd, FunA K x x st f fd → FnG P w K mg base CX0 k f fd ps sp) : DnD P w K mg base k x ps dvs sp := by
  obtain ⟨f, fd, ds, F, kp, m, b, d⟩ := D.ex
  exact ⟨f, fd, ds, h f fd F, kp, m, b, d⟩
theorem run_Gd {pins : List (Addr × Obj)} {σ : L2.St} {H : Hp} {s : Shared} {Q : VK} {E : XK} {us ds : List Value} {vs dvs : List V} (F : FnG X.prog X.w X.K X.mg X.base CX k f fd ps sp) (hr : RoomG k X.A) (hb : Binds X.K fd ps ds) (hd : Vals dvs ds)
    (out : ∀ e s', CX X.stack H s E e s' → X.xe e s') (I : Inv X pins σ H s) (r : Vals vs us) (h : sp (vs ++ dvs) H Q E) : wpAny (model X.prog X.w) X.A (call (.ref f) us) (EP X pins σ Q) X.xe s := by
  have r2 : Vals (vs ++ dvs) (us ++ ds) := r.append hd
  have n : (us ++ ds).length = ps.length := by rw [← r2.length]; exact F.arity _ _ _ _ h
  refine wpAny_call (codeAny_mono (F.go hr I.env0 (hb s us I.kIn n) r2 h) ?_)
  rintro (e | fl) s' q
  · exact out e s' q
  · match fl, q with
    | .ret u, q => exact I.after q
theorem pe_cDd {dvs : List V} (D : DnD X.prog X.w X.K X.mg X.base k x ps dvs sp) (hr : RoomG k X.A) (hg : Gl X x) (ha : PA X (e :: es) t) (hdb : (x == ("__debug__" : Str)) = false := by decide)
    (he : starEach (e :: es) X.env = (false, eval e X.env) :: starEach es X.env := by rfl) (hpl : (backTo pos (starEach es X.env)).any (·.1) = false := by rfl) : PE X (.Call (.Name x p) (e :: es) [] pos) (tCall sp dvs E0 t) := by
  obtain ⟨f, fd, ds, F, hk, hm, hb, hd⟩ := D.ex
  refine ⟨fun pins s σ H Q I h => wpAny_Call_Name_kw (ld_glob I hg hm (PySem.W.callWith_K (h₀ := X.base) I.ok.mod.kin hk (thn (ha.run pos pins s σ H _ I h) fun us s1 ⟨vs, H1, I1, r, q⟩ => ⟨I1.kIn, ?_⟩) he hpl) hdb)⟩
  exact run_Gd F hr hb hd (fun _ _ z => z.elim) I1 r q
/-- a call within a try: what is raised is wished at the slots -/
theorem pe_cX {E : L2.St → XK} (D : Dx X.prog X.w X.K X.mg X.base k x ps sp) (hr : RoomG k X.A) (hg : Gl X x) (hx : ∀ σ, PassesAt (L2.CX X.prog X.w) X σ (E σ)) (ha : PA X (e :: es) t) (hdb : (x == ("__debug__" : Str)) = false := by decide)
    (he : starEach (e :: es) X.env = (false, eval e X.env) :: starEach es X.env := by rfl) (hpl : (backTo pos (starEach es X.env)).any (·.1) = false := by rfl) : PE X (.Call (.Name x p) (e :: es) [] pos) (tCallS sp E t) := by
  obtain ⟨f, fd, F, hk, hm, hb⟩ := D.ex
  exact ⟨fun pins s σ H Q I h => wpAny_Call_Name_kw (ld_glob I hg hm (PySem.W.callWith_K (h₀ := X.base) I.ok.mod.kin hk (thn (ha.run pos pins s σ H _ I h) fun us s1 ⟨vs, H1, I1, r, q⟩ =>
    ⟨I1.kIn, run_G F hr hb (fun e s' z => hx σ pins H1 s1 e s' I1 z) I1 r q⟩) he hpl) hdb)⟩
/-- repr of what is data -/
def rRepr (K : PySem.W.Frag) : List V → Hp → VK → Prop := fun xs H Q => ∃ (x : V) (d : PyData), xs = [x] ∧ Dp K H x d ∧ d.showable = true ∧ d.depth ≤ 60 ∧ d.shown.length ≤ sizeLine ∧ Q (.str d.shown) H
mutual
theorem dp_noDict {K : PySem.W.Frag} {H : Hp} : ∀ (d : PyData) (x : V), Dp K H x d → d.hasDict = false
  | .none, _, _ => rfl
  | .bool _, _, _ => rfl
  | .int _, _, _ => rfl
  | .str _, _, _ => rfl
  | .list ds, _, h => by
    cases h with
    | lst _ ha => simpa [PyData.hasDict] using dp_noDicts ds _ ha
  | .tuple ds, _, h => by
    cases h with
    | tup _ ha => simpa [PyData.hasDict] using dp_noDicts ds _ ha
  | .dict _, _, h => by cases h
theorem dp_noDicts {K : PySem.W.Frag} {H : Hp} : ∀ (ds : List PyData) (xs : List V), DpAll K H xs ds → PyData.hasDictAll ds = false
  | [], _, _ => by simp [PyData.hasDictAll]
  | d :: ds, _, h => by
    cases h with
    | cons a b => simp [PyData.hasDictAll, dp_noDict d _ a, dp_noDicts ds _ b]
end
theorem reprK {K : PySem.W.Frag} (hr : RoomG k X.A) (eK : X.K = K := by rfl) : CallR X (.builtin "repr") (rRepr K) := by
  cases eK
  intro pins s σ H xs us Q I r h
  obtain ⟨x, d, rfl, hd, hs, hdep, hz, q⟩ := h
  obtain ⟨u, rfl, rx⟩ := vals1 r
  obtain ⟨as, rd⟩ := Dp.reads I d x u hd rx
  have hu := hr.units
  have nd := dp_noDict d x hd
  cases hd with
  | non => cases rx; exact PySem.P.repr_of_none ⟨.str _, H, I.tok _, ⟨_, rfl⟩, q⟩
  | bl b => cases rx; exact PySem.P.repr_of_bool ⟨.str _, H, I.tok _, ⟨_, rfl⟩, q⟩
  | int i => obtain ⟨t, rfl⟩ := rx; exact PySem.P.repr_of_int (of_decide_eq_true (by simpa [PyData.showable] using hs)) ⟨.str _, H, I.tok _, ⟨_, rfl⟩, q⟩
  | str z => obtain ⟨t, rfl⟩ := rx; exact PySem.P.repr_of_str ⟨.str _, H, I.tok _, ⟨_, rfl⟩, q⟩ hz
  | lst hq ha =>
    cases rx
    refine repr_of_reads' rd hs (PyData.noDict_hsm nd) hr.idle (by omega) (fun _ _ z => z) (fun h' u tk hk => ⟨.str _, H, I.kept hk, ⟨_, rfl⟩, q⟩) hz
  | tup hq ha =>
    cases rx
    refine repr_of_reads' rd hs (PyData.noDict_hsm nd) hr.idle (by omega) (fun _ _ z => z) (fun h' u tk hk => ⟨.str _, H, I.kept hk, ⟨_, rfl⟩, q⟩) hz
end
end Toy
namespace Toy
open PySem PySem.Spec PyProof.Rows L2
/-- what was tracked stays, but for one object -/
def But (p : Addr) (H H' : Hp) : Prop := ∀ b o, b ≠ p → H b = some o → H' b = some o
theorem But.refl {p : Addr} {H : Hp} : But p H H := fun _ _ _ h => h
theorem But.trans {p : Addr} {H H1 H2 : Hp} (a : But p H H1) (b : But p H1 H2) : But p H H2 := fun c o n h => b c o n (a c o n h)
theorem But.free {p : Addr} {H H' : Hp} (e : But p H H') {l : Addr} (n : l ≠ p) (h : H' l = Option.none) : H l = Option.none := by
  cases q : H l with
  | none => rfl
  | some o =>
    rw [e l o n q] at h
    cases h
theorem same_but {p : Addr} {H H' : Hp} (a : Same H H') : But p H H' := fun c o _ h => a c o h
theorem But.upd {p : Addr} {H : Hp} {o : HO} : But p H (upd H p o) := fun b u n h => by rw [upd_ne n]; exact h
theorem same_new {H : Hp} {p : Addr} (h : H p = none) (o : HO) : Same H (upd H p o) := fun b u q => by rw [upd_ne (ne_of_none q h)]; exact q
theorem but_tup {p : Addr} {K : PySem.W.Frag} {H H' : Hp} {a : Addr} {xs ys : List V} (e : But p H H') (hp : H p = some (.lst ys)) (h : SqT K H a xs) : SqT K H' a xs := by
  rcases h with (h | ⟨o, h⟩) | h
  · exact .inl (.inl (e _ _ (ne_of h hp (by intro z; cases z)) h))
  · exact .inl (.inr ⟨o, e _ _ (ne_of h hp (by intro z; cases z)) h⟩)
  · exact .inr h
theorem same_tup {K : PySem.W.Frag} {H H' : Hp} {a : Addr} {xs : List V} (e : Same H H') (h : SqT K H a xs) : SqT K H' a xs := by
  rcases h with (h | ⟨o, h⟩) | h
  · exact .inl (.inl (e _ _ h))
  · exact .inl (.inr ⟨o, e _ _ h⟩)
  · exact .inr h
/-- the script stays -/
theorem but_seq {p : Addr} {K : PySem.W.Frag} {H H' : Hp} {a : Addr} {xs : List V} (e : But p H H') (n : a ≠ p) (h : SqL K H a xs) : SqL K H' a xs := by
  rcases h with (h | ⟨o, h⟩) | h
  · exact .inl (.inl (e _ _ n h))
  · exact .inl (.inr ⟨o, e _ _ n h⟩)
  · exact .inr h
theorem small {n : Nat} (h : n ≤ 1000) : n ≤ sizeLine := Nat.le_of_lt (small1000 h)
theorem log_lt {i : Int} {n : Nat} (h0 : 0 < n) (h : i.natAbs < 2 ^ n) : i.natAbs.log2 < n := PySem.Flt.log2_lt_of h0 h
theorem divp_small {i j : Int} (hj : 0 < j) (h : j < 2 ^ 8000) : CDivP i j := by
  refine ⟨hj, PyProof.noPylong_of_log2 ?_⟩
  exact Nat.lt_trans (log_lt (n := 8000) (by decide) (by omega)) (by decide)
end Toy
namespace Toy
open PySem PySem.Spec PyProof.Rows L2
theorem ifT {c : Bool} {A B : Prop} (hc : c = true) (h : A) : if c = true then A else B := by rw [if_pos hc]; exact h
theorem ifF {c : Bool} {A B : Prop} (hc : c = false) (h : B) : if c = true then A else B := by rw [hc]; exact iteF h
theorem pj {j : Int} (h : decide ((0 : Int) < j) = true := by decide) : 0 < j := of_decide_eq_true h
theorem sz {xs : List V} (h : Nat.ble xs.length 1000 = true := by rfl) : xs.length ≤ sizeLine := small (Nat.le_of_ble_eq_true h)
theorem but_same {p : Addr} {H H1 H2 : Hp} (n : H p = none) (a : Same H H1) (b : But p H1 H2) : Same H H2 := fun c o h => b c o (ne_of_none h n) (a c o h)
/-- two ways of a value meet -/
theorem ifE {ta tb : TE} {σ : L2.St} {H : Hp} {Q : VK} {b : Bool} (R : V → Hp → Prop) (h : ∀ v H', R v H' → Q v H') (h1 : b = true → ∀ Q' : VK, (∀ v H', R v H' → Q' v H') → ta σ H Q') (h2 : b = false → ∀ Q' : VK, (∀ v H', R v H' → Q' v H') → tb σ H Q') :
    if b = true then ta σ H Q else tb σ H Q := by
  cases b with
  | true => exact iteT (h1 rfl Q h)
  | false => exact iteF (h2 rfl Q h)
theorem mulx {i j : Int} (a b : Nat) (ha : i.natAbs < 2 ^ a) (hb : j.natAbs < 2 ^ b) (h : a + b ≤ 134217728 := by decide) : CMulX i j := mulx_ok ha hb h
end Toy
namespace Toy
open PySem PySem.Spec PyProof.Rows L2
theorem qi {Q : VK} {H : Hp} {a b : Int} (q : Q (.int a) H) (e : a = b) : Q (.int b) H := e ▸ q
end Toy
namespace Toy
open PySem PySem.Spec PyProof.Rows L2
/-- the written part by its letter -/
theorem kk {α : Sort _} {P : α → Prop} {F : PySem.W.Frag → α} {K0 K : PySem.W.Frag} (h : P (F K0)) (e : K0 = K := by rfl) : P (F K) := e ▸ h
def rLen (K : PySem.W.Frag) : List V → Hp → VK → Prop := fun xs H Q => ∃ p ys, xs = [.ref p] ∧ (SqL K H p ys ∨ SqT K H p ys) ∧ Q (.int ys.length) H
theorem lenK {X : Cx} {K : PySem.W.Frag} (e : X.K = K := by rfl) : CallR X (.builtin "len") (rLen K) := by cases e; exact call_len_seq
def rLstOf (K : PySem.W.Frag) : List V → Hp → VK → Prop := fun xs H Q => ∃ p ys, xs = [.ref p] ∧ (SqL K H p ys ∨ SqT K H p ys) ∧ ∀ l, H l = none → Q (.ref l) (upd H l (.lst ys))
theorem lstOfK {X : Cx} {K : PySem.W.Frag} (e : X.K = K := by rfl) : CallR X (.type "list") (rLstOf K) := by cases e; exact call_list_of
def rTupOf (K : PySem.W.Frag) : List V → Hp → VK → Prop := fun xs H Q => ∃ p ys, xs = [.ref p] ∧ ((SqL K H p ys ∧ ∀ l, H l = none → Q (.ref l) (upd H l (.tup ys))) ∨ (SqT K H p ys ∧ Q (.ref p) H))
theorem tupOfK {X : Cx} {K : PySem.W.Frag} (e : X.K = K := by rfl) : CallR X (.type "tuple") (rTupOf K) := by cases e; exact call_tuple_of
theorem dec_ne {α : Type} [DecidableEq α] {a b : α} (h : a = b) : (!decide (a = b)) = false := by rw [decide_eq_true h] <;> rfl
end Toy
namespace Toy
open PySem PySem.Spec PyProof.Rows L2
/-- a tuple of the written part; a tuple that never changes -/
def KTup (K : PySem.W.Frag) (a : Addr) (xs : List V) : Prop := ∃ (o : Obj) (its : Array Value) (n : Nat), K.lookup a = some o ∧ o.cls = .type "tuple" ∧ o.data = .seq its n ∧ its.size ≤ sizeLine ∧ Vals xs its.toList
def TupAt (K : PySem.W.Frag) (H : Hp) (a : Addr) (xs : List V) : Prop := H a = some (.tup xs) ∨ KTup K a xs
theorem TupAt.sq {K : PySem.W.Frag} {H : Hp} {a : Addr} {xs : List V} (h : TupAt K H a xs) : SqT K H a xs := by
  rcases h with h | h
  · exact SqT.of h
  · exact .inr h
theorem TupAt.ty {K : PySem.W.Frag} {H : Hp} {a : Addr} {xs : List V} (h : TupAt K H a xs) : TyX K H (.ref a) (.type "tuple") := by
  rcases h with h | ⟨o, its, n, h1, h2, _⟩
  · exact .base (.tup h)
  · exact .kTuple h1 h2
theorem TupAt.same {K : PySem.W.Frag} {H H' : Hp} {a : Addr} {xs : List V} (e : Same H H') (h : TupAt K H a xs) : TupAt K H' a xs := h.imp (e _ _) id
theorem TupAt.but {K : PySem.W.Frag} {H H' : Hp} {a p : Addr} {xs ys : List V} (e : But p H H') (hp : H p = some (.lst ys)) (h : TupAt K H a xs) : TupAt K H' a xs := h.imp (fun h => e _ _ (ne_of h hp (by intro z; cases z)) h) id
end Toy
namespace Toy
open PySem PySem.Spec PyProof.Rows L2
theorem ints_dp {K : PySem.W.Frag} {H : Hp} : ∀ ns : List Int, DpAll K H (ns.map V.int) (ns.map PyData.int)
  | [] => .nil
  | n :: r => .cons (.int n) (ints_dp r)
theorem ints_sh (ns : List Int) : SeqAt.shaped (.list (ns.map PyData.int)) = true := PySem.W.ke_shaped_ints ns
theorem ints_refl (ns : List Int) : PyData.eqv (.list (ns.map PyData.int)) (.list (ns.map PyData.int)) = true := SeqAt.eqv_refl _ (SeqAt.canLay_of_shaped (ints_sh ns))
theorem lst_dp {K : PySem.W.Frag} {H : Hp} {a : Addr} {ns : List Int} (h : SqL K H a (ns.map V.int)) : Dp K H (.ref a) (.list (ns.map PyData.int)) := .lst h (ints_dp ns)
theorem tupI_dp {K : PySem.W.Frag} {H : Hp} {a : Addr} {ns : List Int} (h : SqT K H a (ns.map V.int)) : Dp K H (.ref a) (.tuple (ns.map PyData.int)) := .tup h (ints_dp ns)
theorem tupI_sh (ns : List Int) : SeqAt.shaped (.tuple (ns.map PyData.int)) = true := ints_sh ns
theorem tupI_refl (ns : List Int) : PyData.eqv (.tuple (ns.map PyData.int)) (.tuple (ns.map PyData.int)) = true := SeqAt.eqv_refl _ (SeqAt.canLay_of_shaped (tupI_sh ns))
theorem cut_map (us : List Int) (lo hi : Option Int) : ∃ ws : List Int, cutV (us.map V.int) lo hi = ws.map V.int ∧ ws.length ≤ us.length ∧ ∀ x ∈ ws, x ∈ us := by
  refine ⟨(us.drop (HT.sIx (us.map V.int).length 0 lo)).take (HT.sIx (us.map V.int).length (us.map V.int).length hi - HT.sIx (us.map V.int).length 0 lo), ?_, ?_, fun x hx => List.mem_of_mem_drop (List.mem_of_mem_take hx)⟩
  · unfold cutV; rw [List.map_take, List.map_drop]
  · rw [List.length_take, List.length_drop]; omega
theorem at_map {us : List Int} {i : Nat} {y : V} (h : (us.map V.int)[i]? = some y) : ∃ x : Int, y = .int x ∧ us[i]? = some x := by
  rw [List.getElem?_map] at h
  cases e : us[i]? with
  | none => rw [e] at h; cases h
  | some x => rw [e] at h; exact ⟨x, (Option.some.inj h).symm, rfl⟩
end Toy
namespace Toy
open PySem PySem.Spec PyProof.Rows L2
/-- the heap in which the script alone stands, unless the text's own part holds it -/
def scriptH (K : PySem.W.Frag) (a : Addr) (o : Obj) (ns : List Int) : Hp := fun c => if (K.lookup a).isNone = true ∧ c = a then some (.frz o (.lst (ns.map V.int))) else none
theorem scriptH_none {K : PySem.W.Frag} {a b : Addr} {o : Obj} {ns : List Int} : scriptH K a o ns b = none ∨ (b = a ∧ K.lookup a = none ∧ scriptH K a o ns b = some (.frz o (.lst (ns.map V.int)))) := by
  unfold scriptH
  by_cases c : (K.lookup a).isNone = true ∧ b = a
  · exact .inr ⟨c.2, Option.isNone_iff_eq_none.mp c.1, if_pos c⟩
  · exact .inl (if_neg c)
theorem law_G {P : Program} {w : World} {K : PySem.W.Frag} {mg mb : Str → Option Value} {k : Nat} {fa a : Addr} {fd : FuncData} {x : Str} {sp : Sp} {s : Shared} {vs : List Value} {ns : List Int}
    (KX : K.In s.heap) (hns : s.heap.Ns mainGlobals mg) (hb : s.heap.Ns builtinsNs mb) (hbb : ∀ x : Str, x ≠ "__name__" → mb x = bootBuiltins x) (hlim : s.heap.NoLimit) (hg : s.gens = #[])
    (ha : s.heap.get? a = some { cls := .type "list", data := .seq vs.toArray }) (hi : IntsAre vs ns) (hl : ns.length ≤ sizeLine) (hr : Room k PySem.callerA)
    (F : ∀ base : Heap, K.In base → base.Ns mainGlobals mg → FnG P w K mg base CX0 k fa fd [x] sp) (hbind : ∀ (s : Shared) (u : Value), BindsTo s fd ⟨[u], []⟩ [(x, u)])
    (hsp : ∀ H : Hp, SqL K H a (ns.map V.int) → sp [.ref a] H (fun v _ => v = .bl true) fun _ _ _ => False) :
    codeAny (model P w) PySem.callerA (.call (.ref fa) ⟨[.ref a], []⟩) (fun r s' => r = .ok (.ret (.bool true)) ∧ OldK s.heap s'.heap ∧ s'.os = s.os ∧ AllBare s'.gens) s := by
  let H : Hp := scriptH K a { cls := .type "list", data := .seq vs.toArray } ns
  have hH : ∀ b, H b = none ∨ (b = a ∧ K.lookup a = none ∧ H b = some (.frz { cls := .type "list", data := .seq vs.toArray } (.lst (ns.map V.int)))) := fun b => scriptH_none
  have rv := vals_ints hi
  have hok : HOk P w H s.heap := by
    intro b u e
    rcases hH b with z | ⟨rfl, _, z⟩
    · rw [z] at e; cases e
    · rw [z] at e
      cases e
      exact ⟨ha, by rw [List.length_map]; exact hl, vs, _, rv, ha⟩
  have hS : SqL K H a (ns.map V.int) := by
    cases q : K.lookup a with
    | none => exact .inl (.inr ⟨_, show scriptH K a _ ns a = _ from if_pos ⟨by rw [q] <;> rfl, rfl⟩⟩)
    | some o =>
      have e := KX a o q
      rw [ha] at e
      cases e
      exact .inr ⟨_, vs.toArray, _, q, rfl, rfl, rfl, by rw [List.size_toArray, hi.length]; exact hl, by simpa using rv⟩
  -- what is no list is not the script
  have notA : ∀ {b : Addr} {o : Obj} {es : Array DictEntry} {ep : Nat}, s.heap.get? b = some o → o.data = .dict es ep → H b = none := by
    intro b o es ep e d
    rcases hH b with z | ⟨rfl, _, _⟩
    · exact z
    · rw [ha] at e
      cases e
      cases (show Data.seq vs.toArray _ = Data.dict es ep from d)
  have ns' : ∀ {b : Addr} {m : Str → Option Value}, s.heap.Ns b m → (hidT s.heap H).Ns b m := by
    rintro b m ⟨o, es, ep, e, d, r⟩
    exact ⟨o, es, ep, hidT_get e (notA e d), d, r⟩
  have kin' : K.In (hidT s.heap H) := by
    intro b o e
    refine hidT_get (KX b o e) ?_
    rcases hH b with z | ⟨rfl, q, _⟩
    · exact z
    · rw [q] at e; cases e
  have md : Mod K mg (hidT s.heap H) := ⟨kin', ns' hns, ⟨mb, ns' hb, hbb⟩, hlim.imp fun _ z => ⟨ns' z.1, z.2⟩⟩
  have e0 : Env0 P w K mg (hidT s.heap H) PySem.callerA [] s H := ⟨rfl, md, fun _ _ z => of_hidT z, Nat.le_of_eq (hidT_size _ _), trivial, (by intro b z; cases z), hok, .of_eq hg⟩
  refine codeAny_mono ((F _ kin' (ns' hns)).go (us := [.ref a]) (vs := [.ref a]) ⟨hr, rfl⟩ e0 (hbind s (.ref a)) (.cons rfl .nil) (hsp H hS)) ?_
  rintro (e | fl) s' q
  · exact q.elim
  match fl, q with
  | .ret u, ⟨v, H', os, bare, un, ok', r', q⟩ =>
    have q' : v = .bl true := q
    subst q'
    obtain rfl : u = Value.bool true := r'
    refine ⟨rfl, OldK.of_keep fun b o e => ?_, os, bare⟩
    rcases hH b with z | ⟨_, _, z⟩
    · exact un.keep b o e z (by intro y; cases y) (by intro y; cases y)
    · have z1 := (hok b _ z).1
      have z2 := (ok' b _ (un.frzs b _ _ z)).1
      rw [e] at z1
      cases z1
      exact z2
theorem walk_G {l : PySem.W.OpenLaw} {n k : Nat} {q : Program} {loose : List Str} {XP : (Str → Option Value) → Heap → Prop} {YP : World → Heap → Prop} {d : DefRec} {K : Params → PySem.W.Frag} {sp : PySem.W.Frag → Sp} {x : Str}
    (hn : l.most = some n) (hn2 : n ≤ sizeLine) (hdf : d.params.defaults = []) (hr : Room k PySem.callerA) (hY : ∀ (w : World) (h : Heap), YP w h → (K w.params).In h)
    (F : ∀ (w : World) (mg : Str → Option Value) (fa : Addr) (h : Heap), (K w.params).In h → h.Ns mainGlobals mg → mg d.name = some (.ref fa) →
      ∃ fd : FuncData, (∀ (s : Shared) (u : Value), BindsTo s fd ⟨[u], []⟩ [(x, u)]) ∧ ∀ base : Heap, (K w.params).In base → base.Ns mainGlobals mg → FnG l.prog w (K w.params) mg base CX0 k fa fd [x] (sp (K w.params)))
    (hsp : ∀ (K : PySem.W.Frag) (H : Hp) (a : Addr) (ns : List Int), ns.length ≤ n → SqL K H a (ns.map V.int) → sp K [.ref a] H (fun v _ => v = .bl true) fun _ _ _ => False) :
    PySem.W.WalkO q loose XP YP l.row.toRowW d [] (fun f vs => PySem.call f vs) :=
  Att.attach_call hn hdf fun w s0 s1 mg mb fa o pm cd doc a vs ns G Y ho hd hcd hmg hobj hints hlen hg => by
    have KX := hY w _ Y
    obtain ⟨fd, hbd, hF⟩ := F w mg fa _ KX G.T.g hmg
    exact law_G KX G.T.g G.T.b G.T.builtins G.T.nolimit hg hobj hints (Nat.le_trans hlen hn2) hr hF hbd fun H hS => hsp _ H a ns hlen hS
end Toy
namespace Toy
open PySem PySem.Spec PyProof.Rows L2
/-! ### how long a shown datum is -/
mutual
def cst : PyData → Nat
  | .none => 5
  | .bool _ => 5
  | .int _ => 1921
  | .str x => (reprText x).length
  | .list xs => csts xs + 4
  | .tuple xs => csts xs + 4
  | .dict _ => 0
def csts : List PyData → Nat
  | [] => 0
  | x :: xs => cst x + 4 + csts xs
end
theorem tupT_len (ts : List Str) : (tupleText ts).length ≤ piled ts + 4 := by
  unfold tupleText
  rw [strLen_append, strLen_append]
  have e1 : ((("(" : String) : Str)).length = 1 := rfl
  have e3 : (((if ts.length == 1 then ",)" else ")" : String) : Str)).length ≤ 2 := by split <;> decide +kernel
  by_cases h : ts = []
  · subst h; decide +kernel
  · have := join_length_add ts h; omega
theorem txtFrom_len : ∀ (ts : List Str) (k : Nat) (acc : Str), (textFrom k acc ts).length ≤ acc.length + piled ts
  | [], k, acc => Nat.le_add_right _ _
  | t :: r, k, acc => by
    have h := txtFrom_len r (k + 1) (acc ++ (if k > 0 then ", " else "" : String) ++ t)
    have e : (acc ++ (if k > 0 then ", " else "" : String) ++ t).length = acc.length + (if k > 0 then 2 else 0) + t.length := by
      rw [strLen_append, strLen_append]
      split <;> rfl
    rw [e] at h
    rw [piled_cons]
    have h2 : (textFrom k acc (t :: r)).length = (textFrom (k + 1) (acc ++ (if k > 0 then ", " else "" : String) ++ t) r).length := rfl
    rw [h2]
    have e2 : (if k > 0 then 2 else 0) ≤ 2 := by split <;> omega
    omega
theorem lstT_len (ts : List Str) : (listText ts).length ≤ piled ts + 4 := by
  unfold listText
  rw [strLen_append]
  have h := txtFrom_len ts 0 "["
  have e1 : ((("[" : String) : Str)).length = 1 := rfl
  have e2 : ((("]" : String) : Str)).length = 1 := rfl
  omega
mutual
theorem shown_le : ∀ d : PyData, d.showable = true → d.hasDict = false → d.shown.length ≤ cst d
  | .none, _, _ => by show (("None" : String) : Str).length ≤ 5; decide +kernel
  | .bool b, _, _ => by cases b <;> (show _ ≤ 5; decide +kernel)
  | .int i, h, _ => PyProof.Rows.int_text_len_1921 (of_decide_eq_true (by simpa [PyData.showable] using h))
  | .str x, _, _ => Nat.le_refl _
  | .list ds, h, g => by
    have h1 := showns_le ds (by simpa [PyData.showable] using h) (by simpa [PyData.hasDict] using g)
    have h2 := lstT_len (PyData.shownAll ds)
    show (listText (PyData.shownAll ds)).length ≤ csts ds + 4
    omega
  | .tuple ds, h, g => by
    have h1 := showns_le ds (by simpa [PyData.showable] using h) (by simpa [PyData.hasDict] using g)
    have h2 := tupT_len (PyData.shownAll ds)
    show (tupleText (PyData.shownAll ds)).length ≤ csts ds + 4
    omega
  | .dict _, _, g => by simp [PyData.hasDict] at g
theorem showns_le : ∀ ds : List PyData, PyData.showableAll ds = true → PyData.hasDictAll ds = false → piled (PyData.shownAll ds) ≤ csts ds
  | [], _, _ => Nat.le_refl _
  | d :: ds, h, g => by
    have h1 := shown_le d (by simp [PyData.showableAll] at h; exact h.1) (by simp [PyData.hasDictAll] at g; exact g.1)
    have h2 := showns_le ds (by simp [PyData.showableAll] at h; exact h.2) (by simp [PyData.hasDictAll] at g; exact g.2)
    show piled (d.shown :: PyData.shownAll ds) ≤ _
    rw [piled_cons]
    show _ ≤ cst d + 4 + csts ds
    omega
end
theorem shown_sz {d : PyData} (h : d.showable = true) (g : d.hasDict = false) (c : cst d ≤ 10000000) : d.shown.length ≤ sizeLine :=
  Nat.le_trans (shown_le d h g) (Nat.le_trans c (by decide))
end Toy
namespace Toy
open PySem PySem.Spec PyProof.Rows L2
/-- a list of ints grown by a part of another one -/
theorem ext_cut {L z : Addr} {ws es : List Int} {lo hi : Option Int} {H : Hp} {R : VK} (hL : H L = some (.lst (ws.map V.int))) (hz : H z = some (.lst (cutV (es.map V.int) lo hi))) (hs : ws.length + es.length ≤ 1000)
    (q : ∀ us : List Int, us.length ≤ es.length → (∀ x ∈ us, x ∈ es) → R .non (upd H L (.lst ((ws ++ us).map V.int)))) : rExtend (.ref L) [.ref z] H R := by
  obtain ⟨us, e, h1, h2⟩ := cut_map es lo hi
  rw [e] at hz
  refine ⟨L, z, _, _, rfl, rfl, hL, hz, small (by rw [List.length_map, List.length_map]; omega), ?_⟩
  have := q us h1 h2
  rw [List.map_append] at this
  exact this
theorem rep_len {n : Nat} : ((List.replicate n true).map V.bl).length = n := by rw [List.length_map, List.length_replicate]
theorem rep_snoc {n : Nat} : (List.replicate n true).map V.bl ++ [V.bl true] = (List.replicate (n + 1) true).map V.bl := by rw [List.replicate_succ', List.map_append] <;> rfl
theorem rep_all (n : Nat) : (List.replicate n true).all id = true := by rw [List.all_eq_true]; intro x hx; rw [List.mem_replicate] at hx; exact hx.2
theorem ixn {n j : Nat} (hj : j < n) : ixN n (j : Int) = some j := by
  unfold ixN
  rw [if_pos (by omega), if_pos (by omega)]
  exact congrArg some (Int.toNat_natCast j)
theorem dec_self (a : V) : decide (a = a) = true := decide_eq_true rfl
end Toy
namespace Toy
open PySem PySem.Spec PyProof.Rows L2
/-- a comprehension within a comprehension -/
theorem relabel_kept {env : Env} : ∀ {names : List (Str × NameKind)} {x : Str}, names.lookup x = some .cell ∨ names.lookup x = some .free →
    (names.map fun (n, k) => if (k == NameKind.free && env.scope.kind == .function && env.kindOf n == some .cell) then (n, NameKind.cell) else (n, k)).lookup x = some .cell ∨
    (names.map fun (n, k) => if (k == NameKind.free && env.scope.kind == .function && env.kindOf n == some .cell) then (n, NameKind.cell) else (n, k)).lookup x = some .free
  | [], _, h => by simp at h
  | (n, k) :: r, x, h => by
    have ih := @relabel_kept env r x
    show List.lookup x ((if (k == NameKind.free && env.scope.kind == .function && env.kindOf n == some .cell) = true then (n, NameKind.cell) else (n, k)) :: _) = _ ∨ List.lookup x ((if (k == NameKind.free && env.scope.kind == .function && env.kindOf n == some .cell) = true then (n, NameKind.cell) else (n, k)) :: _) = _
    cases hx : x == n with
    | true =>
      simp only [List.lookup_cons, hx] at h
      by_cases hc : (k == NameKind.free && env.scope.kind == .function && env.kindOf n == some .cell) = true
      · rw [if_pos hc]; exact .inl (by simp [List.lookup_cons, hx])
      · rw [if_neg hc]; simp only [List.lookup_cons, hx]; exact h
    | false =>
      simp only [List.lookup_cons, hx] at h
      by_cases hc : (k == NameKind.free && env.scope.kind == .function && env.kindOf n == some .cell) = true
      · rw [if_pos hc]; simp only [List.lookup_cons, hx]; exact ih h
      · rw [if_neg hc]; simp only [List.lookup_cons, hx]; exact ih h
theorem blkOk_nest {X : Cx} {s : Shared} {H : Hp} {scope1 scope : Scope} {cl : List (Str × Addr)} {C : Addr} {env : Env} {fp : List Addr} {own : List (Str × Nat)} {N : List Str} (hN : X.N = N) (h : blkC N scope1 scope own = true) :
    BlkOk (X.blk s H scope1 (compEnvC scope1 cl C env) fp).N (X.blk s H scope1 (compEnvC scope1 cl C env) fp).env.scope scope own := by
  subst hN
  obtain ⟨h1, h2, h3, h4, h5⟩ := blkOk_by h
  exact ⟨h1, h2, h3, fun y hy e => relabel_kept (h4 y hy e), h5⟩
end Toy
namespace Toy
open PySem PySem.Spec PyProof.Rows L2
/-! ### own classes -/
/-- where a name's class stands -/
def cAt (mg : Str → Option Value) (x : Str) : Addr := match mg x with | some (.ref C) => C | _ => 0
theorem cAt_eq {mg : Str → Option Value} {x : Str} {C : Addr} (h : mg x = some (.ref C)) : cAt mg x = C := by unfold cAt; rw [h]
structure ClsF (K : PySem.W.Frag) (mg : Str → Option Value) (x : Str) (fs : List Str) : Prop where
  mg_ : mg x = some (.ref (cAt mg x))
  cl : Cls K (cAt mg x)
  no : ∀ f ∈ fs, NoAttr K (cAt mg x) f
theorem ClsF.of {K : PySem.W.Frag} {mg : Str → Option Value} {x : Str} {C : Addr} {fs : List Str} (m : mg x = some (.ref C)) (c : Cls K C) (n : ∀ f ∈ fs, NoAttr K C f) : ClsF K mg x fs := by
  have e := cAt_eq m
  exact ⟨by rw [e]; exact m, by rw [e]; exact c, by rw [e]; exact n⟩
/-- a method, by its class -/
structure DfM (K : PySem.W.Frag) (C : Addr) (m q : Str) (st : Stmt) (ps : List Str) : Prop where
  ex : ∃ f fd, Fun K m q st f fd ∧ Meth K C m f ∧ Binds K fd ps []
theorem DfM.of {K : PySem.W.Frag} {mg : Str → Option Value} {x m q : Str} {st : Stmt} {ps : List Str} {f C : Addr} {oc : Value} {od an : Option Addr} {osl : Array (Option Value)} {kV doc pm cdv ct : Value} (hC : mg x = some (.ref C))
    (a : PySem.W.findIn K (.ref C) m = some (some (.ref f))) (i : PySem.W.isFn K (.ref f) = true)
    (l : K.lookup f = some ⟨oc, od, .func (PySem.W.fnOf m q (defArgs st) (defBody st) (defScope st) .none kV doc pm an cdv ct), osl⟩) (c : PySem.W.codeIn K cdv q = true) (k : PySem.W.keepIn K (.ref f) = true)
    (h : ∀ (kV doc pm : Value) (an : Option Addr) (cdv ct : Value) (us : List Value), us.length = ps.length → bindArgs (PySem.W.fnOf m q (defArgs st) (defBody st) (defScope st) .none kV doc pm an cdv ct) ⟨us, []⟩ = pure (ps.zip us)) : DfM K (cAt mg x) m q st ps := by
  rw [cAt_eq hC]
  exact ⟨_, _, fun_mk l c k, ⟨a, i, k⟩, (fun_mk l c k).binds h⟩
structure DnM (P : Program) (w : World) (K : PySem.W.Frag) (mg : Str → Option Value) (base : Heap) (C : Addr) (k : Nat) (m : Str) (ps : List Str) (sp : Sp) : Prop where
  ex : ∃ f fd, FnG P w K mg base CX0 k f fd ps sp ∧ Meth K C m f ∧ Binds K fd ps []
theorem DfM.ok {P : Program} {w : World} {K : PySem.W.Frag} {mg : Str → Option Value} {base : Heap} {C : Addr} {m q : Str} {st : Stmt} {ps : List Str} {k : Nat} {sp : Sp} (D : DfM K C m q st ps)
    (h : ∀ f fd, Fun K m q st f fd → FnG P w K mg base CX0 k f fd ps sp) : DnM P w K mg base C k m ps sp := by
  obtain ⟨f, fd, F, mt, b⟩ := D.ex
  exact ⟨f, fd, h f fd F, mt, b⟩
/-- the maker of a class -/
structure DfI (K : PySem.W.Frag) (C : Addr) (q : Str) (st : Stmt) (ps : List Str) : Prop where
  ex : ∃ f fd, Fun K "__init__" q st f fd ∧ Mk K C f ∧ Binds K fd ps []
theorem DfI.of {K : PySem.W.Frag} {mg : Str → Option Value} {x q : Str} {st : Stmt} {ps : List Str} {f C : Addr} {oc : Value} {od an : Option Addr} {osl : Array (Option Value)} {kV doc pm cdv ct : Value} (hC : mg x = some (.ref C))
    (a : PySem.W.findIn K (.ref C) "__init__" = some (some (.ref f))) (i : PySem.W.isFn K (.ref f) = true)
    (l : K.lookup f = some ⟨oc, od, .func (PySem.W.fnOf "__init__" q (defArgs st) (defBody st) (defScope st) .none kV doc pm an cdv ct), osl⟩) (c : PySem.W.codeIn K cdv q = true) (k : PySem.W.keepIn K (.ref f) = true)
    (mk : PySem.W.makesIn K C = true) (kc : PySem.W.keepIn K (.ref C) = true)
    (h : ∀ (kV doc pm : Value) (an : Option Addr) (cdv ct : Value) (us : List Value), us.length = ps.length → bindArgs (PySem.W.fnOf "__init__" q (defArgs st) (defBody st) (defScope st) .none kV doc pm an cdv ct) ⟨us, []⟩ = pure (ps.zip us)) : DfI K (cAt mg x) q st ps := by
  rw [cAt_eq hC]
  exact ⟨_, _, fun_mk l c k, ⟨mk, a, i, kc⟩, (fun_mk l c k).binds h⟩
structure DnI (P : Program) (w : World) (K : PySem.W.Frag) (mg : Str → Option Value) (base : Heap) (C : Addr) (k : Nat) (ps : List Str) (sp : Sp) : Prop where
  ex : ∃ f fd, FnG P w K mg base CX0 k f fd ps sp ∧ Mk K C f ∧ Binds K fd ps []
theorem DfI.ok {P : Program} {w : World} {K : PySem.W.Frag} {mg : Str → Option Value} {base : Heap} {C : Addr} {q : Str} {st : Stmt} {ps : List Str} {k : Nat} {sp : Sp} (D : DfI K C q st ps)
    (h : ∀ f fd, Fun K "__init__" q st f fd → FnG P w K mg base CX0 k f fd ps sp) : DnI P w K mg base C k ps sp := by
  obtain ⟨f, fd, F, mt, b⟩ := D.ex
  exact ⟨f, fd, h f fd F, mt, b⟩
theorem RoomG.make {k : Nat} {A : Around} (r : RoomG (k + 1) A) (C : Addr) (us : List Value) (kw : List (Str × Value)) : RoomG k (A.under (.builtin "type.__call__" ⟨.ref C :: us, kw⟩)) :=
  ⟨r.room.make C us kw, r.idle⟩
section
variable {X : Cx} {k : Nat} {C : Addr} {ps : List Str} {sp : Sp} {x m : Str} {p pos apos : Pos} {e o : Expr} {es : List Expr} {ta : TE} {t : TA}
theorem pe_mG {pl : Sem Bool} (D : DnM X.prog X.w X.K X.mg X.base C k m ps sp) (c : Cls X.K C) (hr : RoomG k X.A) (he : PE X o ta) (ha : PA X (e :: es) t)
    (hst : starEach (e :: es) X.env = (false, eval e X.env) :: starEach es X.env := by rfl) (hpl : (backTo pos (starEach es X.env)).any (·.1) = false := by rfl)
    (ht : eval (.Call (.Attribute o m apos) (e :: es) [] pos) X.env = (do
      let ov ← eval o X.env
      standAt apos.atName
      let (f, first) ← holding [ov] (getMethod ov m pl)
      callWith pos f first (backTo pos (starEach (e :: es) X.env)) (backToKw pos (keywordEach [] X.env))) := by rfl) :
    PE X (.Call (.Attribute o m apos) (e :: es) [] pos) (tMeth C m sp [] E0 ta t) := by
  obtain ⟨f, fd, F, hm, hb⟩ := D.ex
  refine ⟨fun pins s σ H Q I h => ?_⟩
  refine PySem.W.methodCall_KW (pl := pl) (thn (he.run pins s σ H _ I h) fun u s1 ⟨x, H1, I1, rx, a, dx, fs, ex, ea, l, q⟩ => ?_) ht
  subst ex
  obtain rfl : u = Value.ref a := rx
  refine getmeth_ok I1 ea c hm l ?_
  refine PySem.W.callWith_K (first := [.ref a]) (h₀ := X.base) I.ok.mod.kin hm.kp (thn (ha.run pos pins s1 σ H1 _ I1 q) fun us s2 ⟨vs, H2, I2, r, q2⟩ => ⟨I2.kIn, ?_⟩) hst hpl
  have q' : sp (.ref a :: vs) H2 Q E0 := by
    have z : sp (.ref a :: (vs ++ [])) H2 Q E0 := q2
    rw [List.append_nil] at z
    exact z
  exact run_G (us := .ref a :: us) (vs := .ref a :: vs) F hr hb (fun _ _ z => z.elim) I2 (.cons rfl r) q'
theorem pe_mG0 {pl : Sem Bool} (D : DnM X.prog X.w X.K X.mg X.base C k m ps sp) (c : Cls X.K C) (hr : RoomG k X.A) (he : PE X o ta)
    (ht : eval (.Call (.Attribute o m apos) [] [] pos) X.env = (do
      let ov ← eval o X.env
      standAt apos.atName
      let (f, first) ← holding [ov] (getMethod ov m pl)
      callWith pos f first (backTo pos (starEach [] X.env)) (backToKw pos (keywordEach [] X.env))) := by rfl) :
    PE X (.Call (.Attribute o m apos) [] [] pos) (tMeth C m sp [] E0 ta tNil) := by
  obtain ⟨f, fd, F, hm, hb⟩ := D.ex
  refine ⟨fun pins s σ H Q I h => ?_⟩
  refine PySem.W.methodCall_KW (pl := pl) (thn (he.run pins s σ H _ I h) fun u s1 ⟨x, H1, I1, rx, a, dx, fs, ex, ea, l, q⟩ => ?_) ht
  subst ex
  obtain rfl : u = Value.ref a := rx
  refine getmeth_ok I1 ea c hm l ?_
  exact PySem.W.callWith_K0 (first := [.ref a]) I1.kIn hm.kp (run_G (us := [.ref a]) (vs := [.ref a]) F hr hb (fun _ _ z => z.elim) I1 (.cons rfl .nil) q)
theorem run_mkG {pins : List (Addr × Obj)} {σ : L2.St} {H : Hp} {s : Shared} {Q : VK} {us : List Value} {vs : List V} {f : Addr} {fd : FuncData} (M : Mk X.K C f) (F : FnG X.prog X.w X.K X.mg X.base CX0 k f fd ps sp) (hr : RoomG (k + 1) X.A) (hb : Binds X.K fd ps [])
    (I : Inv X pins σ H s) (r : Vals vs us)
    (h : ∀ x dx, H x = none → H dx = none → dx ≠ x → sp (.ref x :: vs) (upd (upd H dx (.own x)) x (.ins C dx [])) (fun v H2 => v = .non ∧ Q (.ref x) H2) E0) :
    wpAny (model X.prog X.w) X.A (call (.ref C) us) (EP X pins σ Q) X.xe s := by
  have hq := h (s.heap.objs.size + 1) s.heap.objs.size (I.hok.fresh (Nat.le_succ _)) (I.hok.fresh (Nat.le_refl _)) (Nat.ne_of_lt (Nat.lt_succ_self _))
  have I2 := Inv.made (C := C) I
  have r2 : Vals (V.ref (s.heap.objs.size + 1) :: vs) (Value.ref (s.heap.objs.size + 1) :: us) := .cons rfl r
  have hl : (Value.ref (s.heap.objs.size + 1) :: us).length = ps.length := by
    rw [← r2.length]
    exact F.arity _ _ _ _ hq
  have b := hb { s with heap := _ } (Value.ref (s.heap.objs.size + 1) :: us) I2.kIn (by rw [List.append_nil]; exact hl)
  rw [List.append_nil] at b
  refine wpAny_call (make_map (f := f) I.kIn M.makes M.init (beq_iff_eq.mp M.fn) (codeAny_mono (F.go (hr.make C us []) (I2.env0.make C us []) b r2 hq) fun r s' hq' => ?_))
  cases r with
  | error e => exact hq'.elim
  | ok fl =>
    match fl, hq' with
    | .ret u, hq' =>
      obtain ⟨v, H', I3, rv, ev, q3⟩ := I2.after hq'
      subst ev
      exact ⟨rv, ⟨V.ref (s.heap.objs.size + 1), H', I3, rfl, q3⟩⟩
theorem pe_mkG (D : DnI X.prog X.w X.K X.mg X.base C k ps sp) (hr : RoomG (k + 1) X.A) (hg : Gl X x) (hm : X.mg x = some (.ref C)) (ha : PA X (e :: es) t) (hdb : (x == ("__debug__" : Str)) = false := by decide)
    (he : starEach (e :: es) X.env = (false, eval e X.env) :: starEach es X.env := by rfl) (hpl : (backTo pos (starEach es X.env)).any (·.1) = false := by rfl) :
    PE X (.Call (.Name x p) (e :: es) [] pos) (tMake C sp [] E0 t) := by
  obtain ⟨f, fd, F, M, hb⟩ := D.ex
  refine ⟨fun pins s σ H Q I h => ?_⟩
  refine wpAny_Call_Name_kw (ld_glob I hg hm ?_ hdb)
  refine PySem.W.callWith_K (h₀ := X.base) I.ok.mod.kin M.kp (thn (ha.run pos pins s σ H _ I h) fun us s1 ⟨vs, H1, I1, r, q⟩ => ⟨I1.kIn, ?_⟩) he hpl
  exact run_mkG M F hr hb I1 r fun x dx h1 h2 h3 => by
    have z := q x dx h1 h2 h3
    rw [List.append_nil] at z
    exact z
/-- o.f, as a target -/
def gFld (K : PySem.W.Frag) (to : TE) (f : Str) : TG := fun v σ H Q => to σ H fun x H1 => ∃ a C dx fs, x = .ref a ∧ H1 a = some (.ins C dx fs) ∧ Cls K C ∧ NoAttr K C f ∧ fs.length < 1000 ∧ Q σ (upd H1 a (.ins C dx (putF f v fs)))
theorem pg_fld {f : Str} {to : TE} (ho : PE X o to) : PG X (.Attribute o f pos) (gFld X.K to f) := by
  refine ⟨fun pins s σ H v u Q I r h => ?_⟩
  rw [assign_Attribute]
  refine wpAny_bind (wpAny_holding (thn (ho.run pins s σ H _ I h) fun ov s1 ⟨x, H1, I1, rx, a, C, dx, fs, ex, ea, c, n, l, q⟩ => ?_))
  subst ex
  obtain rfl : ov = Value.ref a := rx
  refine wpAny_bind (wpAny_standAt ?_)
  refine wpAny_bind (wpAny_holding (setattr_ok I1 ea c n l r fun s2 I2 => ?_))
  exact wpAny_release ⟨σ, _, I2, q⟩
end
end Toy
namespace Toy
open PySem PySem.Spec PyProof.Rows L2
theorem hp_same {H H' : Hp} {a : Addr} {o : HO} (s : Same H H') (h : H a = some o) : H' a = some o := s _ _ h
theorem hp_at {H H' : Hp} {a : Addr} {o : HO} (h : H a = some o) (s : Same H H') : H' a = some o := s _ _ h
theorem sql_at {K : PySem.W.Frag} {H H' : Hp} {p : Addr} {xs : List V} (h : SqL K H p xs) (s : Same H H') : SqL K H' p xs := s.seq h
theorem sqt_at {K : PySem.W.Frag} {H H' : Hp} {a : Addr} {xs : List V} (h : SqT K H a xs) (s : Same H H') : SqT K H' a xs := same_tup s h
theorem same_bk {H M H' : Hp} (b : Same M H') (a : Same H M) : Same H H' := a.trans b
theorem hp_new {H : Hp} {l a : Addr} {o u : HO} (n : H l = none) (h : H a = some o) : upd H l u a = some o := same_new n u _ _ h
theorem s1k : 1000 ≤ sizeLine := by decide
theorem lk1000 {n : Nat} (h : n ≤ 1000) : n ≤ sizeLine := Nat.le_trans h s1k
theorem lt1000 {n : Nat} (h : n < 1000) : n < sizeLine := Nat.lt_of_lt_of_le h s1k
theorem tyL {K : PySem.W.Frag} {H : Hp} {p : Addr} {xs : List V} (h : H p = some (.lst xs)) : tyV K "list" (.ref p) H := .inl ⟨rfl, xs, SqL.of h⟩
theorem sq_same {K : PySem.W.Frag} {H H' : Hp} {p : Addr} {xs : List V} (s : Same H H') (h : SqL K H p xs) : SqL K H' p xs := s.seq h
theorem newS {H H' : Hp} {l : Addr} {o : HO} (e : upd H l o = H') (n : H l = none) : Same H H' := e ▸ same_new n o
theorem newO {H H' : Hp} {l : Addr} {o : HO} (e : upd H l o = H') : H' l = some o := e ▸ upd_same
end Toy
namespace Toy
open PySem PySem.Spec PyProof.Rows L2
/-! ### what may raise -/
section
variable {X : Cx} {k : Nat} {ps : List Str} {sp : Sp} {x : Str} {p pos : Pos} {e : Expr} {es : List Expr} {t : TA} {W : WX}
theorem cx_no {outer : List Env} {H : Hp} {s : Shared} {e : Value} {s' : Shared} {P : Program} {w : World} (h : L2.CX P w outer H s E0 e s') : False := by
  obtain ⟨_, _, _, _, _, _, _, _, _, _, _, _, z⟩ := h
  exact z.elim
/-- a call that may raise; W takes what is raised -/
theorem pe_cW (D : Dx X.prog X.w X.K X.mg X.base k x ps sp) (hr : RoomG k X.A) (tk : Takes X W) (hg : Gl X x) (ha : PA X (e :: es) t) (hdb : (x == ("__debug__" : Str)) = false := by decide)
    (he : starEach (e :: es) X.env = (false, eval e X.env) :: starEach es X.env := by rfl) (hpl : (backTo pos (starEach es X.env)).any (·.1) = false := by rfl) : PE X (.Call (.Name x p) (e :: es) [] pos) (tCallS sp (WE W) t) := by
  obtain ⟨f, fd, F, hk, hm, hb⟩ := D.ex
  exact ⟨fun pins s σ H Q I h => wpAny_Call_Name_kw (ld_glob I hg hm (PySem.W.callWith_K (h₀ := X.base) I.ok.mod.kin hk (thn (ha.run pos pins s σ H _ I h) fun us s1 ⟨vs, H1, I1, r, q⟩ => ⟨I1.kIn, run_G F hr hb (fun e s' c => passAt tk σ pins H1 s1 e s' I1 c) I1 r q⟩) he hpl) hdb)⟩
theorem pe_cW0 (D : Dx X.prog X.w X.K X.mg X.base k x ps sp) (hr : RoomG k X.A) (tk : Takes X W) (hg : Gl X x) (hdb : (x == ("__debug__" : Str)) = false := by decide) : PE X (.Call (.Name x p) [] [] pos) (tCallS sp (WE W) tNil) := by
  obtain ⟨f, fd, F, hk, hm, hb⟩ := D.ex
  exact ⟨fun pins s σ H Q I h => wpAny_Call_Name_kw (ld_glob I hg hm (PySem.W.callWith_K0 I.kIn hk (run_G (us := []) F hr hb (fun e s' c => passAt tk σ pins H s e s' I c) I .nil h)) hdb)⟩
/-- .. that does not raise here -/
theorem pe_cXn (D : Dx X.prog X.w X.K X.mg X.base k x ps sp) (hr : RoomG k X.A) (hg : Gl X x) (ha : PA X (e :: es) t) (hdb : (x == ("__debug__" : Str)) = false := by decide)
    (he : starEach (e :: es) X.env = (false, eval e X.env) :: starEach es X.env := by rfl) (hpl : (backTo pos (starEach es X.env)).any (·.1) = false := by rfl) : PE X (.Call (.Name x p) (e :: es) [] pos) (tCall sp [] E0 t) := by
  obtain ⟨f, fd, F, hk, hm, hb⟩ := D.ex
  refine ⟨fun pins s σ H Q I h => wpAny_Call_Name_kw (ld_glob I hg hm (PySem.W.callWith_K (h₀ := X.base) I.ok.mod.kin hk (thn (ha.run pos pins s σ H _ I h) fun us s1 ⟨vs, H1, I1, r, q⟩ => ⟨I1.kIn, ?_⟩) he hpl) hdb)⟩
  have q' : sp vs H1 Q E0 := by
    have z : sp (vs ++ []) H1 Q E0 := q
    rw [List.append_nil] at z
    exact z
  exact run_G F hr hb (fun _ _ z => (cx_no z).elim) I1 r q'
/-- a def with defaults that may raise -/
structure DxD (P : Program) (w : World) (K : PySem.W.Frag) (mg : Str → Option Value) (base : Heap) (k : Nat) (x : Str) (ps : List Str) (dvs : List V) (sp : Sp) : Prop where
  ex : ∃ (f : Addr) (fd : FuncData) (ds : List Value), FnG P w K mg base (L2.CX P w) k f fd ps sp ∧ PySem.W.keepIn K (.ref f) = true ∧ mg x = some (.ref f) ∧ Binds K fd ps ds ∧ Vals dvs ds
theorem Dfd.okX {P : Program} {w : World} {K : PySem.W.Frag} {mg : Str → Option Value} {base : Heap} {x : Str} {st : Stmt} {dvs : List V} (D : Dfd K mg x st ps dvs)
    (h : ∀ f fd, FunA K x x st f fd → FnG P w K mg base (L2.CX P w) k f fd ps sp) : DxD P w K mg base k x ps dvs sp := by
  obtain ⟨f, fd, ds, F, kp, m, b, d⟩ := D.ex
  exact ⟨f, fd, ds, h f fd F, kp, m, b, d⟩
theorem pe_cXd {dvs : List V} (D : DxD X.prog X.w X.K X.mg X.base k x ps dvs sp) (hr : RoomG k X.A) (tk : Takes X W) (hg : Gl X x) (ha : PA X (e :: es) t) (hdb : (x == ("__debug__" : Str)) = false := by decide)
    (he : starEach (e :: es) X.env = (false, eval e X.env) :: starEach es X.env := by rfl) (hpl : (backTo pos (starEach es X.env)).any (·.1) = false := by rfl) : PE X (.Call (.Name x p) (e :: es) [] pos) (fun σ H Q => t σ H fun vs H1 => sp (vs ++ dvs) H1 Q (WE W σ)) := by
  obtain ⟨f, fd, ds, F, hk, hm, hb, hd⟩ := D.ex
  exact ⟨fun pins s σ H Q I h => wpAny_Call_Name_kw (ld_glob I hg hm (PySem.W.callWith_K (h₀ := X.base) I.ok.mod.kin hk (thn (ha.run pos pins s σ H _ I h) fun us s1 ⟨vs, H1, I1, r, q⟩ => ⟨I1.kIn, run_Gd F hr hb hd (fun e s' c => passAt tk σ pins H1 s1 e s' I1 c) I1 r q⟩) he hpl) hdb)⟩
theorem pe_cXdn {dvs : List V} (D : DxD X.prog X.w X.K X.mg X.base k x ps dvs sp) (hr : RoomG k X.A) (hg : Gl X x) (ha : PA X (e :: es) t) (hdb : (x == ("__debug__" : Str)) = false := by decide)
    (he : starEach (e :: es) X.env = (false, eval e X.env) :: starEach es X.env := by rfl) (hpl : (backTo pos (starEach es X.env)).any (·.1) = false := by rfl) : PE X (.Call (.Name x p) (e :: es) [] pos) (tCall sp dvs E0 t) := by
  obtain ⟨f, fd, ds, F, hk, hm, hb, hd⟩ := D.ex
  exact ⟨fun pins s σ H Q I h => wpAny_Call_Name_kw (ld_glob I hg hm (PySem.W.callWith_K (h₀ := X.base) I.ok.mod.kin hk (thn (ha.run pos pins s σ H _ I h) fun us s1 ⟨vs, H1, I1, r, q⟩ => ⟨I1.kIn, run_Gd F hr hb hd (fun _ _ z => (cx_no z).elim) I1 r q⟩) he hpl) hdb)⟩
/-- a method that may raise -/
structure DxM (P : Program) (w : World) (K : PySem.W.Frag) (mg : Str → Option Value) (base : Heap) (C : Addr) (k : Nat) (m : Str) (ps : List Str) (sp : Sp) : Prop where
  ex : ∃ f fd, FnG P w K mg base (L2.CX P w) k f fd ps sp ∧ Meth K C m f ∧ Binds K fd ps []
theorem DfM.okX {P : Program} {w : World} {K : PySem.W.Frag} {mg : Str → Option Value} {base : Heap} {C : Addr} {m q : Str} {st : Stmt} (D : DfM K C m q st ps)
    (h : ∀ f fd, Fun K m q st f fd → FnG P w K mg base (L2.CX P w) k f fd ps sp) : DxM P w K mg base C k m ps sp := by
  obtain ⟨f, fd, F, mt, b⟩ := D.ex
  exact ⟨f, fd, h f fd F, mt, b⟩
variable {m : Str} {apos : Pos} {o : Expr} {ta : TE} {C : Addr}
def tMethX (C : Addr) (m : Str) (sp : Sp) (W : WX) (ta : TE) (t : TA) : TE := fun σ H Q => ta σ H fun x H1 => ∃ a dx fs, x = .ref a ∧ H1 a = some (.ins C dx fs) ∧ fs.lookup m = none ∧ t σ H1 fun vs H2 => sp (x :: vs) H2 Q (WE W σ)
theorem pe_mX {pl : Sem Bool} (D : DxM X.prog X.w X.K X.mg X.base C k m ps sp) (c : Cls X.K C) (hr : RoomG k X.A) (tk : Takes X W) (he : PE X o ta) (ha : PA X (e :: es) t)
    (hst : starEach (e :: es) X.env = (false, eval e X.env) :: starEach es X.env := by rfl) (hpl : (backTo pos (starEach es X.env)).any (·.1) = false := by rfl)
    (ht : eval (.Call (.Attribute o m apos) (e :: es) [] pos) X.env = (do
      let ov ← eval o X.env
      standAt apos.atName
      let (f, first) ← holding [ov] (getMethod ov m pl)
      callWith pos f first (backTo pos (starEach (e :: es) X.env)) (backToKw pos (keywordEach [] X.env))) := by rfl) :
    PE X (.Call (.Attribute o m apos) (e :: es) [] pos) (tMethX C m sp W ta t) := by
  obtain ⟨f, fd, F, hm, hb⟩ := D.ex
  refine ⟨fun pins s σ H Q I h => ?_⟩
  refine PySem.W.methodCall_KW (pl := pl) (thn (he.run pins s σ H _ I h) fun u s1 ⟨x, H1, I1, rx, a, dx, fs, ex, ea, l, q⟩ => ?_) ht
  subst ex
  obtain rfl : u = Value.ref a := rx
  refine getmeth_ok I1 ea c hm l ?_
  refine PySem.W.callWith_K (first := [.ref a]) (h₀ := X.base) I.ok.mod.kin hm.kp (thn (ha.run pos pins s1 σ H1 _ I1 q) fun us s2 ⟨vs, H2, I2, r, q2⟩ => ⟨I2.kIn, ?_⟩) hst hpl
  exact run_G (us := .ref a :: us) (vs := .ref a :: vs) F hr hb (fun e s' c => passAt tk σ pins H2 s2 e s' I2 c) I2 (.cons rfl r) q2
theorem pe_mXn {pl : Sem Bool} (D : DxM X.prog X.w X.K X.mg X.base C k m ps sp) (c : Cls X.K C) (hr : RoomG k X.A) (he : PE X o ta) (ha : PA X (e :: es) t)
    (hst : starEach (e :: es) X.env = (false, eval e X.env) :: starEach es X.env := by rfl) (hpl : (backTo pos (starEach es X.env)).any (·.1) = false := by rfl)
    (ht : eval (.Call (.Attribute o m apos) (e :: es) [] pos) X.env = (do
      let ov ← eval o X.env
      standAt apos.atName
      let (f, first) ← holding [ov] (getMethod ov m pl)
      callWith pos f first (backTo pos (starEach (e :: es) X.env)) (backToKw pos (keywordEach [] X.env))) := by rfl) :
    PE X (.Call (.Attribute o m apos) (e :: es) [] pos) (tMeth C m sp [] E0 ta t) := by
  obtain ⟨f, fd, F, hm, hb⟩ := D.ex
  refine ⟨fun pins s σ H Q I h => ?_⟩
  refine PySem.W.methodCall_KW (pl := pl) (thn (he.run pins s σ H _ I h) fun u s1 ⟨x, H1, I1, rx, a, dx, fs, ex, ea, l, q⟩ => ?_) ht
  subst ex
  obtain rfl : u = Value.ref a := rx
  refine getmeth_ok I1 ea c hm l ?_
  refine PySem.W.callWith_K (first := [.ref a]) (h₀ := X.base) I.ok.mod.kin hm.kp (thn (ha.run pos pins s1 σ H1 _ I1 q) fun us s2 ⟨vs, H2, I2, r, q2⟩ => ⟨I2.kIn, ?_⟩) hst hpl
  have q' : sp (.ref a :: vs) H2 Q E0 := by
    have z : sp (.ref a :: (vs ++ [])) H2 Q E0 := q2
    rw [List.append_nil] at z
    exact z
  exact run_G (us := .ref a :: us) (vs := .ref a :: vs) F hr hb (fun _ _ z => (cx_no z).elim) I2 (.cons rfl r) q'
/-- a maker that may raise -/
structure DxI (P : Program) (w : World) (K : PySem.W.Frag) (mg : Str → Option Value) (base : Heap) (C : Addr) (k : Nat) (ps : List Str) (sp : Sp) : Prop where
  ex : ∃ f fd, FnG P w K mg base (L2.CX P w) k f fd ps sp ∧ Mk K C f ∧ Binds K fd ps []
theorem DfI.okX {P : Program} {w : World} {K : PySem.W.Frag} {mg : Str → Option Value} {base : Heap} {C : Addr} {q : Str} {st : Stmt} (D : DfI K C q st ps)
    (h : ∀ f fd, Fun K "__init__" q st f fd → FnG P w K mg base (L2.CX P w) k f fd ps sp) : DxI P w K mg base C k ps sp := by
  obtain ⟨f, fd, F, mt, b⟩ := D.ex
  exact ⟨f, fd, h f fd F, mt, b⟩
theorem run_mkX {pins : List (Addr × Obj)} {σ : L2.St} {H : Hp} {s : Shared} {Q : VK} {E : XK} {us : List Value} {vs : List V} {f : Addr} {fd : FuncData} (M : Mk X.K C f) (F : FnG X.prog X.w X.K X.mg X.base (L2.CX X.prog X.w) k f fd ps sp) (hr : RoomG (k + 1) X.A) (hb : Binds X.K fd ps [])
    (out : ∀ (H2 : Hp) (s2 : Shared) e s', Inv X pins σ H2 s2 → L2.CX X.prog X.w X.stack H2 s2 E e s' → X.xe e s') (I : Inv X pins σ H s) (r : Vals vs us)
    (h : ∀ x dx, H x = none → H dx = none → dx ≠ x → sp (.ref x :: vs) (upd (upd H dx (.own x)) x (.ins C dx [])) (fun v H2 => v = .non ∧ Q (.ref x) H2) E) :
    wpAny (model X.prog X.w) X.A (call (.ref C) us) (EP X pins σ Q) X.xe s := by
  have hq := h (s.heap.objs.size + 1) s.heap.objs.size (I.hok.fresh (Nat.le_succ _)) (I.hok.fresh (Nat.le_refl _)) (Nat.ne_of_lt (Nat.lt_succ_self _))
  have I2 := Inv.made (C := C) I
  have r2 : Vals (V.ref (s.heap.objs.size + 1) :: vs) (Value.ref (s.heap.objs.size + 1) :: us) := .cons rfl r
  have hl : (Value.ref (s.heap.objs.size + 1) :: us).length = ps.length := by
    rw [← r2.length]
    exact F.arity _ _ _ _ hq
  have b := hb { s with heap := _ } (Value.ref (s.heap.objs.size + 1) :: us) I2.kIn (by rw [List.append_nil]; exact hl)
  rw [List.append_nil] at b
  refine wpAny_call (make_map (f := f) I.kIn M.makes M.init (beq_iff_eq.mp M.fn) (codeAny_mono (F.go (hr.make C us []) (I2.env0.make C us []) b r2 hq) fun r s' hq' => ?_))
  cases r with
  | error e => exact out _ _ e s' I2 hq'
  | ok fl =>
    match fl, hq' with
    | .ret u, hq' =>
      obtain ⟨v, H', I3, rv, ev, q3⟩ := I2.after hq'
      subst ev
      exact ⟨rv, ⟨V.ref (s.heap.objs.size + 1), H', I3, rfl, q3⟩⟩
def tMakeX (C : Addr) (sp : Sp) (W : WX) (t : TA) : TE := fun σ H Q => t σ H fun vs H1 => ∀ x dx, H1 x = none → H1 dx = none → dx ≠ x → sp (.ref x :: vs) (upd (upd H1 dx (.own x)) x (.ins C dx [])) (fun v H2 => v = .non ∧ Q (.ref x) H2) (WE W σ)
theorem pe_mkX (D : DxI X.prog X.w X.K X.mg X.base C k ps sp) (hr : RoomG (k + 1) X.A) (tk : Takes X W) (hg : Gl X x) (hm : X.mg x = some (.ref C)) (ha : PA X (e :: es) t) (hdb : (x == ("__debug__" : Str)) = false := by decide)
    (he : starEach (e :: es) X.env = (false, eval e X.env) :: starEach es X.env := by rfl) (hpl : (backTo pos (starEach es X.env)).any (·.1) = false := by rfl) :
    PE X (.Call (.Name x p) (e :: es) [] pos) (tMakeX C sp W t) := by
  obtain ⟨f, fd, F, M, hb⟩ := D.ex
  refine ⟨fun pins s σ H Q I h => ?_⟩
  refine wpAny_Call_Name_kw (ld_glob I hg hm ?_ hdb)
  refine PySem.W.callWith_K (h₀ := X.base) I.ok.mod.kin M.kp (thn (ha.run pos pins s σ H _ I h) fun us s1 ⟨vs, H1, I1, r, q⟩ => ⟨I1.kIn, ?_⟩) he hpl
  exact run_mkX M F hr hb (fun H2 s2 e s' I2 c => passAt tk σ pins H2 s2 e s' I2 c) I1 r q
theorem pe_mkXn (D : DxI X.prog X.w X.K X.mg X.base C k ps sp) (hr : RoomG (k + 1) X.A) (hg : Gl X x) (hm : X.mg x = some (.ref C)) (ha : PA X (e :: es) t) (hdb : (x == ("__debug__" : Str)) = false := by decide)
    (he : starEach (e :: es) X.env = (false, eval e X.env) :: starEach es X.env := by rfl) (hpl : (backTo pos (starEach es X.env)).any (·.1) = false := by rfl) :
    PE X (.Call (.Name x p) (e :: es) [] pos) (tMake C sp [] E0 t) := by
  obtain ⟨f, fd, F, M, hb⟩ := D.ex
  refine ⟨fun pins s σ H Q I h => ?_⟩
  refine wpAny_Call_Name_kw (ld_glob I hg hm ?_ hdb)
  refine PySem.W.callWith_K (h₀ := X.base) I.ok.mod.kin M.kp (thn (ha.run pos pins s σ H _ I h) fun us s1 ⟨vs, H1, I1, r, q⟩ => ⟨I1.kIn, ?_⟩) he hpl
  exact run_mkX M F hr hb (fun _ _ _ _ _ c => (cx_no c).elim) I1 r fun x dx h1 h2 h3 => by
    have z := q x dx h1 h2 h3
    rw [List.append_nil] at z
    exact z
end
/-- bodies that may raise -/
theorem okGX {P : Program} {w : World} {K : PySem.W.Frag} {mg : Str → Option Value} {base : Heap} {x qual : Str} {st : Stmt} {f : Addr} {fd : FuncData} {N ps : List Str} {k : Nat} {sp : Sp} (F : Fun K x qual st f fd) (S : FnScope N ps (defScope st)) (ar : ∀ vs H Q E, sp vs H Q E → vs.length = ps.length)
    (body : ∀ (cdv : Value) (A : Around) (outer : List Env) (s : Shared) (H : Hp) (vs : List V) (Q : VK) (E : XK), RoomG k (A.deeper (envOfC qual (defScope st) s.heap.objs.size f cdv)) → sp vs H Q E →
      ∃ t, PSs (cxOf (L2.CX P w) P w K mg base N qual (defScope st) f cdv A outer s H E) (defBody st) t ∧ t { nx := fun _ H' => Q .non H', rt := Q } (start N vs) H) : FnG P w K mg base (L2.CX P w) (k + 1) f fd ps sp :=
  okGA (toA F) S ar body
/-- a class of errors -/
structure ExcF (K : PySem.W.Frag) (mg : Str → Option Value) (x : Str) : Prop where
  mg_ : mg x = some (.ref (cAt mg x))
  ex : PySem.W.excIn K (cAt mg x) [.type "ValueError", .type "Exception", .type "BaseException", .type "object"] "ValueError.__new__" = true
  kp : PySem.W.keepIn K (.ref (cAt mg x)) = true
  bs : PySem.W.subIn K (.ref (cAt mg x)) (.type "BaseException") = some true
  tp : PySem.W.typeIn K (.ref (cAt mg x)) = some (.type "type")
  is : PySem.W.isClsIn K (cAt mg x) = true
theorem ExcF.of {K : PySem.W.Frag} {mg : Str → Option Value} {x : Str} {C : Addr} (m : mg x = some (.ref C)) (h1 : PySem.W.excIn K C [.type "ValueError", .type "Exception", .type "BaseException", .type "object"] "ValueError.__new__" = true) (h2 : PySem.W.keepIn K (.ref C) = true)
    (h3 : PySem.W.subIn K (.ref C) (.type "BaseException") = some true) (h4 : PySem.W.typeIn K (.ref C) = some (.type "type")) (h5 : PySem.W.isClsIn K C = true) : ExcF K mg x := by
  have e := cAt_eq m
  exact ⟨by rw [e]; exact m, by rw [e]; exact h1, by rw [e]; exact h2, by rw [e]; exact h3, by rw [e]; exact h4, by rw [e]; exact h5⟩
/-- one class stands under another one, or does not -/
def SubF (K : PySem.W.Frag) (mg : Str → Option Value) (x y : Str) (b : Bool) : Prop := PySem.W.subIn K (.ref (cAt mg x)) (.ref (cAt mg y)) = some b
theorem SubF.of {K : PySem.W.Frag} {mg : Str → Option Value} {x y : Str} {C D : Addr} {b : Bool} (m : mg x = some (.ref C)) (m' : mg y = some (.ref D)) (h : PySem.W.subIn K (.ref C) (.ref D) = some b) : SubF K mg x y b := by
  unfold SubF
  rw [cAt_eq m, cAt_eq m']
  exact h
/-- what an except clause asks -/
theorem exm_of {K : PySem.W.Frag} {mg : Str → Option Value} {x y : Str} {b : Bool} (Y : ExcF K mg y) (h : SubF K mg x y b) : PySem.W.exmOne K (.ref (cAt mg x)) (.ref (cAt mg y)) = some b := by
  have e1 : (PySem.W.subIn K (.ref (cAt mg y)) (.type "BaseException") == some true) = true := by rw [Y.bs] <;> rfl
  have e2 : ((PySem.W.clsIn K (cAt mg y)).isSome && PySem.W.typeIn K (.ref (cAt mg y)) == some (.type "type")) = true := by
    have h2' : (PySem.W.clsIn K (cAt mg y)).isSome = true := Y.is
    rw [h2', Y.tp] <;> rfl
  show (if (PySem.W.subIn K (.ref (cAt mg y)) (.type "BaseException") == some true) = true then (if ((PySem.W.clsIn K (cAt mg y)).isSome && PySem.W.typeIn K (.ref (cAt mg y)) == some (.type "type")) = true then PySem.W.subIn K (.ref (cAt mg x)) (.ref (cAt mg y)) else none) else none) = some b
  rw [if_pos e1, if_pos e2]
  exact h
end Toy
namespace Toy
open PySem PySem.Spec PyProof.Rows L2
/-! ### isinstance of a caught error -/
def rIsX (K : PySem.W.Frag) (cls : Value) (d : Option Addr) (a : Addr) : List V → Hp → VK → Prop := fun xs H Q => ∃ (D : Addr) (c : V) (cv : Value) (b : Bool), xs = [.ref a, c] ∧ cls = .ref D ∧ d = none ∧ ExcC K D ∧ ClsV c cv ∧ PySem.W.kitOne K (.ref D) cv = some b ∧ Q (.bl b) H
theorem call_isX {X : Cx} {a : Addr} {cls : Value} {d : Option Addr} {oe : Obj} {pn : List (Addr × Obj)} (hz : Zc cls d oe) (hf : ∃ vs, oe.data = .fields vs) : CallR (X.suite a ((a, oe) :: pn)) (.builtin "isinstance") (rIsX X.K cls d a) := by
  intro pins s σ H xs us Q I r h
  obtain ⟨D, c, cv, b, rfl, rfl, rfl, C, hc, e, q⟩ := h
  exact call_isE C hz hf pins s σ H _ us Q I r ⟨c, cv, b, rfl, fun u ru => hc.eq ru, e, q⟩
/-- .. with a tuple of classes -/
def rIsXT (K : PySem.W.Frag) (cls : Value) (d : Option Addr) (a : Addr) : List V → Hp → VK → Prop := fun xs H Q => ∃ (D tp : Addr) (cs : List V) (us : List Value) (b : Bool), xs = [.ref a, .ref tp] ∧ cls = .ref D ∧ d = none ∧ ExcC K D ∧ H tp = some (.tup cs) ∧ Paired ClsV cs us ∧ PySem.W.kitAny K (.ref D) us = some b ∧ Q (.bl b) H
theorem call_isXT {X : Cx} {a : Addr} {cls : Value} {d : Option Addr} {oe : Obj} {pn : List (Addr × Obj)} (hz : Zc cls d oe) (hf : ∃ vs, oe.data = .fields vs) : CallR (X.suite a ((a, oe) :: pn)) (.builtin "isinstance") (rIsXT X.K cls d a) := by
  intro pins s σ H xs us Q I r h
  obtain ⟨D, tp, cs, ws, b, rfl, rfl, rfl, C, hT, k, e, q⟩ := h
  obtain ⟨u1, u2, rfl, r1, r2⟩ := vals2 r
  cases (show u1 = Value.ref a from r1)
  cases (show u2 = Value.ref tp from r2)
  obtain ⟨hget, _⟩ := I.pin (a, oe) (List.mem_append.mpr (.inl List.mem_cons_self))
  obtain ⟨vs, hv⟩ := hf
  have J : PySem.W.InstAt s.heap a oe D none := by
    obtain ⟨oc, od, oda, osl⟩ := oe
    obtain ⟨h1, h2⟩ := hz
    dsimp only at h1 h2 hv
    subst h1 h2 hv
    exact ⟨hget, rfl, rfl, trivial⟩
  obtain ⟨_, its, rv, o, h1, h2, n, h3⟩ := (show ObjOk (X.suite a ((a, oe) :: pn)).prog (X.suite a ((a, oe) :: pn)).w H s.heap tp (.tup cs) from I.hok tp _ hT)
  have e3 := ClsV.all k rv
  subst e3
  obtain ⟨oc, od, dt, sl⟩ := o
  simp only at h2 h3
  subst h2 h3
  exact PySem.W.kia_tup (PySem.W.handS_kitx_exc C.hg C.hk C.hs C.hd C.ha C.hn C.ht C.hm) I.kIn J h1 e (fun z => nomatch z) fun tk => ⟨.bl b, H, I.kept (t' := tk) fun _ _ z => z, rfl, q⟩
/-- one class, asked by isinstance -/
theorem kitO {K : PySem.W.Frag} {mg : Str → Option Value} {x y : Str} {b : Bool} (Y : ExcF K mg y) (hx : SubF K mg x x true) (h : SubF K mg x y b) : PySem.W.kitOne K (.ref (cAt mg x)) (.ref (cAt mg y)) = some b := by
  unfold PySem.W.kitOne
  by_cases e : (Value.ref (cAt mg x) == Value.ref (cAt mg y)) = true
  · rw [if_pos e]
    have e' : cAt mg x = cAt mg y := Value.ref.inj (beq_iff_eq.mp e)
    unfold SubF at h hx
    rw [← e', hx] at h
    exact h
  · rw [if_neg e]
    have e2 : ((PySem.W.clsIn K (cAt mg y)).isSome && PySem.W.typeIn K (.ref (cAt mg y)) == some (.type "type")) = true := by
      have h2' : (PySem.W.clsIn K (cAt mg y)).isSome = true := Y.is
      rw [h2', Y.tp] <;> rfl
    show (if ((PySem.W.clsIn K (cAt mg y)).isSome && PySem.W.typeIn K (.ref (cAt mg y)) == some (.type "type")) = true then PySem.W.subIn K (.ref (cAt mg x)) (.ref (cAt mg y)) else none) = some b
    rw [if_pos e2]
    exact h
structure ExcI (K : PySem.W.Frag) (mg : Str → Option Value) (x : Str) : Prop where
  c : ExcC K (cAt mg x)
  ve : PySem.W.subIn K (.ref (cAt mg x)) (.type "ValueError") = some true
theorem ExcI.of {K : PySem.W.Frag} {mg : Str → Option Value} {x : Str} {C : Addr} (m : mg x = some (.ref C)) (h : ExcC K C) (v : PySem.W.subIn K (.ref C) (.type "ValueError") = some true) : ExcI K mg x := by
  have e := cAt_eq m
  exact ⟨by rw [e]; exact h, by rw [e]; exact v⟩
theorem kitVE {K : PySem.W.Frag} {mg : Str → Option Value} {x : Str} (h : ExcI K mg x) : PySem.W.kitOne K (.ref (cAt mg x)) (.type "ValueError") = some true := by
  unfold PySem.W.kitOne
  have e : ¬ (Value.ref (cAt mg x) == Value.type "ValueError") = true := fun z => by cases (beq_iff_eq.mp z)
  rw [if_neg e]
  show (if PySem.W.kitMeta "ValueError" = true then PySem.W.subIn K (.ref (cAt mg x)) (.type "ValueError") else none) = some true
  rw [if_pos (by decide +kernel)]
  exact h.ve
end Toy
namespace Toy
open PySem PySem.Spec PyProof.Rows L2
theorem kitAnyF {K : PySem.W.Frag} {mg : Str → Option Value} {t : Value} : ∀ {ys : List Str}, (∀ y ∈ ys, PySem.W.kitOne K t (.ref (cAt mg y)) = some false) → PySem.W.kitAny K t (ys.map fun y => Value.ref (cAt mg y)) = some false
  | [], _ => kitAny_nil
  | y :: ys, h => kitAny_cons (h y List.mem_cons_self) (fun _ => kitAnyF fun z hz => h z (List.mem_cons_of_mem _ hz)) (fun z => by cases z)
theorem pairOwn {mg : Str → Option Value} : ∀ ys : List Str, Paired ClsV (ys.map fun y => V.ref (cAt mg y)) (ys.map fun y => Value.ref (cAt mg y))
  | [] => .nil
  | y :: ys => .cons (.own _) (pairOwn ys)
end Toy
namespace Toy
open PySem PySem.Spec PyProof.Rows L2
section
variable {X : Cx} {i k1 k2 : Nat} {x : Str} {p pos : Pos} {e : Expr} {es : List Expr} {t : TA} {W : WX}
/-- a local that holds one of two defs, called; both may raise -/
def tCvW (i : Nat) (f1 f2 : Addr) (sp1 sp2 : Sp) (W : WX) (t : TA) : TE := fun σ H Q =>
  (σ[i]? = some (some (.ref f1)) ∧ t σ H fun vs H1 => sp1 vs H1 Q (WE W σ)) ∨ (σ[i]? = some (some (.ref f2)) ∧ t σ H fun vs H1 => sp2 vs H1 Q (WE W σ))
theorem Dx.mg {P : Program} {w : World} {K : PySem.W.Frag} {mg : Str → Option Value} {base : Heap} {k : Nat} {x : Str} {ps : List Str} {sp : Sp} (D : Dx P w K mg base k x ps sp) : mg x = some (.ref (cAt mg x)) := by
  obtain ⟨f, fd, F, hk, hm, hb⟩ := D.ex
  rw [cAt_eq hm]
  exact hm
theorem pe_cvW {mg : Str → Option Value} {x1 x2 : Str} {ps1 ps2 : List Str} {sp1 sp2 : Sp} (D1 : Dx X.prog X.w X.K mg X.base k1 x1 ps1 sp1) (D2 : Dx X.prog X.w X.K mg X.base k2 x2 ps2 sp2) (r1 : RoomG k1 X.A) (r2 : RoomG k2 X.A) (tk : Takes X W) (ha : PA X (e :: es) t)
    (hN : X.N[i]? = some x := by rfl) (hv : Vis X.env.scope x := by first | exact Or.inl rfl | exact Or.inr (Or.inl rfl) | exact Or.inr (Or.inr rfl)) (hd : (x == ("__debug__" : Str)) = false := by decide) (hcd : (x == ("__classdict__" : Str)) = false := by decide)
    (he : starEach (e :: es) X.env = (false, eval e X.env) :: starEach es X.env := by rfl) (hpl : (backTo pos (starEach es X.env)).any (·.1) = false := by rfl) (em : mg = X.mg := by rfl) :
    PE X (.Call (.Name x p) (e :: es) [] pos) (tCvW i (cAt mg x1) (cAt mg x2) sp1 sp2 W t) := by
  subst em
  have one : ∀ {k : Nat} {y : Str} {ps : List Str} {sp : Sp} (pins : List (Addr × Obj)) (s : Shared) (σ : L2.St) (H : Hp) (Q : VK), Dx X.prog X.w X.K X.mg X.base k y ps sp → RoomG k X.A → Inv X pins σ H s → σ[i]? = some (some (.ref (cAt X.mg y))) →
      (t σ H fun vs H1 => sp vs H1 Q (WE W σ)) → wpAny (model X.prog X.w) X.A (eval (.Call (.Name x p) (e :: es) [] pos) X.env) (EP X pins σ Q) X.xe s := by
    intro k y ps sp pins s σ H Q D hr I hs ht
    obtain ⟨f, fd, F, hk, hm, hb⟩ := D.ex
    rw [cAt_eq hm] at hs
    have look := (pe_var (pos := p) hN hv hd hcd).run pins s σ H (fun v H1 => v = .ref f ∧ H1 = H) I ⟨.ref f, hs, rfl, rfl⟩
    refine wpAny_Call_Name_kw (thn look ?_)
    rintro u s1 ⟨v, H1, I1, q1, rfl, rfl⟩
    cases q1
    have args := ha.run pos pins s1 σ _ _ I1 ht
    refine PySem.W.callWith_K (h₀ := X.base) I.ok.mod.kin hk (thn args ?_) he hpl
    rintro us s2 ⟨vs, H2, I2, r, q⟩
    exact ⟨I2.kIn, run_G F hr hb (fun e s' c => passAt tk σ pins H2 s2 e s' I2 c) I2 r q⟩
  constructor
  rintro pins s σ H Q I (⟨h1, h2⟩ | ⟨h1, h2⟩)
  · exact one pins s σ H Q D1 r1 I h1 h2
  · exact one pins s σ H Q D2 r2 I h1 h2
end
end Toy
namespace Toy
open PySem PySem.Spec PyProof.Rows L2
/-! ### a def that takes the caught error (mine) -/
abbrev SpE := Addr → Value → Option Addr → Sp
structure FnE (P : Program) (w : World) (K : PySem.W.Frag) (mg : Str → Option Value) (base : Heap) (k : Nat) (f : Addr) (fd : FuncData) (ps : List Str) (sp : SpE) : Prop where
  arity : ∀ a cls d vs H Q E, sp a cls d vs H Q E → vs.length = ps.length
  go : ∀ {A : Around} {outer : List Env} {s : Shared} {H : Hp} {args : Args} {us : List Value} {vs : List V} {Q : VK} {E : XK} {p : Addr × Obj} {cls : Value} {d : Option Addr}, L2H.RoomH k A → L2H.PinOk outer H s p → Zc cls d p.2 → (∃ fs, p.2.data = .fields fs) → Env0 P w K mg base A outer s H →
    BindsTo s fd args (ps.zip us) → Vals vs us → sp p.1 cls d vs H Q E → codeAny (model P w) A (.call (.ref f) args) (CR CX0 outer P w H s Q E) s
theorem okFE {P : Program} {w : World} {K : PySem.W.Frag} {mg : Str → Option Value} {base : Heap} {x qual : Str} {st : Stmt} {f : Addr} {fd : FuncData} {N ps : List Str} {k : Nat} {sp : SpE} (F : Fun K x qual st f fd) (S : FnScope N ps (defScope st)) (ar : ∀ a cls d vs H Q E, sp a cls d vs H Q E → vs.length = ps.length)
    (body : ∀ (cdv : Value) (A : Around) (outer : List Env) (s : Shared) (H : Hp) (vs : List V) (Q : VK) (E : XK) (a : Addr) (oe : Obj) (cls : Value) (d : Option Addr), Zc cls d oe → (∃ fs, oe.data = .fields fs) → sp a cls d vs H Q E →
      ∃ t, PSs (L2H.cxH CX0 P w K mg base N qual (defScope st) f cdv A outer s H E (a, oe)).nox (defBody st) t ∧ t { nx := fun _ H' => Q .non H', rt := Q } (start N vs) H) : FnE P w K mg base (k + 1) f fd ps sp := by
  obtain ⟨oc, od, kV, doc, pm, an, cdv, ct, osl, rfl, lk, hcd⟩ := F.ex
  refine ⟨ar, ?_⟩
  intro A outer s H args us vs Q E p cls d room hpin hz hf e0 hb rv hsp
  obtain ⟨a, oe⟩ := p
  have kin : K.In s.heap := e0.mod.kin.keeps fun b o z => (e0.bs b o z).1
  have nolim : s.heap.NoLimit := e0.mod.nolimit.keeps fun b o z => (e0.bs b o z).1
  have kinds : ∀ y ∈ ps.zip us, (defScope st).names.lookup y.1 = some .local ∨ ((defScope st).names.lookup y.1 = some .cell ∧ ((cellsFrom (s.heap.objs.size + 1) (defScope st).names []).lookup y.1).isSome = true) := by
    rintro ⟨n, v⟩ hy
    exact (S.par n (List.of_mem_zip hy).1).imp _root_.id fun q => ⟨q, PySem.W.cellsFrom_some _ _ _ (.inl q)⟩
  refine codeAny_call_function room.depth (kin _ _ lk) rfl S.co S.gen rfl (PySem.W.codeRec_of kin hcd) (hb _ _ _ _ (wpAny_newFunctionEnv_cells S.kind kinds fun env he s1 inC => ?_))
  subst he
  obtain ⟨t, ht, hq⟩ := body cdv A outer s H vs Q E a oe cls d hz hf hsp
  refine ⟨nolim.keeps inC.toInCall.keep, codeAny_func (wpAny_mono (ht.nox.run [] s1 (start N vs) H _ (L2H.inv_startH S hpin e0 (ar _ _ _ _ _ _ _ hsp) rv inC) hq) (fun fl s' z => ?_) fun e s' z => z)⟩
  have fin : ∀ {σ' : L2.St} {H' : Hp} {v : V} {u : Value}, Inv (L2H.cxH CX0 P w K mg base N qual (defScope st) f cdv A outer s H E (a, oe)) [] σ' H' s' → RelV v u → Q v H' → CE outer P w H s Q u s' :=
    fun {σ' H' v u} J rv q => ⟨v, H', J.os, J.bare, J.base, J.hok, rv, q⟩
  cases fl with
  | ret u =>
    obtain ⟨v, σ', H', J, rv, q⟩ := z
    exact fin J rv q
  | next =>
    obtain ⟨σ', H', J, q⟩ := z
    exact fin (v := V.non) (u := Value.none) J rfl q
  | brk =>
    obtain ⟨_, _, _, q⟩ := z
    exact False.elim q
  | cont =>
    obtain ⟨_, _, _, q⟩ := z
    exact False.elim q
structure DnE (P : Program) (w : World) (K : PySem.W.Frag) (mg : Str → Option Value) (base : Heap) (k : Nat) (x : Str) (ps : List Str) (sp : SpE) : Prop where
  ex : ∃ f fd, FnE P w K mg base k f fd ps sp ∧ PySem.W.keepIn K (.ref f) = true ∧ mg x = some (.ref f) ∧ Binds K fd ps []
theorem Df.okE {P : Program} {w : World} {K : PySem.W.Frag} {mg : Str → Option Value} {base : Heap} {x : Str} {st : Stmt} {ps : List Str} {k : Nat} {sp : SpE} (D : Df K mg x st ps)
    (h : ∀ f fd, Fun K x x st f fd → FnE P w K mg base k f fd ps sp) : DnE P w K mg base k x ps sp := by
  obtain ⟨f, fd, F, m, b⟩ := D.ex
  exact ⟨f, fd, h f fd F, F.kp, m, b⟩
section
variable {X : Cx} {k : Nat} {ps : List Str} {sp : SpE} {x : Str} {p pos : Pos} {e : Expr} {es : List Expr} {t : TA}
/-- .. called within the suite -/
def tCallE (sp : SpE) (a : Addr) (cls : Value) (d : Option Addr) (t : TA) : TE := fun σ H Q => t σ H fun vs H1 => sp a cls d vs H1 Q E0
theorem pe_cE {a : Addr} {oe : Obj} {cls : Value} {d : Option Addr} {pn : List (Addr × Obj)} (D : DnE X.prog X.w X.K X.mg X.base k x ps sp) (hr : L2H.RoomH k X.A) (hz : Zc cls d oe) (hf : ∃ fs, oe.data = .fields fs) (hg : Gl X x) (ha : PA (X.suite a ((a, oe) :: pn)) (e :: es) t) (hdb : (x == ("__debug__" : Str)) = false := by decide)
    (he : starEach (e :: es) X.env = (false, eval e X.env) :: starEach es X.env := by rfl) (hpl : (backTo pos (starEach es X.env)).any (·.1) = false := by rfl) : PE (X.suite a ((a, oe) :: pn)) (.Call (.Name x p) (e :: es) [] pos) (tCallE sp a cls d t) := by
  obtain ⟨f, fd, F, hk, hm, hb⟩ := D.ex
  refine ⟨fun pins s σ H Q I h => wpAny_Call_Name_kw (ld_glob I hg hm (PySem.W.callWith_K (h₀ := X.base) I.ok.mod.kin hk (thn (ha.run pos pins s σ H _ I h) fun us s1 ⟨vs, H1, I1, r, q⟩ => ⟨I1.kIn, ?_⟩) he hpl) hdb)⟩
  have n := (r.length).symm.trans (F.arity _ _ _ _ _ _ _ q)
  have b := hb s1 us I1.kIn (by rw [List.append_nil, n])
  rw [List.append_nil] at b
  have P1 := I1.pin (a, oe) (List.mem_append_left _ List.mem_cons_self)
  have hpin : L2H.PinOk X.stack H1 s1 (a, oe) := ⟨P1.1, P1.2.1, fun hm => (List.mem_cons.mp (I1.stkSub a hm)).elim P1.2.2.1 P1.2.2.2.1, P1.2.2.2.2⟩
  refine wpAny_call (codeAny_mono (F.go (A := X.A.mark (some (.ref a))) ⟨hr.dp, hr.un⟩ hpin hz hf I1.env0 b r q) ?_)
  rintro (e | fl) s' q
  · exact q.elim
  · match fl, q with
    | .ret u, q => exact I1.after q
/-- isinstance of it there -/
theorem call_isP {X : Cx} {a : Addr} {cls : Value} {d : Option Addr} {oe : Obj} (hp : (a, oe) ∈ X.pn) (hz : Zc cls d oe) (hf : ∃ vs, oe.data = .fields vs) : CallR X (.builtin "isinstance") (rIsX X.K cls d a) := by
  intro pins s σ H xs us Q I r h
  obtain ⟨D, c, cv, b, rfl, rfl, rfl, C, hc, e, q⟩ := h
  obtain ⟨u1, u2, rfl, rx, rt⟩ := vals2 r
  cases (show u1 = Value.ref a from rx)
  have ec := hc.eq rt
  subst ec
  obtain ⟨hget, _⟩ := I.pin (a, oe) (List.mem_append.mpr (.inl hp))
  obtain ⟨vs, hv⟩ := hf
  have J : PySem.W.InstAt s.heap a oe D none := by
    obtain ⟨oc, od, oda, osl⟩ := oe
    obtain ⟨h1, h2⟩ := hz
    dsimp only at h1 h2 hv
    subst h1 h2 hv
    exact ⟨hget, rfl, rfl, trivial⟩
  exact PySem.W.kia_one (PySem.W.handS_kitx_exc C.hg C.hk C.hs C.hd C.ha C.hn C.ht C.hm) I.kIn J e (fun z => nomatch z) fun tk => ⟨.bl b, H, I.kept (t' := tk) fun _ _ z => z, rfl, q⟩
end
end Toy
namespace Toy
open PySem L2
def top (i : Nat) : Stmt := PySem.Challenge.pw_joinedasks_k67_refused_by_tables.main.body.getD i (.Pass ⟨0, 0, 0, 0⟩)
abbrev s_is_whole : Stmt := top 7
theorem sc_is_whole : FnScope ["thing"] ["thing"] (defScope s_is_whole) := ⟨rfl, rfl, rfl, by decide +kernel, rfl, by decide +kernel, by decide +kernel⟩
abbrev s_is_within : Stmt := top 8
theorem sc_is_within : FnScope ["thing", "least", "most"] ["thing", "least", "most"] (defScope s_is_within) := ⟨rfl, rfl, rfl, by decide +kernel, rfl, by decide +kernel, by decide +kernel⟩
abbrev s_want_within : Stmt := top 9
theorem sc_want_within : FnScope ["thing", "least", "most"] ["thing", "least", "most"] (defScope s_want_within) := ⟨rfl, rfl, rfl, by decide +kernel, rfl, by decide +kernel, by decide +kernel⟩
abbrev s_is_by_table : Stmt := top 14
theorem sc_is_by_table : FnScope ["thing", "states", "state"] ["thing", "states"] (defScope s_is_by_table) := ⟨rfl, rfl, rfl, by decide +kernel, rfl, by decide +kernel, by decide +kernel⟩
abbrev s_are_by_table : Stmt := top 15
theorem sc_are_by_table : FnScope ["thing", "most", "states", "deed"] ["thing", "most"] (defScope s_are_by_table) := ⟨rfl, rfl, rfl, by decide +kernel, rfl, by decide +kernel, by decide +kernel⟩
abbrev s_one_then : Stmt := top 16
theorem sc_one_then : FnScope ["one", "other", "state"] ["one", "other"] (defScope s_one_then) := ⟨rfl, rfl, rfl, by decide +kernel, rfl, by decide +kernel, by decide +kernel⟩
abbrev s_grown : Stmt := top 17
theorem sc_grown : FnScope ["deeds", "found", "waiting", "here", "number", "deed", "made"] ["deeds"] (defScope s_grown) := ⟨rfl, rfl, rfl, by decide +kernel, rfl, by decide +kernel, by decide +kernel⟩
abbrev s_want_makers : Stmt := top 18
theorem sc_want_makers : FnScope ["deeds"] ["deeds"] (defScope s_want_makers) := ⟨rfl, rfl, rfl, by decide +kernel, rfl, by decide +kernel, by decide +kernel⟩
abbrev s_family : Stmt := top 19
theorem sc_family : FnScope ["deeds"] ["deeds"] (defScope s_family) := ⟨rfl, rfl, rfl, by decide +kernel, rfl, by decide +kernel, by decide +kernel⟩
abbrev s_words : Stmt := top 20
theorem sc_words : FnScope ["deeds"] ["deeds"] (defScope s_words) := ⟨rfl, rfl, rfl, by decide +kernel, rfl, by decide +kernel, by decide +kernel⟩
abbrev s_want_many : Stmt := top 23
theorem sc_want_many : FnScope ["many"] ["many"] (defScope s_want_many) := ⟨rfl, rfl, rfl, by decide +kernel, rfl, by decide +kernel, by decide +kernel⟩
abbrev s_is_tree : Stmt := top 24
theorem sc_is_tree : FnScope ["thing", "many", "waiting", "come", "one"] ["thing", "many"] (defScope s_is_tree) := ⟨rfl, rfl, rfl, by decide +kernel, rfl, by decide +kernel, by decide +kernel⟩
abbrev s_are_numbers : Stmt := top 27
theorem sc_are_numbers : FnScope ["thing", "many", "number"] ["thing", "many"] (defScope s_are_numbers) := ⟨rfl, rfl, rfl, by decide +kernel, rfl, by decide +kernel, by decide +kernel⟩
abbrev s_is_table : Stmt := top 28
theorem sc_is_table : FnScope ["thing", "row"] ["thing"] (defScope s_is_table) := ⟨rfl, rfl, rfl, by decide +kernel, rfl, by decide +kernel, by decide +kernel⟩
abbrev s_want_table : Stmt := top 29
theorem sc_want_table : FnScope ["table"] ["table"] (defScope s_want_table) := ⟨rfl, rfl, rfl, by decide +kernel, rfl, by decide +kernel, by decide +kernel⟩
abbrev s_want_by_table : Stmt := top 30
theorem sc_want_by_table : FnScope ["deeds", "table"] ["deeds", "table"] (defScope s_want_by_table) := ⟨rfl, rfl, rfl, by decide +kernel, rfl, by decide +kernel, by decide +kernel⟩
abbrev s_want_numbers : Stmt := top 31
theorem sc_want_numbers : FnScope ["table", "numbers"] ["table", "numbers"] (defScope s_want_numbers) := ⟨rfl, rfl, rfl, by decide +kernel, rfl, by decide +kernel, by decide +kernel⟩
abbrev s_want_grouped : Stmt := top 32
theorem sc_want_grouped : FnScope ["numbers", "tree"] ["numbers", "tree"] (defScope s_want_grouped) := ⟨rfl, rfl, rfl, by decide +kernel, rfl, by decide +kernel, by decide +kernel⟩
abbrev s_own_table : Stmt := top 33
theorem sc_own_table : FnScope ["deeds", "some", "number_of", "number", "deed", "one", "other"] ["deeds"] (defScope s_own_table) := ⟨rfl, rfl, rfl, by decide +kernel, rfl, by decide +kernel, by decide +kernel⟩
abbrev s_held : Stmt := top 34
theorem sc_held : FnScope ["deeds", "table", "i", "row", "j", "number"] ["deeds", "table"] (defScope s_held) := ⟨rfl, rfl, rfl, by decide +kernel, rfl, by decide +kernel, by decide +kernel⟩
abbrev s_broken : Stmt := top 35
theorem sc_broken : FnScope ["table", "i", "row", "j", "both", "last"] ["table"] (defScope s_broken) := ⟨rfl, rfl, rfl, by decide +kernel, rfl, by decide +kernel, by decide +kernel⟩
abbrev s_fold : Stmt := top 36
theorem sc_fold : FnScope ["table", "numbers", "tree"] ["table", "numbers", "tree"] (defScope s_fold) := ⟨rfl, rfl, rfl, by decide +kernel, rfl, by decide +kernel, by decide +kernel⟩
abbrev s_share : Stmt := top 37
theorem sc_share : FnScope ["deeds", "table", "numbers", "tree", "state", "behind", "ahead"] ["deeds", "table", "numbers", "tree", "state"] (defScope s_share) := ⟨rfl, rfl, rfl, by decide +kernel, rfl, by decide +kernel, by decide +kernel⟩
abbrev s_folded_by : Stmt := top 38
theorem sc_folded_by : FnScope ["table", "numbers", "tree"] ["table", "numbers", "tree"] (defScope s_folded_by) := ⟨rfl, rfl, rfl, by decide +kernel, rfl, by decide +kernel, by decide +kernel⟩
abbrev s_shared_by : Stmt := top 39
theorem sc_shared_by : FnScope ["deeds", "table", "numbers", "tree", "state"] ["deeds", "table", "numbers", "tree", "state"] (defScope s_shared_by) := ⟨rfl, rfl, rfl, by decide +kernel, rfl, by decide +kernel, by decide +kernel⟩
abbrev s__law_store : Stmt := top 41
theorem sc__law_store : FnScope ["_law_script", "_law_k", "_law_cell"] ["_law_script", "_law_k"] (defScope s__law_store) := ⟨rfl, rfl, rfl, by decide +kernel, rfl, by decide +kernel, by decide +kernel⟩
abbrev s__law_draw : Stmt := top 42
theorem sc__law_draw : FnScope ["_law_store_here", "_law_many", "_law_digit"] ["_law_store_here", "_law_many"] (defScope s__law_draw) := ⟨rfl, rfl, rfl, by decide +kernel, rfl, by decide +kernel, by decide +kernel⟩
abbrev s__law_tree : Stmt := top 43
theorem sc__law_tree : FnScope ["_law_store_here", "_law_first", "_law_many", "_law_left", "_law_one"] ["_law_store_here", "_law_first", "_law_many"] (defScope s__law_tree) := ⟨rfl, rfl, rfl, by decide +kernel, rfl, by decide +kernel, by decide +kernel⟩
abbrev s__law_odd : Stmt := top 44
theorem sc__law_odd : FnScope ["_law_store_here", "_law_beyond"] ["_law_store_here", "_law_beyond"] (defScope s__law_odd) := ⟨rfl, rfl, rfl, by decide +kernel, rfl, by decide +kernel, by decide +kernel⟩
abbrev s__law_row_spoilt : Stmt := top 45
theorem sc__law_row_spoilt : FnScope ["_law_store_here", "_law_row", "_law_beyond", "_law_choice", "_law_at"] ["_law_store_here", "_law_row", "_law_beyond"] (defScope s__law_row_spoilt) := ⟨rfl, rfl, rfl, by decide +kernel, rfl, by decide +kernel, by decide +kernel⟩
abbrev s__law_rows_spoilt : Stmt := top 46
theorem sc__law_rows_spoilt : FnScope ["_law_store_here", "_law_rows", "_law_beyond", "_law_choice", "_law_at"] ["_law_store_here", "_law_rows", "_law_beyond"] (defScope s__law_rows_spoilt) := ⟨rfl, rfl, rfl, by decide +kernel, rfl, by decide +kernel, by decide +kernel⟩
abbrev s__law_tree_spoilt : Stmt := top 47
theorem sc__law_tree_spoilt : FnScope ["_law_store_here", "_law_tree_here", "_law_many", "_law_choice", "_law_k", "_law_inner", "_law_odd_here"] ["_law_store_here", "_law_tree_here", "_law_many"] (defScope s__law_tree_spoilt) := ⟨rfl, rfl, rfl, by decide +kernel, rfl, by decide +kernel, by decide +kernel⟩
abbrev s__law_is_number : Stmt := top 48
theorem sc__law_is_number : FnScope ["_law_thing", "_law_many"] ["_law_thing", "_law_many"] (defScope s__law_is_number) := ⟨rfl, rfl, rfl, by decide +kernel, rfl, by decide +kernel, by decide +kernel⟩
abbrev s__law_are_numbers : Stmt := top 49
theorem sc__law_are_numbers : FnScope ["_law_thing", "_law_many", "_law_one"] ["_law_thing", "_law_many"] (defScope s__law_are_numbers) := ⟨rfl, rfl, rfl, by decide +kernel, rfl, by decide +kernel, by decide +kernel⟩
abbrev s__law_are_deeds : Stmt := top 50
theorem sc__law_are_deeds : FnScope ["_law_thing", "_law_most", "_law_many", "_law_one"] ["_law_thing", "_law_most"] (defScope s__law_are_deeds) := ⟨rfl, rfl, rfl, by decide +kernel, rfl, by decide +kernel, by decide +kernel⟩
abbrev s__law_is_table : Stmt := top 51
theorem sc__law_is_table : FnScope ["_law_thing", "_law_row"] ["_law_thing"] (defScope s__law_is_table) := ⟨rfl, rfl, rfl, by decide +kernel, rfl, by decide +kernel, by decide +kernel⟩
abbrev s__law_leaves : Stmt := top 52
theorem sc__law_leaves : FnScope ["_law_thing"] ["_law_thing"] (defScope s__law_leaves) := ⟨rfl, rfl, rfl, by decide +kernel, rfl, by decide +kernel, by decide +kernel⟩
abbrev s__law_is_tree : Stmt := top 53
theorem sc__law_is_tree : FnScope ["_law_thing", "_law_many", "_law_found", "_law_one"] ["_law_thing", "_law_many"] (defScope s__law_is_tree) := ⟨rfl, rfl, rfl, by decide +kernel, rfl, by decide +kernel, by decide +kernel⟩
abbrev s__law_due : Stmt := top 54
theorem sc__law_due : FnScope ["_law_choice", "_law_deeds", "_law_table", "_law_numbers", "_law_tree_here", "_law_state"] ["_law_choice", "_law_deeds", "_law_table", "_law_numbers", "_law_tree_here", "_law_state"] (defScope s__law_due) := ⟨rfl, rfl, rfl, by decide +kernel, rfl, by decide +kernel, by decide +kernel⟩
abbrev s__law_asked : Stmt := top 55
theorem sc__law_asked : FnScope ["_law_choice", "_law_deeds", "_law_table", "_law_numbers", "_law_tree_here", "_law_state"] ["_law_choice", "_law_deeds", "_law_table", "_law_numbers", "_law_tree_here", "_law_state"] (defScope s__law_asked) := ⟨rfl, rfl, rfl, by decide +kernel, rfl, by decide +kernel, by decide +kernel⟩
abbrev s__law_word : Stmt := top 56
theorem sc__law_word : FnScope ["_law_e", "_law_some"] ["_law_e"] (defScope s__law_word) := ⟨rfl, rfl, rfl, by decide +kernel, rfl, by decide +kernel, by decide +kernel⟩
abbrev s__law_told : Stmt := top 57
theorem sc__law_told : FnScope ["_law_choice", "_law_deeds", "_law_table", "_law_numbers", "_law_tree_here", "_law_state", "_law_told_here", "_law_e"] ["_law_choice", "_law_deeds", "_law_table", "_law_numbers", "_law_tree_here", "_law_state"] (defScope s__law_told) := ⟨rfl, rfl, rfl, by decide +kernel, rfl, by decide +kernel, by decide +kernel⟩
abbrev s__law_things : Stmt := top 58
theorem sc__law_things : FnScope ["_law_store_here", "_law_bad", "_law_states", "_law_rows", "_law_many", "_law_state", "_law_deeds", "_law_table", "_law_numbers", "_law_tree_here", "_law_k", "_law_i", "_law_j"] ["_law_store_here", "_law_bad"] (defScope s__law_things) := ⟨rfl, rfl, rfl, by decide +kernel, rfl, by decide +kernel, by decide +kernel⟩
abbrev s_law : Stmt := top 59
theorem sc_law : FnScope ["_law_script", "_law_k", "_law_store_here", "_law_bad", "_law_deeds", "_law_table", "_law_numbers", "_law_tree_here", "_law_state", "_law_choice", "_law_due_here", "_law_turn"] ["_law_script"] (defScope s_law) := ⟨rfl, rfl, rfl, by decide +kernel, rfl, by decide +kernel, by decide +kernel⟩
structure Bl (K : PySem.W.Frag) (mg : Str → Option Value) : Prop where
  ValueError_ : mg "ValueError" = none
  abs_ : mg "abs" = none
  all_ : mg "all" = none
  bool_ : mg "bool" = none
  dict_ : mg "dict" = none
  enumerate_ : mg "enumerate" = none
  int_ : mg "int" = none
  isinstance_ : mg "isinstance" = none
  len_ : mg "len" = none
  list_ : mg "list" = none
  max_ : mg "max" = none
  min_ : mg "min" = none
  range_ : mg "range" = none
  tuple_ : mg "tuple" = none
  MOST_STATES_ : ∃ t, mg "MOST_STATES" = some (.int (5) t)
  MOST_MAKERS_ : ∃ t, mg "MOST_MAKERS" = some (.int (4) t)
  MOST_FAMILY_ : ∃ t, mg "MOST_FAMILY" = some (.int (60) t)
  MOST_DEEDS_ : ∃ t, mg "MOST_DEEDS" = some (.int (40) t)
  MOST_NUMBERS_ : ∃ t, mg "MOST_NUMBERS" = some (.int (40) t)
  AskError_ : ExcF K mg "AskError"
  NoTable_ : ExcF K mg "NoTable"
  NoNumber_ : ExcF K mg "NoNumber"
  NoTree_ : ExcF K mg "NoTree"
  TooMany_ : ExcF K mg "TooMany"
  NoTable_AskError_ : SubF K mg "NoTable" "AskError" true
  NoTable_NoTable_ : SubF K mg "NoTable" "NoTable" true
  NoTable_NoNumber_ : SubF K mg "NoTable" "NoNumber" false
  NoTable_NoTree_ : SubF K mg "NoTable" "NoTree" false
  NoTable_TooMany_ : SubF K mg "NoTable" "TooMany" false
  NoNumber_AskError_ : SubF K mg "NoNumber" "AskError" true
  NoNumber_NoTable_ : SubF K mg "NoNumber" "NoTable" false
  NoNumber_NoNumber_ : SubF K mg "NoNumber" "NoNumber" true
  NoNumber_NoTree_ : SubF K mg "NoNumber" "NoTree" false
  NoNumber_TooMany_ : SubF K mg "NoNumber" "TooMany" false
  NoTree_AskError_ : SubF K mg "NoTree" "AskError" true
  NoTree_NoTable_ : SubF K mg "NoTree" "NoTable" false
  NoTree_NoNumber_ : SubF K mg "NoTree" "NoNumber" false
  NoTree_NoTree_ : SubF K mg "NoTree" "NoTree" true
  NoTree_TooMany_ : SubF K mg "NoTree" "TooMany" false
  TooMany_AskError_ : SubF K mg "TooMany" "AskError" true
  TooMany_NoTable_ : SubF K mg "TooMany" "NoTable" false
  TooMany_NoNumber_ : SubF K mg "TooMany" "NoNumber" false
  TooMany_NoTree_ : SubF K mg "TooMany" "NoTree" false
  TooMany_TooMany_ : SubF K mg "TooMany" "TooMany" true
  NoTable_i : ExcI K mg "NoTable"
  NoNumber_i : ExcI K mg "NoNumber"
  NoTree_i : ExcI K mg "NoTree"
  TooMany_i : ExcI K mg "TooMany"

end Toy
namespace PySem
/-! ### a, b, .. = a list -/
section
open PyProof.Rows
variable {prog : Program} {w : World} {A : Around} {E : Value → Shared → Prop} {s : Shared}
theorem draw_listU {it t : Addr} {items : Array Value} (hne : t ≠ it) : ∀ (n i : Nat) (s : Shared) (Q : List Value → Shared → Prop), s.heap.IsListIter it t i → s.heap.IsList t items → i + n ≤ items.size →
    (∀ h', h'.IsListIter it t (i + n) → Heap.SameBut it s.heap h' → Q ((items.toList.drop i).take n) { s with heap := h' }) → wpAny (model prog w) A (draw (.ref it) n) Q E s
  | 0, i, s, Q, hit, _, _, hQ => by
    show wpAny _ _ (pure []) Q E s
    exact wpAny_pure (by simpa using hQ s.heap hit (Heap.SameBut.refl ..))
  | n + 1, i, s, Q, hit, ht, hle, hQ => by
    have hlt : i < items.size := by omega
    show wpAny _ _ (pyNext (.ref it) >>= _) Q E s
    refine wpAny_bind (wpAny_pyNext_list_item hit ht (x := items[i]) (by simp [hlt]) fun h₁ hit₁ hs₁ => ?_)
    refine wpAny_bind (wpAny_holding (draw_listU hne n (i + 1) _ _ hit₁ (ht.extBut hs₁.extBut hne) (by omega) fun h₂ hit₂ hs₂ => wpAny_pure ?_))
    have hd : items.toList.drop i = items[i] :: items.toList.drop (i + 1) := by simp [List.drop_eq_getElem_cons, hlt]
    have := hQ h₂ (by rw [show i + (n + 1) = i + 1 + n by omega]; exact hit₂) (hs₁.trans hs₂)
    rw [hd, List.take_succ_cons] at this
    exact this
theorem unpackItems_listU {t : Addr} {items : Array Value} {Q : List Value → Shared → Prop} (hh : A.handled = none) (ht : s.heap.IsList t items)
    (hQ : ∀ h', Heap.ExtBut s.heap.objs.size s.heap h' → Q items.toList { s with heap := h' }) : wpAny (model prog w) A (unpackItems (.ref t) items.size none) Q E s := by
  have hlt : t ≠ s.heap.objs.size := by obtain ⟨o, ho, _⟩ := ht; exact Nat.ne_of_lt (Heap.lt_size ho)
  unfold unpackItems
  refine wpAny_bind ?_
  · unfold notIterableAtAll
    refine wpAny_bind (wpAny_specialOf ht.typeIs slot_list_iter.lookup ?_)
    refine wpAny_pure ?_
    simp only [Bool.false_eq_true, if_false]
    refine wpAny_bind (wpAny_holding (wpAny_pyIter_list ht ?_))
    refine wpAny_bind (wpAny_holding (draw_listU hlt items.size 0 _ _ ⟨_, Heap.get?_push_size _ rfl, rfl, rfl⟩ (ht.push _) (by omega) fun h₁ hit₁ hs₁ => ?_))
    have hall : List.take items.size (List.drop 0 items.toList) = items.toList := by
      rw [List.drop_zero]; exact List.take_of_length_le (by simp)
    rw [hall]
    rw [if_neg (by simp)]
    have ht₁ : h₁.IsList t items := (ht.push _).extBut hs₁.extBut hlt
    refine wpAny_bind (wpAny_holding (wpAny_pyNext_list_end hh hit₁ ht₁ (by simp) fun h₂ he₂ => ?_))
    simp only [Option.isSome_none, Bool.false_eq_true, if_false]
    refine wpAny_pure (hQ h₂ fun b o hb e => he₂ b o hb (hs₁.extBut b o hb (Heap.get?_push_of_some _ e)))
theorem assign_Tuple_listU {env : Env} {elts : List Expr} {x1} {pos : Pos} {t : Addr} {items : Array Value} {Q : Unit → Shared → Prop} (hh : A.handled = none) (ht : s.heap.IsList t items)
    (hn : (assignEach elts env).length = items.size) (hstar : (assignEach elts env).findIdx? (·.1) = none)
    (h : ∀ h', Heap.ExtBut s.heap.objs.size s.heap h' → wpAny (model prog w) A (assignInOrder ((assignEach elts env).map (·.2)) items.toList) Q E { s with heap := h' }) :
    wpAny (model prog w) A (assign (.Tuple elts x1 pos) env (.ref t)) Q E s := by
  rw [assign_Tuple]
  refine wpAny_bind (wpAny_standAt ?_)
  unfold unpack
  rw [hn, hstar]
  exact wpAny_bind (wpAny_holding (unpackItems_listU hh ht h))
end
end PySem
namespace Toy
open PySem PySem.Spec PyProof.Rows L2
/-- (a, b, ..) = a list of that length -/
def gLstU (K : PySem.W.Frag) (n : Nat) (t : TGs) : TG := fun v σ H Q => ∃ a xs, v = .ref a ∧ SqL K H a xs ∧ xs.length = n ∧ t xs σ H Q
theorem pg_lstU {X : Cx} {pos : Pos} {es : List Expr} {k : Nat} {t : TGs} {n : Nat} (hc : X.calm = true) (h : PGs X es t)
    (hn : (assignEach es X.env).length = n := by rfl) (hst : (assignEach es X.env).findIdx? (·.1) = none := by rfl) : PG X (.Tuple es k pos) (gLstU X.K n t) := by
  refine ⟨fun pins s σ H v u Q I r hw => ?_⟩
  obtain ⟨a, xs, e1, hq, hl, hw⟩ := hw
  subst e1
  cases r
  obtain ⟨its, rv, ht, hz⟩ := I.list hq
  refine assign_Tuple_listU (I.ok.hd hc) ht.isList (by simp [hn, ← hl, rv.length]) hst fun h' hx => ?_
  have I1 : Inv X pins σ H { s with heap := h' } := I.kept (t' := s.toks) fun b o e => hx b o (Nat.ne_of_lt (Heap.lt_size e)) e
  exact h.run pins _ σ H xs _ Q I1 (by simpa using rv) hw
/-! ### list.count of flat values -/
theorem cntU {K : PySem.W.Frag} {y : V} {uy : Value} (fy : flatV y = true) (ry : RelV y uy) : ∀ {ys : List V} {us : List Value}, Vals ys us → ys.all flatV = true → us.countP (eqU y) = ys.countP (fun z => eqV z y)
  | _, _, .nil, _ => rfl
  | _, _, .cons (a := v) (l₁ := vs) r rs, h => by
    have h' : (flatV v && vs.all flatV) = true := h
    rw [Bool.and_eq_true] at h'
    have ih := cntU (K := K) fy ry rs h'.2
    rw [List.countP_cons, List.countP_cons, ih, eqU_of r h'.1]
def rCntF (K : PySem.W.Frag) : V → List V → Hp → VK → Prop := fun x xs H Q => ∃ (p : Addr) (ys : List V) (y : V), x = .ref p ∧ xs = [y] ∧ SqL K H p ys ∧ flatV y = true ∧ ys.all flatV = true ∧ Q (.int (ys.countP (fun z => eqV z y) : Nat)) H
theorem mt_lcountF {X : Cx} : MtR X "list.count" (rCntF X.K) := by
  intro pins s σ H x xs v us Q I rx rxs h
  obtain ⟨p, ys, y, rfl, rfl, hs, fy, fys, q⟩ := h
  cases rx
  obtain ⟨u, rfl, ru⟩ := rxs.one
  obtain ⟨its, rv, ⟨⟨cls, dd, data, sl⟩, n, ho, hc, hdn, hd⟩, hlen⟩ := I.list hs
  simp only at hc hd
  subst hc hd
  refine call_meets PySem.F.slot_list_count ⟨_, ho, rfl⟩ PySem.F.entry_list_count (PySem.F.args_list_count_2 _ _)
    (SeqAt.list_countAt p its.toArray n dd sl u (eqU y)) ⟨ho, fun u' hu' => mem_eqAt ru fy rv fys u' (by simpa using hu'), ?_⟩
  have ec : its.toArray.toList.countP (eqU y) = ys.countP (fun z => eqV z y) := cntU (K := X.K) fy ru rv fys
  refine ⟨.int (ys.countP (fun z => eqV z y) : Nat), H, I.tok _, ⟨s.toks, ?_⟩, q⟩
  rw [ec]
end Toy
namespace PySem
theorem eval_CallSub (o i : Expr) (p : Pos) (args : List Expr) (kws : List Keyword) (pos : Pos) (env : Env) : eval (.Call (.Subscript o i p) args kws pos) env = (do
    callWith pos (← eval (.Subscript o i p) env) [] (backTo pos (starEach args env)) (backToKw pos (keywordEach kws env))) := by
  first | rfl | (unfold eval; rfl) | simp only [eval]
end PySem
namespace Toy
open PySem PySem.Spec PyProof.Rows L2
/-! ### [f, g, h][i](..): one of three defs that may raise -/
def tC3 (f1 f2 f3 : Addr) (s1 s2 s3 : Sp) (W : WX) (to : TE) (t : TA) : TE := fun σ H Q => to σ H fun x H1 =>
  (x = .ref f1 ∧ t σ H1 fun vs H2 => s1 vs H2 Q (WE W σ)) ∨ (x = .ref f2 ∧ t σ H1 fun vs H2 => s2 vs H2 Q (WE W σ)) ∨ (x = .ref f3 ∧ t σ H1 fun vs H2 => s3 vs H2 Q (WE W σ))
theorem pe_c3 {X : Cx} {k1 k2 k3 : Nat} {mg : Str → Option Value} {x1 x2 x3 : Str} {ps1 ps2 ps3 : List Str} {s1 s2 s3 : Sp} {o i e : Expr} {es : List Expr} {t : TA} {to : TE} {W : WX} {p pos : Pos}
    (D1 : Dx X.prog X.w X.K mg X.base k1 x1 ps1 s1) (D2 : Dx X.prog X.w X.K mg X.base k2 x2 ps2 s2) (D3 : Dx X.prog X.w X.K mg X.base k3 x3 ps3 s3) (r1 : RoomG k1 X.A) (r2 : RoomG k2 X.A) (r3 : RoomG k3 X.A) (tk : Takes X W)
    (ho : PE X (.Subscript o i p) to) (ha : PA X (e :: es) t)
    (he : starEach (e :: es) X.env = (false, eval e X.env) :: starEach es X.env := by rfl) (hpl : (backTo pos (starEach es X.env)).any (·.1) = false := by rfl) (em : mg = X.mg := by rfl) :
    PE X (.Call (.Subscript o i p) (e :: es) [] pos) (tC3 (cAt mg x1) (cAt mg x2) (cAt mg x3) s1 s2 s3 W to t) := by
  subst em
  have one : ∀ {k : Nat} {y : Str} {ps : List Str} {sp : Sp} (pins : List (Addr × Obj)) (s : Shared) (σ : L2.St) (H : Hp) (Q : VK) (u : Value), Dx X.prog X.w X.K X.mg X.base k y ps sp → RoomG k X.A → Inv X pins σ H s → RelV (.ref (cAt X.mg y)) u →
      (t σ H fun vs H1 => sp vs H1 Q (WE W σ)) → wpAny (model X.prog X.w) X.A (callWith pos u [] (backTo pos (starEach (e :: es) X.env)) (backToKw pos (keywordEach [] X.env))) (EP X pins σ Q) X.xe s := by
    intro k y ps sp pins s σ H Q u D hr I ru ht
    obtain ⟨f, fd, F, hk, hm, hb⟩ := D.ex
    rw [cAt_eq hm] at ru
    cases ru
    refine PySem.W.callWith_K (h₀ := X.base) I.ok.mod.kin hk (thn (ha.run pos pins s σ _ _ I ht) ?_) he hpl
    rintro us s2 ⟨vs, H2, I2, r, q⟩
    exact ⟨I2.kIn, run_G F hr hb (fun e s' c => passAt tk σ pins H2 s2 e s' I2 c) I2 r q⟩
  constructor
  intro pins s σ H Q I h
  rw [eval_CallSub]
  refine wpAny_bind (thn (ho.run pins s σ H _ I h) ?_)
  rintro u s1 ⟨v, H1, I1, ru, (⟨rfl, h1⟩ | ⟨rfl, h1⟩ | ⟨rfl, h1⟩)⟩
  · exact one pins s1 σ H1 Q u D1 r1 I1 ru h1
  · exact one pins s1 σ H1 Q u D2 r2 I1 ru h1
  · exact one pins s1 σ H1 Q u D3 r3 I1 ru h1
end Toy
namespace L2
open PySem PySem.Spec PyProof.Rows
theorem tuple_mul1 (l : Addr) (items : Array Value) (n : Nat) (dd : Option Addr) (sl : Array (Option Value)) (u : Tok) :
    Meets (Builtin.«tuple.__mul__» ⟨[.ref l, .int 1 u], []⟩) (fun _ R s => s.heap.get? l = some { cls := .type "tuple", dict := dd, data := .seq items n, slots := sl } ∧ R (.ok (.ret (Value.ref l))) s) :=
  .of_wp fun prog w A R s h => by
    obtain ⟨hp, g, d, tk, os⟩ := s
    obtain ⟨hl, h⟩ := h
    have f1 := AutoSeq1.idx_int
    have c1 : (items.isEmpty || (1 : Int) == 1) = true := by simp
    wp_walk using wpAny_loadPart' hl
    repeat (first
      | (refine wpAny_ite_true (decide_eq_true c1) ?_; wp_walk using wpAny_loadPart' hl)
      | (refine wpAny_ite_false (decide_eq_false (by decide)) ?_; wp_walk using wpAny_loadPart' hl))
    exact ⟨_, rfl, h⟩
/-- a tuple, so many times -/
def rRepA (K : PySem.W.Frag) : R2 := fun x y H Q => (y = .int 1 ∧ (∃ l xs, x = .ref l ∧ SqT K H l xs) ∧ Q x H) ∨ rRepT K x y H Q
theorem op_repA {X : Cx} : OpR X (binaryOp .Mult) (rRepA X.K) := by
  intro pins s σ H x y v u Q I rx ry h
  rcases h with ⟨rfl, ⟨l, xs, rfl, hT⟩, q⟩ | h
  · cases rx
    obtain ⟨t, rfl⟩ := ry
    obtain ⟨its, r, ⟨⟨cls, dd, data, sl⟩, ho, hc, n, hd⟩, hs⟩ := I.tuple hT
    simp only at hc hd
    subst hc hd
    refine wpAny_binaryOp_repeat_ref (T := "tuple") (U := "int") (by decide) ⟨_, ho, rfl⟩ (fun s' => typeIs_int s' 1 t) noFill_tuple_mul F.fills_int_mul F.slot_int_rmul repeat_tuple F.slot_int_index.lookup
      (call_meets F.slot_int_rmul (typeIs_int s 1 t) F.entry_int_rmul (F.args_int_rmul_2 _ _) (int_rmul_tuple 1 t l its.toArray n dd sl)
        ⟨ho, rfl, ⟨_, ho, rfl⟩, call_meets F.slot_tuple_mul ⟨_, ho, rfl⟩ F.entry_tuple_mul (F.args_tuple_mul_2 _ _) (tuple_mul1 l its.toArray n dd sl t) ⟨ho, ?_⟩⟩)
    exact ⟨.ref l, H, I, rfl, q⟩
  · exact op_repT pins s σ H x y v u Q I rx ry h
end L2
namespace Toy
open PySem PySem.Spec PyProof.Rows L2
/-! ### data: a deed -/
structure Dd where
  add : Int
  low : Option Int
  high : Option Int
def oV : Option Int → V
  | none => .non
  | some i => .int i
def Dd.vs (d : Dd) : List V := [.int d.add, oV d.low, oV d.high]
def Dd.at_ (K : PySem.W.Frag) (H : Hp) (a : Addr) (d : Dd) : Prop := SqT K H a d.vs
/-- the ends stand right -/
def Dd.Ok (d : Dd) : Prop := ∀ l h, d.low = some l → d.high = some h → l < h ∨ (l = h ∧ d.add = 0)
def up (o : Option Int) (f : Int) : Int := match o with | none => f | some l => if f > l then f else l
def dn (o : Option Int) (f : Int) : Int := match o with | none => f | some h => if f < h then f else h
def Dd.ap (d : Dd) (v : Int) : Int := dn d.high (up d.low (v + d.add))
def hi (o : Option Int) (f : Int) : Int := match o with | none => f | some h => if f > h then h else f
def mk (d : Dd) (v : Int) : Int := match d.low with | none => hi d.high (v + d.add) | some l => if v + d.add < l then l else hi d.high (v + d.add)
theorem mk_eq {d : Dd} (ok : d.Ok) (v : Int) : mk d v = d.ap v := by
  obtain ⟨add, low, high⟩ := d
  have ok' := ok
  unfold Dd.Ok at ok'
  cases low with
  | none =>
    cases high with
    | none => rfl
    | some h =>
      show (if v + add > h then h else v + add) = if v + add < h then v + add else h
      by_cases c : v + add > h
      · rw [if_pos c, if_neg (by omega)]
      · rw [if_neg c]
        by_cases c2 : v + add < h
        · rw [if_pos c2]
        · rw [if_neg c2]; omega
  | some l =>
    cases high with
    | none =>
      show (if v + add < l then l else v + add) = if v + add > l then v + add else l
      by_cases c : v + add < l
      · rw [if_pos c, if_neg (by omega)]
      · rw [if_neg c]
        by_cases c2 : v + add > l
        · rw [if_pos c2]
        · rw [if_neg c2]; omega
    | some h =>
      have := ok' l h rfl rfl
      show (if v + add < l then l else if v + add > h then h else v + add) = if (if v + add > l then v + add else l) < h then (if v + add > l then v + add else l) else h
      by_cases c : v + add < l
      · rw [if_pos c, if_neg (show ¬ v + add > l by omega)]
        by_cases c2 : l < h
        · rw [if_pos c2]
        · rw [if_neg c2]; omega
      · rw [if_neg c]
        have e : (if v + add > l then v + add else l) = v + add := by
          by_cases c2 : v + add > l
          · rw [if_pos c2]
          · rw [if_neg c2]; omega
        rw [e]
        by_cases c2 : v + add > h
        · rw [if_pos c2, if_neg (by omega)]
        · rw [if_neg c2]
          by_cases c3 : v + add < h
          · rw [if_pos c3]
          · rw [if_neg c3]; omega
/-- all numbers of a deed are within b -/
def Dd.In (b : Int) (d : Dd) : Prop := -b ≤ d.add ∧ d.add ≤ b ∧ (∀ l, d.low = some l → -b ≤ l ∧ l ≤ b) ∧ ∀ l, d.high = some l → -b ≤ l ∧ l ≤ b
theorem in_mk {b add : Int} {low high : Option Int} (h1 : -b ≤ add) (h2 : add ≤ b) (hl : ∀ l, low = some l → -b ≤ l ∧ l ≤ b) (hh : ∀ l, high = some l → -b ≤ l ∧ l ≤ b) : Dd.In b ⟨add, low, high⟩ := ⟨h1, h2, hl, hh⟩
theorem in_none {b : Int} : ∀ l, (none : Option Int) = some l → -b ≤ l ∧ l ≤ b := fun _ h => nomatch h
theorem in_some {b x : Int} (h1 : -b ≤ x) (h2 : x ≤ b) : ∀ l, some x = some l → -b ≤ l ∧ l ≤ b := fun l h => by cases h; exact ⟨h1, h2⟩
theorem ap_in {b c : Int} {d : Dd} {v : Int} (h : d.In b) (h1 : -c ≤ v) (h2 : v ≤ c) (h0 : 0 ≤ c) : -(b + c) ≤ d.ap v ∧ d.ap v ≤ b + c := by
  obtain ⟨a1, a2, hl, hh⟩ := h
  unfold Dd.ap dn up
  cases el : d.low with
  | none =>
    cases eh : d.high with
    | none => dsimp only; omega
    | some k => have := hh k eh; dsimp only; split <;> omega
  | some l =>
    have := hl l el
    cases eh : d.high with
    | none => dsimp only; split <;> omega
    | some k => have := hh k eh; dsimp only; split <;> split <;> omega
theorem fits {i : Int} (h1 : -(10 ^ 40) ≤ i) (h2 : i ≤ 10 ^ 40) : i.natAbs.log2 < 1920 := by
  refine log_lt (by decide) (Nat.lt_of_le_of_lt (m := 10 ^ 40) (by omega) (by decide))
theorem menu7 : ∀ j : Nat, j < 7 → ∃ z : Int, ([.int 3, .int 5, .int 11, .int 17, .int 29, .int 37, .int 41] : List V)[j]? = some (.int z) ∧ 0 < z ∧ z ≤ 41
  | 0, _ => ⟨_, rfl, by decide, by decide⟩
  | 1, _ => ⟨_, rfl, by decide, by decide⟩
  | 2, _ => ⟨_, rfl, by decide, by decide⟩
  | 3, _ => ⟨_, rfl, by decide, by decide⟩
  | 4, _ => ⟨_, rfl, by decide, by decide⟩
  | 5, _ => ⟨_, rfl, by decide, by decide⟩
  | 6, _ => ⟨_, rfl, by decide, by decide⟩
  | n + 7, h => absurd h (by omega)
theorem menu6 : ∀ j : Nat, j < 6 → ∃ z : Int, ([.int 4, .int 12, .int 1000, .int (10 ^ Int.toNat 9), .int (10 ^ Int.toNat 29), .int (10 ^ Int.toNat 29)] : List V)[j]? = some (.int z) ∧ 1 ≤ z ∧ z ≤ 10 ^ 29
  | 0, _ => ⟨_, rfl, by decide, by decide⟩
  | 1, _ => ⟨_, rfl, by decide, by decide⟩
  | 2, _ => ⟨_, rfl, by decide, by decide⟩
  | 3, _ => ⟨_, rfl, by decide, by decide⟩
  | 4, _ => ⟨_, rfl, by decide, by decide⟩
  | 5, _ => ⟨_, rfl, by decide, by decide⟩
  | n + 6, h => absurd h (by omega)
def PotAt (H : Hp) (p : Addr) : Prop := ∃ a b : Int, H p = some (.lst [.int a, .int b]) ∧ 0 ≤ a ∧ 0 ≤ b ∧ b < 2 ^ 40
theorem PotAt.same {H H' : Hp} {p : Addr} (e : Same H H') (h : PotAt H p) : PotAt H' p := by
  obtain ⟨a, b, h1, h2⟩ := h
  exact ⟨a, b, e _ _ h1, h2⟩
def DeedArg (K : PySem.W.Frag) (H : Hp) (a : Addr) (d : Dd) : Prop := TyX K H (.ref a) (.type "tuple") ∧ SqT K H a d.vs ∧ d.Ok
def Dz (H : Hp) (a : Addr) (d : Dd) : Prop := H a = some (.tup d.vs) ∧ d.In (10 ^ 29 + 3) ∧ d.Ok
theorem Dz.arg {K : PySem.W.Frag} {H : Hp} {a : Addr} {d : Dd} (h : Dz H a d) : DeedArg K H a d := ⟨.base (.tup h.1), SqT.of h.1, h.2.2⟩
theorem Dz.same {H H' : Hp} {a : Addr} {d : Dd} (e : Same H H') (h : Dz H a d) : Dz H' a d := ⟨e _ _ h.1, h.2⟩
def look : Dd := ⟨0, none, none⟩
theorem look_ok : look.Ok := fun _ _ h => nomatch h
theorem look_in {b : Int} (h : 0 ≤ b) : look.In b := in_mk (by omega) (by omega) in_none in_none
theorem pot_ne {H : Hp} {p a : Addr} (h : PotAt H p) (n : H a = none) : a ≠ p := fun z => by obtain ⟨_, _, h1, _⟩ := h; rw [← z, n] at h1; cases h1
/-! ### two deeds as one -/
def wholeD (add : Int) (low high : Option Int) : Dd := if low ≠ none ∧ low = high then ⟨0, low, high⟩ else ⟨add, low, high⟩
theorem wholeD_low {add : Int} {low high : Option Int} : (wholeD add low high).low = low := by unfold wholeD; split <;> rfl
theorem wholeD_high {add : Int} {low high : Option Int} : (wholeD add low high).high = high := by unfold wholeD; split <;> rfl
theorem wholeD_add {add : Int} {low high : Option Int} : (wholeD add low high).add = if low ≠ none ∧ low = high then 0 else add := by unfold wholeD; split <;> rfl
def endBeh (b : Dd) (o p : Option Int) : Option Int := match o with | none => p | some l => some (b.ap l)
def beh (a b : Dd) : Dd := wholeD (a.add + b.add) (endBeh b a.low b.low) (endBeh b a.high b.high)
theorem up_mono {o : Option Int} {x y : Int} (h : x ≤ y) : up o x ≤ up o y := by
  cases o with
  | none => exact h
  | some l =>
    show (if x > l then x else l) ≤ (if y > l then y else l)
    split <;> split <;> omega
theorem dn_mono {o : Option Int} {x y : Int} (h : x ≤ y) : dn o x ≤ dn o y := by
  cases o with
  | none => exact h
  | some l =>
    show (if x < l then x else l) ≤ (if y < l then y else l)
    split <;> split <;> omega
theorem ap_mono (d : Dd) {x y : Int} (h : x ≤ y) : d.ap x ≤ d.ap y := dn_mono (up_mono (by omega))
/-- what is made, by the four ways -/
theorem ap_nn (d : Dd) (v : Int) (h1 : d.low = none) (h2 : d.high = none) : d.ap v = v + d.add := by unfold Dd.ap; rw [h1, h2] <;> rfl
theorem ap_sn (d : Dd) (v l : Int) (h1 : d.low = some l) (h2 : d.high = none) : d.ap v = if v + d.add > l then v + d.add else l := by unfold Dd.ap; rw [h1, h2] <;> rfl
theorem ap_ns (d : Dd) (v h : Int) (h1 : d.low = none) (h2 : d.high = some h) : d.ap v = if v + d.add < h then v + d.add else h := by unfold Dd.ap; rw [h1, h2] <;> rfl
theorem ap_ss (d : Dd) (v l h : Int) (h1 : d.low = some l) (h2 : d.high = some h) : d.ap v = if (if v + d.add > l then v + d.add else l) < h then (if v + d.add > l then v + d.add else l) else h := by unfold Dd.ap; rw [h1, h2] <;> rfl
/-- facts for omega -/
theorem ap_cases (d : Dd) (ok : d.Ok) (v : Int) :
    (∀ l, d.low = some l → l ≤ d.ap v ∧ (v + d.add ≤ l → d.ap v = l)) ∧ (∀ h, d.high = some h → d.ap v ≤ h ∧ (h ≤ v + d.add → d.ap v = h)) ∧
    ((d.low = none ∨ ∃ l, d.low = some l ∧ l ≤ v + d.add) → (d.high = none ∨ ∃ h, d.high = some h ∧ v + d.add ≤ h) → d.ap v = v + d.add) := by
  cases e1 : d.low with
  | none =>
    cases e2 : d.high with
    | none =>
      rw [ap_nn d v e1 e2]
      exact ⟨fun _ h => (nomatch h), fun _ h => (nomatch h), fun _ _ => rfl⟩
    | some h =>
      rw [ap_ns d v h e1 e2]
      refine ⟨fun _ h => (nomatch h), fun k hk => ?_, fun _ h2 => ?_⟩
      · cases hk; split <;> omega
      · rcases h2 with h2 | ⟨k, hk, h2⟩
        · cases h2
        · cases hk; split <;> omega
  | some l =>
    cases e2 : d.high with
    | none =>
      rw [ap_sn d v l e1 e2]
      refine ⟨fun k hk => ?_, fun _ h => (nomatch h), fun h1 _ => ?_⟩
      · cases hk; split <;> omega
      · rcases h1 with h1 | ⟨k, hk, h1⟩
        · cases h1
        · cases hk; split <;> omega
    | some h =>
      have o := ok l h e1 e2
      rw [ap_ss d v l h e1 e2]
      refine ⟨fun k hk => ?_, fun k hk => ?_, fun h1 h2 => ?_⟩
      · cases hk
        by_cases c : v + d.add > l
        · rw [if_pos c]; split <;> omega
        · rw [if_neg c]; split <;> omega
      · cases hk
        by_cases c : v + d.add > l
        · rw [if_pos c]; split <;> omega
        · rw [if_neg c]; split <;> omega
      · rcases h1 with h1 | ⟨k, hk, h1⟩
        · cases h1
        rcases h2 with h2 | ⟨k', hk', h2⟩
        · cases h2
        cases hk; cases hk'
        by_cases c : v + d.add > l
        · rw [if_pos c]; split <;> omega
        · rw [if_neg c]; split <;> omega
theorem beh_ok {a b : Dd} (ha : a.Ok) (hb : b.Ok) : (beh a b).Ok := by
  intro l h h1 h2
  unfold beh at h1 h2 ⊢
  rw [wholeD_low] at h1
  rw [wholeD_high] at h2
  rw [wholeD_add]
  have key : l ≤ h := by
    unfold endBeh at h1 h2
    cases e1 : a.low with
    | none =>
      rw [e1] at h1
      cases e2 : a.high with
      | none =>
        rw [e2] at h2
        have := hb l h h1 h2
        omega
      | some k =>
        rw [e2] at h2
        cases h2
        exact ((ap_cases b hb k).1 l h1).1
    | some j =>
      rw [e1] at h1
      cases h1
      cases e2 : a.high with
      | none =>
        rw [e2] at h2
        exact ((ap_cases b hb j).2.1 h h2).1
      | some k =>
        rw [e2] at h2
        cases h2
        have := ha j k e1 e2
        exact ap_mono b (by omega)
  by_cases c : l = h
  · right
    refine ⟨c, if_pos ⟨by rw [h1]; exact Option.some_ne_none l, by rw [h1, h2, c]⟩⟩
  · left; omega
/-- the ends of a deed -/
theorem ap_low {d : Dd} (ok : d.Ok) {l v : Int} (h : d.low = some l) (hv : v + d.add ≤ l) : d.ap v = l := ((ap_cases d ok v).1 l h).2 hv
theorem ap_high {d : Dd} (ok : d.Ok) {l v : Int} (h : d.high = some l) (hv : l ≤ v + d.add) : d.ap v = l := ((ap_cases d ok v).2.1 l h).2 hv
theorem whole_ap {add : Int} {low high : Option Int} {v w : Int} (hl : ∀ l, low = some l → l ≤ w) (hh : ∀ h, high = some h → w ≤ h)
    (h1 : (∀ l, low = some l → v + add ≤ l → w = l)) (h2 : (∀ h, high = some h → h ≤ v + add → w = h))
    (h3 : (low = none ∨ ∃ l, low = some l ∧ l ≤ v + add) → (high = none ∨ ∃ h, high = some h ∧ v + add ≤ h) → w = v + add) : (wholeD add low high).ap v = w := by
  cases e1 : low with
  | none =>
    have e3 : wholeD add none high = ⟨add, none, high⟩ := by unfold wholeD; rw [if_neg (fun z => z.1 rfl)]
    rw [e3]
    cases e2 : high with
    | none => rw [ap_nn _ _ rfl rfl]; exact (h3 (.inl e1) (.inl e2)).symm
    | some h =>
      rw [ap_ns _ _ h rfl rfl]
      show (if v + add < h then v + add else h) = w
      have a2 := h2 h e2
      have a3 := h3 (.inl e1)
      split
      · exact (a3 (.inr ⟨h, e2, by omega⟩)).symm
      · exact (a2 (by omega)).symm
  | some l =>
    have b1 := hl l e1
    cases e2 : high with
    | none =>
      have e3 : wholeD add (some l) none = ⟨add, some l, none⟩ := by unfold wholeD; rw [if_neg (fun z => nomatch z.2)]
      rw [e3, ap_sn _ _ l rfl rfl]
      show (if v + add > l then v + add else l) = w
      have a1 := h1 l e1
      split
      · exact (h3 (.inr ⟨l, e1, by omega⟩) (.inl e2)).symm
      · exact (a1 (by omega)).symm
    | some h =>
      have b2 := hh h e2
      by_cases c : l = h
      · subst c
        have e3 : wholeD add (some l) (some l) = ⟨0, some l, some l⟩ := by unfold wholeD; rw [if_pos ⟨Option.some_ne_none l, rfl⟩]
        rw [e3, ap_ss _ _ l l rfl rfl]
        split <;> omega
      · have e3 : wholeD add (some l) (some h) = ⟨add, some l, some h⟩ := by unfold wholeD; rw [if_neg (fun z => c (Option.some.inj z.2))]
        rw [e3, ap_ss _ _ l h rfl rfl]
        show (if (if v + add > l then v + add else l) < h then (if v + add > l then v + add else l) else h) = w
        have a1 := h1 l e1
        have a2 := h2 h e2
        by_cases c1 : v + add > l
        · rw [if_pos c1]
          split
          · exact (h3 (.inr ⟨l, e1, by omega⟩) (.inr ⟨h, e2, by omega⟩)).symm
          · exact (a2 (by omega)).symm
        · rw [if_neg c1]
          have := a1 (by omega)
          split <;> omega
theorem beh_ap {a b : Dd} (ha : a.Ok) (hb : b.Ok) (v : Int) : (beh a b).ap v = b.ap (a.ap v) := by
  obtain ⟨A1, A2, A3⟩ := ap_cases a ha v
  obtain ⟨B1, B2, B3⟩ := ap_cases b hb (a.ap v)
  have P3 : ∀ l, endBeh b a.low b.low = some l → v + (a.add + b.add) ≤ l → b.ap (a.ap v) = l := by
    intro l hl hv
    unfold endBeh at hl
    cases e : a.low with
    | none =>
      rw [e] at hl
      refine (B1 l hl).2 ?_
      cases e2 : a.high with
      | none => rw [A3 (.inl e) (.inl e2)]; omega
      | some k =>
        by_cases c : v + a.add ≤ k
        · rw [A3 (.inl e) (.inr ⟨k, e2, c⟩)]; omega
        · rw [(A2 k e2).2 (by omega)]; omega
    | some j =>
      rw [e] at hl
      cases hl
      -- v + a.add + b.add ≤ b.ap j
      by_cases c : v + a.add ≤ j
      · rw [(A1 j e).2 c]
      · have m : b.ap j ≤ b.ap (a.ap v) := ap_mono b (A1 j e).1
        have n : b.ap (a.ap v) ≤ b.ap (v + a.add) := by
          refine ap_mono b ?_
          cases e2 : a.high with
          | none => rw [A3 (.inr ⟨j, e, by omega⟩) (.inl e2)]; omega
          | some k =>
            by_cases c : v + a.add ≤ k
            · rw [A3 (.inr ⟨j, e, by omega⟩) (.inr ⟨k, e2, c⟩)]; omega
            · rw [(A2 k e2).2 (by omega)]; omega
        -- b at v + a.add is at most max of its sum and its low end
        obtain ⟨C1, C2, C3⟩ := ap_cases b hb (v + a.add)
        obtain ⟨D1, D2, D3⟩ := ap_cases b hb j
        cases f1 : b.low with
        | none =>
          cases f2 : b.high with
          | none => have := C3 (.inl f1) (.inl f2); have := D3 (.inl f1) (.inl f2); omega
          | some k =>
            have := C2 k f2; have := D2 k f2
            by_cases c3 : v + a.add + b.add ≤ k
            · have := C3 (.inl f1) (.inr ⟨k, f2, c3⟩); have := D3 (.inl f1) (.inr ⟨k, f2, by omega⟩); omega
            · omega
        | some i =>
          have := C1 i f1; have := D1 i f1
          cases f2 : b.high with
          | none =>
            by_cases c3 : i ≤ v + a.add + b.add
            · have := C3 (.inr ⟨i, f1, c3⟩) (.inl f2)
              by_cases c4 : i ≤ j + b.add
              · have := D3 (.inr ⟨i, f1, c4⟩) (.inl f2); omega
              · omega
            · omega
          | some k =>
            have := C2 k f2; have := D2 k f2
            by_cases c3 : i ≤ v + a.add + b.add
            · by_cases c5 : v + a.add + b.add ≤ k
              · have := C3 (.inr ⟨i, f1, c3⟩) (.inr ⟨k, f2, c5⟩)
                by_cases c4 : i ≤ j + b.add
                · have := D3 (.inr ⟨i, f1, c4⟩) (.inr ⟨k, f2, by omega⟩); omega
                · omega
              · omega
            · omega
  have P4 : ∀ h, endBeh b a.high b.high = some h → h ≤ v + (a.add + b.add) → b.ap (a.ap v) = h := by
    intro h hh hv
    unfold endBeh at hh
    cases e : a.high with
    | none =>
      rw [e] at hh
      refine (B2 h hh).2 ?_
      cases e2 : a.low with
      | none => rw [A3 (.inl e2) (.inl e)]; omega
      | some k =>
        by_cases c : k ≤ v + a.add
        · rw [A3 (.inr ⟨k, e2, c⟩) (.inl e)]; omega
        · rw [(A1 k e2).2 (by omega)]; omega
    | some j =>
      rw [e] at hh
      cases hh
      by_cases c : j ≤ v + a.add
      · rw [(A2 j e).2 c]
      · have m : b.ap (a.ap v) ≤ b.ap j := ap_mono b (A2 j e).1
        have n : b.ap (v + a.add) ≤ b.ap (a.ap v) := by
          refine ap_mono b ?_
          cases e2 : a.low with
          | none => rw [A3 (.inl e2) (.inr ⟨j, e, by omega⟩)]; omega
          | some k =>
            by_cases c : k ≤ v + a.add
            · rw [A3 (.inr ⟨k, e2, c⟩) (.inr ⟨j, e, by omega⟩)]; omega
            · rw [(A1 k e2).2 (by omega)]; omega
        obtain ⟨C1, C2, C3⟩ := ap_cases b hb (v + a.add)
        obtain ⟨D1, D2, D3⟩ := ap_cases b hb j
        cases f1 : b.high with
        | none =>
          cases f2 : b.low with
          | none => have := C3 (.inl f2) (.inl f1); have := D3 (.inl f2) (.inl f1); omega
          | some k =>
            have := C1 k f2; have := D1 k f2
            by_cases c3 : k ≤ v + a.add + b.add
            · have := C3 (.inr ⟨k, f2, c3⟩) (.inl f1); have := D3 (.inr ⟨k, f2, by omega⟩) (.inl f1); omega
            · omega
        | some i =>
          have := C2 i f1; have := D2 i f1
          cases f2 : b.low with
          | none =>
            by_cases c3 : v + a.add + b.add ≤ i
            · have := C3 (.inl f2) (.inr ⟨i, f1, c3⟩)
              by_cases c4 : j + b.add ≤ i
              · have := D3 (.inl f2) (.inr ⟨i, f1, c4⟩); omega
              · omega
            · omega
          | some k =>
            have := C1 k f2; have := D1 k f2
            by_cases c3 : v + a.add + b.add ≤ i
            · by_cases c5 : k ≤ v + a.add + b.add
              · have := C3 (.inr ⟨k, f2, c5⟩) (.inr ⟨i, f1, c3⟩)
                by_cases c4 : j + b.add ≤ i
                · have := D3 (.inr ⟨k, f2, by omega⟩) (.inr ⟨i, f1, c4⟩); omega
                · omega
              · omega
            · omega
  unfold beh
  refine whole_ap (fun l hl => ?_) (fun h hh => ?_) P3 P4 (fun h1 h2 => ?_)
  · unfold endBeh at hl
    cases e : a.low with
    | none => rw [e] at hl; exact (B1 l hl).1
    | some j => rw [e] at hl; cases hl; exact ap_mono b (A1 j e).1
  · unfold endBeh at hh
    cases e : a.high with
    | none => rw [e] at hh; exact (B2 h hh).1
    | some j => rw [e] at hh; cases hh; exact ap_mono b (A2 j e).1
  · -- between the ends both add
    by_cases s1 : ∃ l, endBeh b a.low b.low = some l ∧ v + (a.add + b.add) ≤ l
    · obtain ⟨l, s1, s2⟩ := s1
      rw [P3 l s1 s2]
      rcases h1 with h1 | ⟨l', h1, h4⟩
      · rw [s1] at h1; cases h1
      · rw [s1] at h1; cases h1; omega
    by_cases s2 : ∃ l, endBeh b a.high b.high = some l ∧ l ≤ v + (a.add + b.add)
    · obtain ⟨l, s2, s3⟩ := s2
      rw [P4 l s2 s3]
      rcases h2 with h2 | ⟨l', h2, h4⟩
      · rw [s2] at h2; cases h2
      · rw [s2] at h2; cases h2; omega
    have h1s : ∀ l, endBeh b a.low b.low = some l → l < v + (a.add + b.add) := fun l hl => Int.not_le.mp fun z => s1 ⟨l, hl, z⟩
    have h2s : ∀ l, endBeh b a.high b.high = some l → v + (a.add + b.add) < l := fun l hl => Int.not_le.mp fun z => s2 ⟨l, hl, z⟩
    have a1 : a.low = none ∨ ∃ l, a.low = some l ∧ l ≤ v + a.add := by
      cases e : a.low with
      | none => exact .inl rfl
      | some j =>
        right
        refine ⟨j, rfl, ?_⟩
        rcases h1 with h1 | ⟨l, h1, h4⟩
        · unfold endBeh at h1; rw [e] at h1; cases h1
        have st := h1s l h1
        unfold endBeh at h1; rw [e] at h1; cases h1
        by_cases c : j ≤ v + a.add
        · exact c
        obtain ⟨D1, D2, D3⟩ := ap_cases b hb j
        exfalso
        cases f2 : b.high with
        | none =>
          cases f1 : b.low with
          | none => have := D3 (.inl f1) (.inl f2); omega
          | some i => have := D1 i f1; by_cases c4 : i ≤ j + b.add; (have := D3 (.inr ⟨i, f1, c4⟩) (.inl f2); omega); omega
        | some k =>
          have := D2 k f2
          by_cases c5 : j + b.add ≤ k
          · cases f1 : b.low with
            | none => have := D3 (.inl f1) (.inr ⟨k, f2, c5⟩); omega
            | some i => have := D1 i f1; by_cases c4 : i ≤ j + b.add; (have := D3 (.inr ⟨i, f1, c4⟩) (.inr ⟨k, f2, c5⟩); omega); omega
          · have e5 : b.ap j = k := this.2 (by omega)
            -- the upper end is met: then high of both is k
            rcases h2 with h2 | ⟨h, h2, h6⟩
            · unfold endBeh at h2; cases e7 : a.high with
              | none => rw [e7] at h2; rw [f2] at h2; cases h2
              | some m => rw [e7] at h2; cases h2
            · unfold endBeh at h2; cases e7 : a.high with
              | none => rw [e7] at h2; rw [f2] at h2; cases h2; omega
              | some m =>
                rw [e7] at h2; cases h2
                have o := ha j m e e7
                have q1 := ap_mono b (show j ≤ m by omega)
                have q2 := ((ap_cases b hb m).2.1 k f2).1
                omega
    have a2 : a.high = none ∨ ∃ l, a.high = some l ∧ v + a.add ≤ l := by
      cases e : a.high with
      | none => exact .inl rfl
      | some j =>
        right
        refine ⟨j, rfl, ?_⟩
        rcases h2 with h2 | ⟨l, h2, h4⟩
        · unfold endBeh at h2; rw [e] at h2; cases h2
        have st := h2s l h2
        unfold endBeh at h2; rw [e] at h2; cases h2
        by_cases c : v + a.add ≤ j
        · exact c
        obtain ⟨D1, D2, D3⟩ := ap_cases b hb j
        exfalso
        cases f2 : b.low with
        | none =>
          cases f1 : b.high with
          | none => have := D3 (.inl f2) (.inl f1); omega
          | some i => have := D2 i f1; by_cases c4 : j + b.add ≤ i; (have := D3 (.inl f2) (.inr ⟨i, f1, c4⟩); omega); omega
        | some k =>
          have := D1 k f2
          by_cases c5 : k ≤ j + b.add
          · cases f1 : b.high with
            | none => have := D3 (.inr ⟨k, f2, c5⟩) (.inl f1); omega
            | some i => have := D2 i f1; by_cases c4 : j + b.add ≤ i; (have := D3 (.inr ⟨k, f2, c5⟩) (.inr ⟨i, f1, c4⟩); omega); omega
          · have e5 : b.ap j = k := this.2 (by omega)
            rcases h1 with h1 | ⟨h, h1, h6⟩
            · unfold endBeh at h1; cases e7 : a.low with
              | none => rw [e7] at h1; rw [f2] at h1; cases h1
              | some m => rw [e7] at h1; cases h1
            · unfold endBeh at h1; cases e7 : a.low with
              | none => rw [e7] at h1; rw [f2] at h1; cases h1; omega
              | some m =>
                rw [e7] at h1; cases h1
                have o := ha m j e7 e
                have q1 := ap_mono b (show m ≤ j by omega)
                have q2 := ((ap_cases b hb m).1 k f2).1
                omega
    have ea := A3 a1 a2
    rw [ea] at B1 B2 B3 ⊢
    have b1 : b.low = none ∨ ∃ l, b.low = some l ∧ l ≤ v + a.add + b.add := by
      cases f : b.low with
      | none => exact .inl rfl
      | some i =>
        refine .inr ⟨i, rfl, ?_⟩
        rcases h1 with h1 | ⟨l, h1, h4⟩
        · unfold endBeh at h1; cases e7 : a.low with
          | none => rw [e7] at h1; rw [f] at h1; cases h1
          | some m => rw [e7] at h1; cases h1
        · unfold endBeh at h1; cases e7 : a.low with
          | none => rw [e7] at h1; rw [f] at h1; cases h1; omega
          | some m => rw [e7] at h1; cases h1; have := ((ap_cases b hb m).1 i f).1; omega
    have b2 : b.high = none ∨ ∃ l, b.high = some l ∧ v + a.add + b.add ≤ l := by
      cases f : b.high with
      | none => exact .inl rfl
      | some i =>
        refine .inr ⟨i, rfl, ?_⟩
        rcases h2 with h2 | ⟨l, h2, h4⟩
        · unfold endBeh at h2; cases e7 : a.high with
          | none => rw [e7] at h2; rw [f] at h2; cases h2
          | some m => rw [e7] at h2; cases h2
        · unfold endBeh at h2; cases e7 : a.high with
          | none => rw [e7] at h2; rw [f] at h2; cases h2; omega
          | some m => rw [e7] at h2; cases h2; have := ((ap_cases b hb m).2.1 i f).1; omega
    rw [B3 b1 b2]; omega
theorem beh_in {a b : Dd} {x y : Int} (ha : a.In x) (hb : b.In y) (h0 : 0 ≤ x) (h1 : 0 ≤ y) : (beh a b).In (y + x) := by
  obtain ⟨a1, a2, a3, a4⟩ := ha
  have hb' := hb
  obtain ⟨b1, b2, b3, b4⟩ := hb
  refine ⟨?_, ?_, fun l hl => ?_, fun l hl => ?_⟩
  · unfold beh; rw [wholeD_add]; split <;> omega
  · unfold beh; rw [wholeD_add]; split <;> omega
  · unfold beh at hl; rw [wholeD_low] at hl; unfold endBeh at hl
    cases e : a.low with
    | none => rw [e] at hl; have := b3 l hl; omega
    | some j => rw [e] at hl; cases hl; exact ap_in hb' (a3 j e).1 (a3 j e).2 h0
  · unfold beh at hl; rw [wholeD_high] at hl; unfold endBeh at hl
    cases e : a.high with
    | none => rw [e] at hl; have := b4 l hl; omega
    | some j => rw [e] at hl; cases hl; exact ap_in hb' (a4 j e).1 (a4 j e).2 h0
/-- far out a deed shows its ends -/
theorem far_low {d : Dd} {b F : Int} (ok : d.Ok) (i : d.In b) (hF : 3 * b + 2 ≤ F) (h0 : 0 ≤ b) : (if d.ap (-F - 1) = d.ap (-F) then some (d.ap (-F)) else none) = d.low := by
  obtain ⟨i1, i2, i3, i4⟩ := i
  cases e : d.low with
  | some l =>
    have := i3 l e
    rw [ap_low ok e (show -F - 1 + d.add ≤ l by omega), ap_low ok e (show -F + d.add ≤ l by omega), if_pos rfl]
  | none =>
    have k : ∀ v : Int, v ≤ -F → d.ap v = v + d.add := fun v hv => by
      refine (ap_cases d ok v).2.2 (.inl e) ?_
      cases f : d.high with
      | none => exact .inl rfl
      | some h => have := i4 h f; exact .inr ⟨h, rfl, by omega⟩
    rw [k _ (by omega), k _ (by omega), if_neg (by omega)]
theorem far_high {d : Dd} {b F : Int} (ok : d.Ok) (i : d.In b) (hF : 3 * b + 2 ≤ F) (h0 : 0 ≤ b) : (if d.ap F = d.ap (F + 1) then some (d.ap F) else none) = d.high := by
  obtain ⟨i1, i2, i3, i4⟩ := i
  cases e : d.high with
  | some l =>
    have := i4 l e
    rw [ap_high ok e (show l ≤ F + 1 + d.add by omega), ap_high ok e (show l ≤ F + d.add by omega), if_pos rfl]
  | none =>
    have k : ∀ v : Int, F ≤ v → d.ap v = v + d.add := fun v hv => by
      refine (ap_cases d ok v).2.2 ?_ (.inl e)
      cases f : d.low with
      | none => exact .inl rfl
      | some h => have := i3 h f; exact .inr ⟨h, rfl, by omega⟩
    rw [k _ (by omega), k _ (by omega), if_neg (by omega)]
theorem bound_of (d : Dd) : ∃ b, 0 ≤ b ∧ d.In b := by
  obtain ⟨a, l, h⟩ := d
  refine ⟨a.natAbs + (l.getD 0).natAbs + (h.getD 0).natAbs, by omega, in_mk (by omega) (by omega) (fun x hx => ?_) fun x hx => ?_⟩
  · cases hx; simp only [Option.getD_some]; omega
  · cases hx; simp only [Option.getD_some]; omega
theorem In.le {d : Dd} {a b : Int} (h : d.In a) (e : a ≤ b) : d.In b := ⟨by have := h.1; omega, by have := h.2.1; omega, fun l hl => by have := h.2.2.1 l hl; omega, fun l hl => by have := h.2.2.2 l hl; omega⟩
/-- there is just one deed that makes the same of all -/
theorem ap_ext {d e : Dd} (hd : d.Ok) (he : e.Ok) (h : ∀ v, d.ap v = e.ap v) : d = e := by
  obtain ⟨b, b0, hb⟩ := bound_of d
  obtain ⟨c, c0, hc⟩ := bound_of e
  have l1 := far_low (F := 3 * (b + c) + 2) hd (In.le hb (show b ≤ b + c by omega)) (by omega) (by omega)
  have l2 := far_low (F := 3 * (b + c) + 2) he (In.le hc (show c ≤ b + c by omega)) (by omega) (by omega)
  have h1 := far_high (F := 3 * (b + c) + 2) hd (In.le hb (show b ≤ b + c by omega)) (by omega) (by omega)
  have h2 := far_high (F := 3 * (b + c) + 2) he (In.le hc (show c ≤ b + c by omega)) (by omega) (by omega)
  rw [h, h, l2] at l1
  rw [h, h, h2] at h1
  have ea : d.add = e.add := by
    cases e1 : d.low with
    | none =>
      cases e2 : d.high with
      | none =>
        have := h 0
        rw [ap_nn d 0 e1 e2, ap_nn e 0 (l1.trans e1) (h1.trans e2)] at this
        omega
      | some k =>
        have := h (k - 1 - b - c)
        have q1 := hb.1; have q2 := hb.2.1; have q3 := hc.1; have q4 := hc.2.1
        rw [ap_ns d _ k e1 e2, ap_ns e _ k (l1.trans e1) (h1.trans e2), if_pos (by omega), if_pos (by omega)] at this
        omega
    | some l =>
      cases e2 : d.high with
      | none =>
        have := h (l + 1 + b + c)
        have q1 := hb.1; have q2 := hb.2.1; have q3 := hc.1; have q4 := hc.2.1
        rw [ap_sn d _ l e1 e2, ap_sn e _ l (l1.trans e1) (h1.trans e2), if_pos (by omega), if_pos (by omega)] at this
        omega
      | some k =>
        have o1 := hd l k e1 e2
        have o2 := he l k (l1.trans e1) (h1.trans e2)
        by_cases c1 : l = k
        · omega
        · have g1 := h (l - d.add)
          have g2 := h (l - d.add + 1)
          obtain ⟨C1, C2, C3⟩ := ap_cases e he (l - d.add)
          obtain ⟨D1, D2, D3⟩ := ap_cases e he (l - d.add + 1)
          rw [ap_low hd e1 (by omega)] at g1
          rw [(ap_cases d hd (l - d.add + 1)).2.2 (.inr ⟨l, e1, by omega⟩) (.inr ⟨k, e2, by omega⟩)] at g2
          have := C1 l (l1.trans e1); have := C2 k (h1.trans e2); have := D1 l (l1.trans e1); have := D2 k (h1.trans e2)
          by_cases c2 : l ≤ l - d.add + e.add
          · by_cases c3 : l - d.add + e.add ≤ k
            · have := C3 (.inr ⟨l, l1.trans e1, c2⟩) (.inr ⟨k, h1.trans e2, c3⟩); omega
            · omega
          · by_cases c3 : l ≤ l - d.add + 1 + e.add
            · have := D3 (.inr ⟨l, l1.trans e1, c3⟩) (.inr ⟨k, h1.trans e2, by omega⟩); omega
            · omega
  obtain ⟨a1, a2, a3⟩ := d
  obtain ⟨b1, b2, b3⟩ := e
  cases ea; cases l1; cases h1
  rfl
theorem beh_assoc {a b c : Dd} (ha : a.Ok) (hb : b.Ok) (hc : c.Ok) : beh (beh a b) c = beh a (beh b c) :=
  ap_ext (beh_ok (beh_ok ha hb) hc) (beh_ok ha (beh_ok hb hc)) fun v => by rw [beh_ap (beh_ok ha hb) hc, beh_ap ha hb, beh_ap ha (beh_ok hb hc), beh_ap hb hc]
theorem look_ap (v : Int) : look.ap v = v := by show v + 0 = v; omega
theorem beh_look {a : Dd} (ha : a.Ok) : beh a look = a := ap_ext (beh_ok ha look_ok) ha fun v => by rw [beh_ap ha look_ok, look_ap]
theorem look_beh {a : Dd} (ha : a.Ok) : beh look a = a := ap_ext (beh_ok look_ok ha) ha fun v => by rw [beh_ap look_ok ha, look_ap]
/-! ### a deed as data -/
def po : Option Int → PyData
  | none => .none
  | some i => .int i
def pd (d : Dd) : PyData := .tuple [.int d.add, po d.low, po d.high]
theorem po_dp {K : PySem.W.Frag} {H : Hp} (o : Option Int) : Dp K H (oV o) (po o) := by
  cases o with
  | none => exact .non
  | some i => exact .int i
theorem pd_dp {K : PySem.W.Frag} {H : Hp} {a : Addr} {d : Dd} (h : SqT K H a d.vs) : Dp K H (.ref a) (pd d) := .tup h (.cons (.int _) (.cons (po_dp _) (.cons (po_dp _) .nil)))
theorem pd_sh (d : Dd) : SeqAt.shaped (pd d) = true := by
  obtain ⟨a, l, h⟩ := d
  cases l <;> cases h <;> rfl
theorem pd_refl (d : Dd) : PyData.eqv (pd d) (pd d) = true := SeqAt.eqv_refl _ (SeqAt.canLay_of_shaped (pd_sh d))
/-- a new tuple with a deed -/
def NewD (H : Hp) (Q : VK) (d : Dd) : Prop := ∀ (a : Addr) (H' : Hp), Same H H' → H a = none → H' a = some (.tup d.vs) → Q (.ref a) H'
abbrev Fx : Int := 10 ^ Int.toNat 64 * 10 ^ Int.toNat 26
theorem Fx_eq : Fx = 10 ^ 90 := by decide
theorem take_snoc {α : Type} {l : List α} {i : Nat} {x : α} (h : l[i]? = some x) : l.take (i + 1) = l.take i ++ [x] := by rw [List.take_succ, h] <;> rfl
/-- a deed's tuple that was made here -/
def Da (H : Hp) (a : Addr) (d : Dd) : Prop := H a = some (.tup d.vs) ∧ d.In (10 ^ 80) ∧ d.Ok
theorem Da.arg {K : PySem.W.Frag} {H : Hp} {a : Addr} {d : Dd} (h : Da H a d) : DeedArg K H a d := ⟨.base (.tup h.1), SqT.of h.1, h.2.2⟩
theorem Da.same {H H' : Hp} {a : Addr} {d : Dd} (e : Same H H') (h : Da H a d) : Da H' a d := ⟨e _ _ h.1, h.2⟩
theorem Da.sq {K : PySem.W.Frag} {H : Hp} {a : Addr} {d : Dd} (h : Da H a d) : SqT K H a d.vs := SqT.of h.1
theorem Da.dp {K : PySem.W.Frag} {H : Hp} {a : Addr} {d : Dd} (h : Da H a d) : Dp K H (.ref a) (pd d) := pd_dp h.sq
theorem ne_pd {d : Dd} : (!PyData.eqv (pd d) (pd d)) = false := by rw [pd_refl] <;> rfl
theorem addT {x : Int} {k : Bool} {p : Prop} [Decidable p] (h : k = true ↔ ¬ p) : x * (if k = true then 1 else 0) = if p then 0 else x := by
  by_cases c : p
  · rw [if_pos c, if_neg (fun z => h.mp z c)]; exact Int.mul_zero _
  · rw [if_neg c, if_pos (h.mpr c)]; exact Int.mul_one _
/-! ### shown data: one look -/
structure Sh (d : PyData) (n c : Nat) : Prop where
  s : d.showable = true
  dep : d.depth ≤ n
  c : cst d ≤ c
theorem shAll {α : Type} {f : α → PyData} {n c : Nat} : ∀ {xs : List α}, (∀ x ∈ xs, Sh (f x) n c) → PyData.showableAll (xs.map f) = true ∧ PyData.depthAll (xs.map f) ≤ n ∧ csts (xs.map f) ≤ (c + 4) * xs.length
  | [], _ => ⟨rfl, Nat.zero_le _, Nat.zero_le _⟩
  | x :: r, h => by
    obtain ⟨h1, h2, h3⟩ := shAll (xs := r) fun y hy => h y (List.mem_cons_of_mem _ hy)
    obtain ⟨g1, g2, g3⟩ := h x List.mem_cons_self
    refine ⟨?_, ?_, ?_⟩
    · simp only [List.map_cons, PyData.showableAll, g1, h1, Bool.and_self]
    · simp only [List.map_cons, PyData.depthAll]; omega
    · simp only [List.map_cons, csts, List.length_cons, Nat.mul_add, Nat.mul_one]; omega
theorem Sh.tup {α : Type} {f : α → PyData} {n c m k j : Nat} {xs : List α} (h : ∀ x ∈ xs, Sh (f x) n c) (hm : n + 1 ≤ m) (hl : xs.length ≤ j) (hk : (c + 4) * j + 4 ≤ k) : Sh (.tuple (xs.map f)) m k := by
  obtain ⟨h1, h2, h3⟩ := shAll h
  have h4 := Nat.mul_le_mul_left (c + 4) hl
  refine ⟨h1, ?_, ?_⟩
  · simp only [PyData.depth]; omega
  · show csts _ + 4 ≤ k; omega
theorem Sh.lst {α : Type} {f : α → PyData} {n c m k j : Nat} {xs : List α} (h : ∀ x ∈ xs, Sh (f x) n c) (hm : n + 1 ≤ m) (hl : xs.length ≤ j) (hk : (c + 4) * j + 4 ≤ k) : Sh (.list (xs.map f)) m k := by
  obtain ⟨h1, h2, h3⟩ := shAll h
  have h4 := Nat.mul_le_mul_left (c + 4) hl
  refine ⟨h1, ?_, ?_⟩
  · simp only [PyData.depth]; omega
  · show csts _ + 4 ≤ k; omega
theorem int_sh {i : Int} (h1 : -(10 ^ 100) ≤ i) (h2 : i ≤ 10 ^ 100) : Sh (.int i) 0 1921 := by
  refine ⟨?_, Nat.le_refl _, Nat.le_refl _⟩
  have : i.natAbs.log2 < 1920 := log_lt (by decide) (Nat.lt_of_le_of_lt (m := 10 ^ 100) (by omega) (by decide))
  simpa [PyData.showable] using this
theorem Sh.mono {d : PyData} {n c n' c' : Nat} (h : Sh d n c) (h1 : n ≤ n') (h2 : c ≤ c') : Sh d n' c' := ⟨h.s, Nat.le_trans h.dep h1, Nat.le_trans h.c h2⟩
theorem rep_ {K : PySem.W.Frag} {σ : L2.St} {H : Hp} {x : V} {d : PyData} {n c : Nat} {Q : VK} (hd : Dp K H x d) (s : Sh d n c) (hn : n ≤ 60 := by decide) (hc : c ≤ 10000000 := by decide) (q : Q (.str d.shown) H) :
    tNil σ H (fun xs H2 => (fun vs H1 => rRepr K vs H1 Q) (x :: xs) H2) :=
  ⟨x, d, rfl, hd, s.s, Nat.le_trans s.dep hn, shown_sz s.s (dp_noDict d x hd) (Nat.le_trans s.c hc), q⟩
theorem dps {α : Type} {K : PySem.W.Frag} {H : Hp} {g : α → V} {f : α → PyData} : ∀ {xs : List α}, (∀ x ∈ xs, Dp K H (g x) (f x)) → DpAll K H (xs.map g) (xs.map f)
  | [], _ => .nil
  | x :: r, h => .cons (h x List.mem_cons_self) (dps fun y hy => h y (List.mem_cons_of_mem _ hy))
theorem po_sh {b : Int} {o : Option Int} (h : ∀ l, o = some l → -b ≤ l ∧ l ≤ b) (hb : b ≤ 10 ^ 100) : Sh (po o) 0 1921 := by
  cases o with
  | none => exact ⟨rfl, Nat.le_refl _, by show 5 ≤ 1921; decide⟩
  | some i => have := h i rfl; exact int_sh (by omega) (by omega)
theorem pd_sh1 {b : Int} {d : Dd} (h : d.In b) (hb : b ≤ 10 ^ 100) : Sh (pd d) 1 6000 := by
  have := h.1; have := h.2.1
  refine Sh.tup (f := id) (n := 0) (c := 1921) (j := 3) (xs := [.int d.add, po d.low, po d.high]) ?_ (Nat.le_refl _) (Nat.le_refl _) (by decide)
  intro x hx
  simp only [List.mem_cons, List.mem_nil_iff, or_false] at hx
  rcases hx with rfl | rfl | rfl
  · exact int_sh (by omega) (by omega)
  · exact po_sh h.2.2.1 hb
  · exact po_sh h.2.2.2 hb
/-! ### boards and asks -/
def BoardAt (H : Hp) (b : Addr) (bs : List Int) : Prop := H b = some (.tup (bs.map V.int)) ∧ 1 ≤ bs.length ∧ bs.length ≤ 16
def Wi (c : Int) (bs : List Int) : Prop := ∀ x ∈ bs, -c ≤ x ∧ x ≤ c
theorem BoardAt.same {H H' : Hp} {b : Addr} {bs : List Int} (e : Same H H') (h : BoardAt H b bs) : BoardAt H' b bs := ⟨e _ _ h.1, h.2⟩
structure Ak where
  a : Addr
  hand : Int
  box : Nat
  da : Addr
  d : Dd
def Ak.vs (x : Ak) : List V := [.int x.hand, .int x.box, .ref x.da]
def Ak.at_ (H : Hp) (nb : Nat) (x : Ak) : Prop := H x.a = some (.tup x.vs) ∧ Da H x.da x.d ∧ 0 ≤ x.hand ∧ x.hand < 16 ∧ x.box < nb
def AsksAt (H : Hp) (k : Addr) (as : List Ak) (nb : Nat) : Prop := H k = some (.tup (as.map fun x => .ref x.a)) ∧ as.length ≤ 40 ∧ ∀ x ∈ as, x.at_ H nb
theorem Ak.at_.same {H H' : Hp} {nb : Nat} {x : Ak} (e : Same H H') (h : x.at_ H nb) : x.at_ H' nb := ⟨e _ _ h.1, h.2.1.same e, h.2.2⟩
theorem AsksAt.same {H H' : Hp} {k : Addr} {as : List Ak} {nb : Nat} (e : Same H H') (h : AsksAt H k as nb) : AsksAt H' k as nb := ⟨e _ _ h.1, h.2.1, fun x hx => (h.2.2 x hx).same e⟩
theorem Da.but {p : Addr} {ys : List V} {H H' : Hp} {a : Addr} {d : Dd} (e : But p H H') (hp : H p = some (.lst ys)) (h : Da H a d) : Da H' a d := ⟨e _ _ (ne_of h.1 hp (by intro z; cases z)) h.1, h.2⟩
theorem Ak.at_.but {p : Addr} {ys : List V} {H H' : Hp} {nb : Nat} {x : Ak} (e : But p H H') (hp : H p = some (.lst ys)) (h : x.at_ H nb) : x.at_ H' nb := ⟨e _ _ (ne_of h.1 hp (by intro z; cases z)) h.1, h.2.1.but e hp, h.2.2⟩
def Ak.pd (x : Ak) : PyData := .tuple [.int x.hand, .int x.box, Toy.pd x.d]
theorem Ak.at_.dp {K : PySem.W.Frag} {H : Hp} {nb : Nat} {x : Ak} (h : x.at_ H nb) : Dp K H (.ref x.a) x.pd := .tup (SqT.of h.1) (.cons (.int _) (.cons (.int _) (.cons h.2.1.dp .nil)))
theorem Ak.at_.sh {H : Hp} {nb : Nat} {x : Ak} (h : x.at_ H nb) (hn : nb ≤ 16) : Sh x.pd 2 19000 := by
  refine Sh.tup (f := id) (n := 1) (c := 6000) (j := 3) (xs := [.int x.hand, .int x.box, Toy.pd x.d]) ?_ (Nat.le_refl _) (Nat.le_refl _) (by decide)
  have := h.2.2
  intro y hy
  simp only [List.mem_cons, List.mem_nil_iff, or_false] at hy
  rcases hy with rfl | rfl | rfl
  · exact (int_sh (by omega) (by omega)).mono (by decide) (by decide)
  · exact (int_sh (by omega) (by omega)).mono (by decide) (by decide)
  · exact pd_sh1 h.2.1.2.1 (by decide)
def intsD (bs : List Int) : PyData := .tuple (bs.map PyData.int)
theorem ints_sh1 {bs : List Int} {c : Int} {n : Nat} (h : Wi c bs) (hc : c ≤ 10 ^ 100) (hn : bs.length ≤ n) : Sh (intsD bs) 1 (1925 * n + 4) :=
  Sh.tup (n := 0) (c := 1921) (j := n) (fun x hx => have := h x hx; int_sh (by omega) (by omega)) (Nat.le_refl _) hn (by omega)
theorem BoardAt.dp {K : PySem.W.Frag} {H : Hp} {b : Addr} {bs : List Int} (h : BoardAt H b bs) : Dp K H (.ref b) (intsD bs) := tupI_dp (SqT.of h.1)
def akD (as : List Ak) : PyData := .tuple (as.map Ak.pd)
theorem AsksAt.dp {K : PySem.W.Frag} {H : Hp} {k : Addr} {as : List Ak} {nb : Nat} (h : AsksAt H k as nb) : Dp K H (.ref k) (akD as) := .tup (SqT.of h.1) (dps fun x hx => (h.2.2 x hx).dp)
theorem AsksAt.sh {H : Hp} {k : Addr} {as : List Ak} {nb : Nat} (h : AsksAt H k as nb) (hn : nb ≤ 16) : Sh (akD as) 3 800000 :=
  Sh.tup (n := 2) (c := 19000) (j := 40) (fun x hx => (h.2.2 x hx).sh hn) (Nat.le_refl _) h.2.1 (by decide)
/-! ### asks played -/
def stepP (s : List Int × List Int) (x : Ak) : List Int × List Int := (s.1 ++ [s.2.getD x.box 0], s.2.set x.box (x.d.ap (s.2.getD x.box 0)))
def play (as : List Ak) (bs : List Int) : List Int × List Int := as.foldl stepP ([], bs)
theorem play_snoc {as : List Ak} {bs : List Int} {i : Nat} {x : Ak} (h : as[i]? = some x) : play (as.take (i + 1)) bs = stepP (play (as.take i) bs) x := by
  unfold play; rw [take_snoc h, List.foldl_append] <;> rfl
theorem Wi.set {c : Int} {bs : List Int} {i : Nat} {v : Int} (h : Wi c bs) (h1 : -c ≤ v) (h2 : v ≤ c) : Wi c (bs.set i v) := fun x hx => by
  rcases List.mem_or_eq_of_mem_set hx with h3 | h3
  · exact h x h3
  · subst h3; exact ⟨h1, h2⟩
theorem Wi.mono {c c' : Int} {bs : List Int} (h : Wi c bs) (e : c ≤ c') : Wi c' bs := fun x hx => by have := h x hx; omega
theorem Wi.get {c : Int} {bs : List Int} {i : Nat} (h : Wi c bs) (h0 : 0 ≤ c) : -c ≤ bs.getD i 0 ∧ bs.getD i 0 ≤ c := by
  rw [List.getD_eq_getElem?_getD]
  cases e : bs[i]? with
  | none => show -c ≤ 0 ∧ 0 ≤ c; omega
  | some x => exact h x (List.mem_of_getElem? e)
theorem snoc_ind {α : Type} {p : List α → Prop} (nil : p []) (snoc : ∀ l x, p l → p (l ++ [x])) (l : List α) : p l := by
  have h : ∀ l : List α, p l.reverse := fun l => by
    induction l with
    | nil => exact nil
    | cons x r ih => rw [List.reverse_cons]; exact snoc _ _ ih
  have := h l.reverse
  rwa [List.reverse_reverse] at this
theorem play_in {H : Hp} {nb : Nat} {bs : List Int} {c : Int} (hc : 0 ≤ c) (hb : Wi c bs) : ∀ {as : List Ak}, (∀ x ∈ as, x.at_ H nb) → (play as bs).1.length = as.length ∧ (play as bs).2.length = bs.length ∧ Wi (c + as.length * 10 ^ 80) (play as bs).1 ∧ Wi (c + as.length * 10 ^ 80) (play as bs).2 := by
  intro as
  induction as using snoc_ind with
  | nil => exact fun _ => ⟨rfl, rfl, (fun x hx => (nomatch hx)), hb.mono (by show c ≤ c + ((0 : Nat) : Int) * _; omega)⟩
  | snoc as x ih =>
    intro h
    obtain ⟨i1, i2, i3, i4⟩ := ih fun y hy => h y (List.mem_append_left _ hy)
    have hx := h x (List.mem_append_right _ List.mem_cons_self)
    have e : play (as ++ [x]) bs = stepP (play as bs) x := by unfold play; rw [List.foldl_append] <;> rfl
    have hg := i4.get (i := x.box) (by omega)
    have ha := ap_in (v := (play as bs).2.getD x.box 0) hx.2.1.2.1 hg.1 hg.2 (by omega)
    rw [e]
    have el : (((as ++ [x]).length : Nat) : Int) = as.length + 1 := by simp
    rw [el]
    refine ⟨?_, ?_, ?_, ?_⟩
    · show (_ ++ [_]).length = _; simp [i1]
    · show (List.set _ _ _).length = _; simp [i2]
    · intro y hy
      rcases List.mem_append.mp (show y ∈ _ ++ [_] from hy) with h3 | h3
      · have := i3 y h3; omega
      · have := List.mem_singleton.mp h3; subst this; omega
    · exact Wi.set (i4.mono (by omega)) (by omega) (by omega)
theorem menu8 : ∀ j : Nat, j < 8 → ∃ z : Int, ([.int 2147483629, .int 2147483587, .int 2147483579, .int 2147483563, .int 2147483549, .int 2147483543, .int 2147483497, .int 2147483489] : List V)[j]? = some (.int z) ∧ 0 < z ∧ z ≤ 2147483629
  | 0, _ => ⟨_, rfl, by decide, by decide⟩
  | 1, _ => ⟨_, rfl, by decide, by decide⟩
  | 2, _ => ⟨_, rfl, by decide, by decide⟩
  | 3, _ => ⟨_, rfl, by decide, by decide⟩
  | 4, _ => ⟨_, rfl, by decide, by decide⟩
  | 5, _ => ⟨_, rfl, by decide, by decide⟩
  | 6, _ => ⟨_, rfl, by decide, by decide⟩
  | 7, _ => ⟨_, rfl, by decide, by decide⟩
  | n + 8, h => absurd h (by omega)
theorem at3 {x0 x1 x2 : Int} : ∀ j : Nat, j < 3 → ∃ z : Int, ([.int x0, .int x1, .int x2] : List V)[j]? = some (.int z) ∧ (z = x0 ∨ z = x1 ∨ z = x2)
  | 0, _ => ⟨_, rfl, .inl rfl⟩
  | 1, _ => ⟨_, rfl, .inr (.inl rfl)⟩
  | 2, _ => ⟨_, rfl, .inr (.inr rfl)⟩
  | n + 3, h => absurd h (by omega)
theorem but_upd {p D : Addr} {H H1 : Hp} {o : HO} (n : H D = none) (a : But p H H1) : But p H (upd H1 D o) := fun b u hb e => by rw [upd_ne (ne_of_none e n)]; exact a b u hb e
theorem PotAt.upd {H : Hp} {p D : Addr} {o : HO} (n : p ≠ D) (h : PotAt H p) : PotAt (L2.upd H D o) p := by
  obtain ⟨a, b, h1, h2⟩ := h
  exact ⟨a, b, by rw [upd_ne n]; exact h1, h2⟩
theorem Wi.snoc {c : Int} {bs : List Int} {x : Int} (h : Wi c bs) (h1 : -c ≤ x) (h2 : x ≤ c) : Wi c (bs ++ [x]) := fun y hy => by
  rcases List.mem_append.mp hy with h3 | h3
  · exact h y h3
  · have := List.mem_singleton.mp h3; subst this; exact ⟨h1, h2⟩
theorem play_len {as : List Ak} {bs : List Int} : (play as bs).1.length = as.length ∧ (play as bs).2.length = bs.length := by
  induction as using snoc_ind with
  | nil => exact ⟨rfl, rfl⟩
  | snoc as x ih =>
    have e : play (as ++ [x]) bs = stepP (play as bs) x := by unfold play; rw [List.foldl_append] <;> rfl
    rw [e]
    refine ⟨?_, ?_⟩
    · show (_ ++ [_]).length = _; simp [ih.1]
    · show (List.set _ _ _).length = _; simp [ih.2]
theorem map_getD {us : List Int} {i : Nat} (h : i < us.length) : (us.map V.int)[i]? = some (.int (us.getD i 0)) := by
  rw [List.getElem?_map, List.getD_eq_getElem?_getD, List.getElem?_eq_getElem h] <;> rfl
/-- what is told of asks played -/
def TwoAt (H : Hp) (r : Addr) (s : List Int × List Int) : Prop := ∃ t1 t2, H r = some (.tup [.ref t1, .ref t2]) ∧ H t1 = some (.tup (s.1.map V.int)) ∧ H t2 = some (.tup (s.2.map V.int))
theorem TwoAt.same {H H' : Hp} {r : Addr} {s : List Int × List Int} (e : Same H H') (h : TwoAt H r s) : TwoAt H' r s := by
  obtain ⟨a, b, h1, h2, h3⟩ := h
  exact ⟨a, b, e _ _ h1, e _ _ h2, e _ _ h3⟩
def twoD (s : List Int × List Int) : PyData := .tuple [intsD s.1, intsD s.2]
theorem TwoAt.dp {K : PySem.W.Frag} {H : Hp} {r : Addr} {s : List Int × List Int} (h : TwoAt H r s) : Dp K H (.ref r) (twoD s) := by
  obtain ⟨a, b, h1, h2, h3⟩ := h
  exact .tup (SqT.of h1) (.cons (tupI_dp (SqT.of h2)) (.cons (tupI_dp (SqT.of h3)) .nil))
theorem play_sh {H : Hp} {k : Addr} {as : List Ak} {bs : List Int} {c : Int} (hk : AsksAt H k as bs.length) (hn : bs.length ≤ 16) (hw : Wi c bs) (h0 : 0 ≤ c) (hc : c ≤ 10 ^ 91) : Sh (twoD (play as bs)) 2 160000 := by
  obtain ⟨h1, h2, h3, h4⟩ := play_in h0 hw hk.2.2
  have h40 := hk.2.1
  have hb : c + (as.length : Int) * 10 ^ 80 ≤ 10 ^ 100 := by omega
  refine Sh.tup (f := id) (n := 1) (c := 77004) (j := 2) (xs := [intsD (play as bs).1, intsD (play as bs).2]) ?_ (Nat.le_refl _) (Nat.le_refl _) (by decide)
  intro x hx
  simp only [List.mem_cons, List.mem_nil_iff, or_false] at hx
  rcases hx with rfl | rfl
  · exact ints_sh1 (n := 40) h3 hb (by omega)
  · exact ints_sh1 (n := 40) h4 hb (by omega)
/-! ### trees -/
inductive Tr where
  | leaf (n : Nat)
  | node (l r : Tr)
def Tr.cnt : Tr → Nat
  | .leaf _ => 1
  | .node l r => l.cnt + r.cnt
def Tr.h : Tr → Nat
  | .leaf _ => 1
  | .node l r => max l.h r.h + 1
def Tr.d : Tr → PyData
  | .leaf n => .int n
  | .node l r => .tuple [l.d, r.d]
def Tr.big : Tr → Nat
  | .leaf n => n
  | .node l r => max l.big r.big
def TrAt (H : Hp) : V → Tr → Prop
  | v, .leaf n => v = .int n
  | v, .node l r => ∃ a x y, v = .ref a ∧ H a = some (.tup [x, y]) ∧ TrAt H x l ∧ TrAt H y r
theorem TrAt.same {H H' : Hp} (e : Same H H') : ∀ {t : Tr} {v : V}, TrAt H v t → TrAt H' v t
  | .leaf _, _, h => h
  | .node l r, _, ⟨a, x, y, h1, h2, h3, h4⟩ => ⟨a, x, y, h1, e _ _ h2, TrAt.same e h3, TrAt.same e h4⟩
theorem TrAt.dp {K : PySem.W.Frag} {H : Hp} : ∀ {t : Tr} {v : V}, TrAt H v t → Dp K H v t.d
  | .leaf n, _, h => by
    cases (show _ = V.int n from h)
    exact .int n
  | .node l r, _, ⟨a, x, y, h1, h2, h3, h4⟩ => by
    cases h1
    exact .tup (SqT.of h2) (.cons h3.dp (.cons h4.dp .nil))
theorem Tr.sh : ∀ {t : Tr} {b : Nat}, t.big ≤ b → b ≤ 10 ^ 9 → t.d.showable = true ∧ t.d.depth + 1 ≤ t.h ∧ cst t.d + 12 ≤ 1940 * t.cnt
  | .leaf n, b, h, hb => by
    have h' : n ≤ b := h
    have i := int_sh (i := n) (by omega) (by omega)
    exact ⟨i.s, Nat.le_refl _, by show 1921 + 12 ≤ 1940 * 1; decide⟩
  | .node l r, b, h, hb => by
    have h' : max l.big r.big ≤ b := h
    obtain ⟨a1, a2, a3⟩ := Tr.sh (t := l) (b := b) (by omega) hb
    obtain ⟨b1, b2, b3⟩ := Tr.sh (t := r) (b := b) (by omega) hb
    refine ⟨?_, ?_, ?_⟩
    · simp only [Tr.d, PyData.showable, PyData.showableAll, a1, b1, Bool.and_self]
    · simp only [Tr.d, PyData.depth, PyData.depthAll, Tr.h]; omega
    · show (cst l.d + 4 + (cst r.d + 4 + 0)) + 4 + 12 ≤ 1940 * (l.cnt + r.cnt); omega
theorem Tr.shw {t : Tr} (h1 : t.big ≤ 10 ^ 9) (h2 : t.h ≤ 50) (h3 : t.cnt ≤ 50) : Sh t.d 60 100000 := by
  obtain ⟨a, b, c⟩ := Tr.sh h1 (Nat.le_refl _)
  exact ⟨a, by omega, by omega⟩
theorem Tr.h_pos : ∀ t : Tr, 1 ≤ t.h
  | .leaf _ => Nat.le_refl _
  | .node _ _ => Nat.le_add_left _ _
/-- the halved tree -/
def hv (f m : Nat) : Tr := if m ≤ 1 then .leaf f else .node (hv f ((m + 1) / 2)) (hv (f + (m + 1) / 2) (m - (m + 1) / 2))
termination_by m
decreasing_by all_goals omega
theorem hv_one {f m : Nat} (h : m ≤ 1) : hv f m = .leaf f := by rw [hv, if_pos h]
theorem hv_more {f m : Nat} (h : ¬ m ≤ 1) : hv f m = .node (hv f ((m + 1) / 2)) (hv (f + (m + 1) / 2) (m - (m + 1) / 2)) := by rw [hv, if_neg h]
def IsH : Tr → Nat → Prop
  | .leaf n, f => n = f
  | .node l r, f => (l.cnt = r.cnt ∨ l.cnt = r.cnt + 1) ∧ IsH l f ∧ IsH r (f + l.cnt)
theorem hv_is : ∀ (m f : Nat), 1 ≤ m → IsH (hv f m) f ∧ (hv f m).cnt = m ∧ (hv f m).h ≤ m ∧ (hv f m).big ≤ f + m := by
  intro m
  induction m using Nat.strongRecOn with
  | _ m ih =>
    intro f h
    by_cases c : m ≤ 1
    · rw [hv_one c]
      have : m = 1 := by omega
      subst this
      exact ⟨rfl, rfl, Nat.le_refl _, Nat.le_add_right _ _⟩
    · rw [hv_more c]
      obtain ⟨a1, a2, a3, a4⟩ := ih ((m + 1) / 2) (by omega) f (by omega)
      obtain ⟨b1, b2, b3, b4⟩ := ih (m - (m + 1) / 2) (by omega) (f + (m + 1) / 2) (by omega)
      refine ⟨⟨by omega, a1, by rw [a2]; exact b1⟩, ?_, ?_, ?_⟩
      · show _ + _ = _; omega
      · show max _ _ + 1 ≤ _; omega
      · show max _ _ ≤ _; omega
/-- the chained tree of so many -/
def ch : Nat → Tr
  | 0 => .leaf 0
  | n + 1 => .node (ch n) (.leaf (n + 1))
theorem ch_is : ∀ n, (ch n).cnt = n + 1 ∧ (ch n).h ≤ n + 1 ∧ (ch n).big ≤ n
  | 0 => ⟨rfl, Nat.le_refl _, Nat.le_refl _⟩
  | n + 1 => by
    obtain ⟨a, b, c⟩ := ch_is n
    refine ⟨?_, ?_, ?_⟩
    · show _ + 1 = _; omega
    · show max _ 1 + 1 ≤ _; omega
    · show max _ (n + 1) ≤ _; omega
theorem TrAt.but {p : Addr} {ys : List V} {H H' : Hp} (e : But p H H') (hp : H p = some (.lst ys)) : ∀ {t : Tr} {v : V}, TrAt H v t → TrAt H' v t
  | .leaf _, _, h => h
  | .node l r, _, ⟨a, x, y, h1, h2, h3, h4⟩ => ⟨a, x, y, h1, e _ _ (ne_of h2 hp (by intro z; cases z)) h2, TrAt.but e hp h3, TrAt.but e hp h4⟩
end Toy
/-! ### enumerate of a tuple -/
namespace PySem
open Sem (wp)
open AutoSeq1 (wpAny_loadPart')
theorem meets_enumerate_newTu (l : Addr) (items : Array Value) (n : Nat) (dct : Option Addr) (sl : Array (Option Value)) :
    Meets (Builtin.«enumerate.__new__» ⟨[.type "enumerate", .ref l], []⟩) (fun _ R s => s.heap.get? l = some { cls := .type "tuple", dict := dct, data := .seq items n, slots := sl } ∧
      R (.ok (.ret (.ref (s.heap.push { cls := .type "tuple_iterator", data := .fields #[.ref l, .int 0 0] }).objs.size)))
        { s with heap := (s.heap.push { cls := .type "tuple_iterator", data := .fields #[.ref l, .int 0 0] }).push { cls := .type "enumerate", data := .fields #[.none, .bool false, .ref s.heap.objs.size, rawInt 0, .none, .none] } }) :=
  .of_wp fun prog w A R s h => by
    obtain ⟨hp, g, d, tk, os⟩ := s; obtain ⟨hl, h⟩ := h
    have hsub := sub_enumerate
    have hL : Heap.IsTuple (Shared.heap ⟨hp, g, d, tk, os⟩) l items := ⟨_, hl, rfl, n, rfl⟩
    wp_walk using wpAny_loadPart' hl
    refine wpAny_stack_any fun st => wpAny_pure ?_
    split
    · rename_i c _ _ _ _ _
      cases (c == Value.type "enumerate")
      · wp_walk using wpAny_loadPart' hl, wpAny_pyIter_tuple hL
        exact ⟨_, rfl, h⟩
      · wp_walk using wpAny_loadPart' hl, wpAny_pyIter_tuple hL
        exact ⟨_, rfl, h⟩
    · wp_walk using wpAny_loadPart' hl, wpAny_pyIter_tuple hL
      exact ⟨_, rfl, h⟩
theorem call_enumerate_tup {prog : Program} {w : World} {A : Around} {E : Value → Shared → Prop} {s : Shared} {l : Addr} {items : Array Value} {Q : Value → Shared → Prop} (hL : s.heap.IsTuple l items)
    (h : ∀ h', IsEnum h' (s.heap.objs.size + 1) s.heap.objs.size 0 .none → h'.IsTupleIter s.heap.objs.size l 0 → h'.objs.size = s.heap.objs.size + 2 →
      (∀ b o, s.heap.get? b = some o → h'.get? b = some o) → Q (.ref (s.heap.objs.size + 1)) { s with heap := h' }) :
    wpAny (model prog w) A (call (.type "enumerate") [.ref l]) Q E s := by
  obtain ⟨⟨c, dct, dt, sl⟩, hl, hc, n, hd⟩ := hL
  replace hc : c = .type "tuple" := hc
  replace hd : dt = .seq items n := hd
  subst hc hd
  refine callType_new F.called_enumerate (by decide) (F.typeCall_enumerate_1 _) (F.newCall_enumerate_1 _) (fun obj => F.args_object_init_2 obj _) F.entry_enumerate_new
    (meets_enumerate_newTu l items n dct sl) ⟨hl, ?_⟩
  have hz : (s.heap.push { cls := .type "tuple_iterator", data := .fields #[.ref l, .int 0 0] }).objs.size = s.heap.objs.size + 1 := Heap.size_push ..
  show _ ∧ _
  rw [hz]
  have he : IsEnum ((s.heap.push { cls := .type "tuple_iterator", data := .fields #[.ref l, .int 0 0] }).push
      { cls := .type "enumerate", data := .fields #[.none, .bool false, .ref s.heap.objs.size, rawInt 0, .none, .none] }) (s.heap.objs.size + 1) s.heap.objs.size 0 .none := by
    have := Heap.get?_push_size (s.heap.push { cls := .type "tuple_iterator", data := .fields #[.ref l, .int 0 0] })
      (o := { cls := .type "enumerate", data := .fields #[.none, .bool false, .ref s.heap.objs.size, rawInt 0, .none, .none] }) rfl
    rw [hz] at this; exact this
  refine ⟨⟨_, he, rfl⟩, h _ he ⟨_, Heap.get?_push_of_some _ (Heap.get?_push_size _ rfl), rfl, rfl⟩ (by rw [Heap.size_push, hz]) fun b o x => Heap.get?_push_of_some _ (Heap.get?_push_of_some _ x)⟩
end PySem
namespace Toy
open PySem PySem.Spec PyProof.Rows L2
theorem tup_is {h : Heap} {a : Addr} {its : Array Value} (p : IsTup h a its) : h.IsTuple a its := p
/-- the tuple at a as it stands at each turn, each item in a new pair -/
def IteT (K : PySem.W.Frag) (a : Addr) : It :=
  ⟨fun i H => ∃ (xs : List V) (x : V), SqT K H a xs ∧ xs[i]? = some x, fun i H v H' => ∃ T x, v = .ref T ∧ H T = none ∧ H' = upd H T (.tup [.int (i : Nat), x]) ∧ ∀ xs, SqT K H a xs → xs[i]? = some x, fun i H => ∃ xs : List V, SqT K H a xs ∧ xs.length = i⟩
theorem turn_enumTu {P : Program} {w : World} {K : PySem.W.Frag} {elts : List Expr} {kk : Nat} {tpos : Pos} (a e it : Addr) (hai : a ≠ it) :
    Turn P w K (.Tuple elts kk tpos) (IteT K a) [e, it] e (fun i h => (∃ old, IsEnum h e it ((i : Nat) : Int) old) ∧ h.IsTupleIter it a i ∧ e ≠ it ∧ e ≠ a) where
  mem := by simp
  obj := fun i h st b hb => by
    obtain ⟨⟨old, he⟩, ⟨o, ho, hc, hd⟩, _⟩ := st
    have e' : b = e ∨ b = it := by simpa using hb
    rcases e' with z | z
    · rw [z]; exact ⟨_, he, fun v q => nomatch q⟩
    · rw [z]; exact ⟨o, ho, fun v q => by rw [hd] at q; cases q⟩
  keep := fun i h h' st k => let ⟨⟨old, he⟩, hi, hne⟩ := st; ⟨⟨old, k e (by simp) _ he⟩, hi.at fun o q => k it (by simp) o q, hne⟩
  item := by
    intro X hP hw hK hc i pins s σ H E I hf st hg
    subst hP hw hK
    obtain ⟨⟨old, he⟩, hit, hne, hea⟩ := st
    obtain ⟨xs, x, hq, hx⟩ := hg
    obtain ⟨its, rv, p, hz⟩ := I.tuple hq
    obtain ⟨u, hu, ru⟩ := rv.get hx
    have hel : e < s.heap.objs.size := Heap.lt_size he
    have hil : it < s.heap.objs.size := by obtain ⟨_, q, _⟩ := hit; exact Heap.lt_size q
    refine wpAny_pyNext_enum_itemD (Draws.tuple (show X.A.in1.handled = none from I.ok.hd hc) it a hai its.toArray) he ⟨hit, tup_is p⟩ (by have h1 := rv.length; have h2 := (List.getElem?_eq_some_iff.mp hx).1; rw [List.size_toArray]; omega) hne (by simp [hne, hea]) fun x' h' tk hP ho hst' hT hsz hk => ?_
    obtain ⟨hit', ht'⟩ := hst'
    have ex : x' = u := by
      have h1 : its[i]? = some x' := by simpa using hP
      rw [hu] at h1
      exact (Option.some.inj h1).symm
    subst ex
    refine ⟨_, rfl, wpAny_letOwnedTupleGo_enum (s := { s with heap := h', toks := tk + 1 }) ho fun h'' he' sb => ?_⟩
    have hT2 : h''.get? s.heap.objs.size = some { cls := .type "tuple", data := .seq #[.int i tk, x'] } := (sb.2 _ (Nat.ne_of_gt hel)).trans hT
    have new : ObjOk X.prog X.w (upd H s.heap.objs.size (.tup [.int (i : Nat), x])) h'' s.heap.objs.size (.tup [.int (i : Nat), x]) :=
      ⟨by show 2 ≤ sizeLine; decide, [.int i tk, x'], .cons ⟨_, rfl⟩ (.cons ru .nil), ⟨_, hT2, rfl, _, rfl⟩⟩
    have I1 : Inv X pins σ (upd H s.heap.objs.size (.tup [.int (i : Nat), x])) { s with heap := h'', toks := tk + 1 } :=
      I.turnedNew (ch := [e, it]) (fun b ob hb q => (sb.2 b (fun z => hb (by simp [z]))).trans (hk b ob (fun z => hb (by simp [z])) (fun z => hb (by simp [z])) q)) hf (Nat.le_refl _) new
    refine ⟨.ref s.heap.objs.size, _, I1, rfl, ⟨_, x, rfl, I.hok.fresh (Nat.le_refl _), rfl, fun ys hy => by rw [I.tuple_inj hy hq]; exact hx⟩, ⟨⟨x', ?_⟩, hit'.at fun o q => (sb.2 it (Ne.symm hne)).trans q, hne, hea⟩, fun b hb => ?_⟩
    · have e1 : ((i + 1 : Nat) : Int) = (i : Int) + 1 := by omega
      rw [e1]; exact he'
    · have hb' : b < s.heap.objs.size := by
        have e' : b = e ∨ b = it := by simpa using hb
        rcases e' with z | z
        · rw [z]; exact hel
        · rw [z]; exact hil
      rw [upd_ne (Nat.ne_of_lt hb')]
      exact (hf b hb).1
  done := by
    intro X hP hw hK hc i pins s σ H E I hf st hg
    subst hP hw hK
    obtain ⟨⟨old, he⟩, hit, hne, hea⟩ := st
    obtain ⟨xs, hq, hx⟩ := hg
    obtain ⟨its, rv, p, hz⟩ := I.tuple hq
    obtain ⟨f0, f1, f2, f3, f4, f5⟩ := hf it (by simp)
    have hl := rv.length
    have e2 : i = its.toArray.size := by rw [List.size_toArray]; omega
    rw [e2] at hit he
    exact wpAny_pyNext_enum_endD (Draws.tuple (show X.A.in1.handled = none from I.ok.hd hc) it a hai its.toArray) he ⟨hit, tup_is p⟩ fun h' eb => ⟨rfl, I.turned (t' := s.toks) (fun b o hb q => eb b o hb q) f0 f1 f3 f4 f5⟩
  self := fun A i s Q E st h => let ⟨⟨_, he⟩, _⟩ := st; wpAny_pyIter_enum he h
def iEnumT (K : PySem.W.Frag) (ta : TA) : TI := fun σ H R => ta σ H fun vs H1 => ∃ a xs, vs = [.ref a] ∧ SqT K H1 a xs ∧ R (IteT K a) H1
theorem pi_enumT {X : Cx} {e : Expr} {ta : TA} {p pos tpos : Pos} {elts : List Expr} {kk : Nat} (hg : Gl X "enumerate") (hm : X.mg "enumerate" = none) (ha : PA X [e] ta) (hs : starEach [e] X.env = [(false, eval e X.env)] := by rfl) :
    PI X (.Tuple elts kk tpos) (.Call (.Name "enumerate" p) [e] [] pos) (iEnumT X.K ta) := by
  refine ⟨fun pins s σ H R I h => ?_⟩
  refine Call_ (ld_blt I hg hm boot_enumerate (PyProof.Rows.callWith_type1 (thn (ha.run pos pins s σ H _ I h) fun us s1 ⟨vs, H1, I1, r1, q1⟩ => ?_) hs rfl))
  obtain ⟨a, xs, ex, hq, q⟩ := q1
  subst ex
  cases r1 with
  | cons r rr =>
    cases rr
    cases r
    obtain ⟨its, rv, p', hz⟩ := I1.tuple hq
    have hal : a < s1.heap.objs.size := by obtain ⟨o, ho, _⟩ := p'; exact Heap.lt_size ho
    refine call_enumerate_tup (tup_is p') fun h' he hit hsz hk => wpAny_pyIter_enum he ?_
    have I2 : Inv X pins σ H1 { s1 with heap := h' } := I1.kept (t' := s1.toks) hk
    refine ⟨s1.heap.objs.size + 1, [s1.heap.objs.size + 1, s1.heap.objs.size], _, _, H1, rfl, I2, turn_enumTu a (s1.heap.objs.size + 1) s1.heap.objs.size (Nat.ne_of_lt hal), ⟨⟨.none, he⟩, hit, Nat.succ_ne_self _, Nat.ne_of_gt (Nat.lt_succ_of_lt hal)⟩, fun b hb => ?_, q⟩
    have e' : b = s1.heap.objs.size + 1 ∨ b = s1.heap.objs.size := by simpa using hb
    have hle : s1.heap.objs.size ≤ b := by
      rcases e' with z | z
      · rw [z]; exact Nat.le_add_right _ _
      · rw [z]; exact Nat.le_refl _
    exact I1.fpOk hle (I1.hok.fresh hle)
theorem for_enumT {K : PySem.W.Frag} {a : Addr} {xs : List V} {g : TG} {tb : TS} {D : Ends} {σ : L2.St} {H : Hp} (Pv : Nat → L2.St → Hp → Prop) (h0 : Pv 0 σ H) (hl : ∀ i σ H, i ≤ xs.length → Pv i σ H → SqT K H a xs)
    (hs : ∀ (i : Nat) x (T : Addr) σ H, xs[i]? = some x → Pv i σ H → H T = none → g (.ref T) σ (upd H T (.tup [.int i, x])) fun σ2 H2 => tb { D with nx := Pv (i + 1), ct := Pv (i + 1), bk := D.nx } σ2 H2) (hd : ∀ σ H, Pv xs.length σ H → D.nx σ H) :
    ∃ W : Nat → Nat → L2.St → Hp → Prop, (∃ m, W 0 m σ H) ∧ ∀ i m σ H, W i m σ H →
      ((IteT K a).stop i H ∧ D.nx σ H) ∨ ((IteT K a).go i H ∧ ∃ N : L2.St → Hp → Prop, (∀ σ' H', N σ' H' → ∃ m', m' < m ∧ W (i + 1) m' σ' H') ∧ ∀ x H', (IteT K a).yld i H x H' → g x σ H' fun σ2 H2 => tb { D with nx := N, ct := N, bk := D.nx } σ2 H2) := by
  refine ⟨fun i m σ H => m = xs.length - i ∧ i ≤ xs.length ∧ Pv i σ H, ⟨xs.length, by simp, Nat.zero_le _, h0⟩, ?_⟩
  rintro i m σ H ⟨rfl, hi, p⟩
  have q := hl i σ H hi p
  by_cases hlt : i < xs.length
  · refine .inr ⟨⟨xs, xs[i], q, List.getElem?_eq_getElem hlt⟩, Pv (i + 1), fun σ' H' p' => ⟨xs.length - (i + 1), by omega, rfl, hlt, p'⟩, fun x H' y => ?_⟩
    obtain ⟨T, z, rfl, hT, rfl, hz⟩ := y
    exact hs i z T σ H (hz xs q) p hT
  · have e : i = xs.length := by omega
    subst e
    exact .inl ⟨⟨xs, q, rfl⟩, hd σ H p⟩
/-! ### loops over any iterable: the forms one uses -/
theorem lc_it {I : It} {n : Nat} {g : TG} {tt : TT} {te : TE} {vs : List Nat} {σ : L2.St} {H1 : Hp} {D : Addr} {Qd : Hp → Prop} (Pv : Nat → Hp → Prop) (h0 : Pv 0 (upd H1 D (.lst [])))
    (hgo : ∀ i H, i < n → Pv i H → I.go i H) (hst : ∀ H, Pv n H → I.stop n H)
    (hs : ∀ i x H H', i < n → Pv i H → I.yld i H x H' → g x (wipe σ vs) H' fun σ2 H2 => wipe σ2 vs = wipe σ vs ∧ tt σ2 H2 fun b H3 =>
      if b = true then te σ2 H3 fun y H4 => ∃ acc, H4 D = some (.lst acc) ∧ acc.length < sizeLine ∧ Pv (i + 1) (upd H4 D (.lst (acc ++ [y]))) else Pv (i + 1) H3) (hd : ∀ H, Pv n H → Qd H) :
    ∃ W : Nat → Nat → Hp → Prop, (∃ m, W 0 m (upd H1 D (.lst []))) ∧ ∀ i m H, W i m H →
      (I.stop i H ∧ Qd H) ∨ (I.go i H ∧ ∃ Nx : Hp → Prop, (∀ H', Nx H' → ∃ m', m' < m ∧ W (i + 1) m' H') ∧ ∀ x H', I.yld i H x H' → g x (wipe σ vs) H' fun σ2 H2 => wipe σ2 vs = wipe σ vs ∧ tt σ2 H2 fun b H3 =>
        if b = true then te σ2 H3 fun y H4 => ∃ acc, H4 D = some (.lst acc) ∧ acc.length < sizeLine ∧ Nx (upd H4 D (.lst (acc ++ [y]))) else Nx H3) := by
  refine ⟨fun i m H => m = n - i ∧ i ≤ n ∧ Pv i H, ⟨n, by simp, Nat.zero_le _, h0⟩, ?_⟩
  rintro i m H ⟨rfl, hi, p⟩
  by_cases hlt : i < n
  · exact .inr ⟨hgo i H hlt p, Pv (i + 1), fun H' p' => ⟨n - (i + 1), by omega, rfl, hlt, p'⟩, fun x H' y => hs i x H H' hlt p y⟩
  · have e : i = n := by omega
    subst e
    exact .inl ⟨hst H p, hd H p⟩
theorem for_it {I : It} {n : Nat} {g : TG} {tb : TS} {D : Ends} {σ : L2.St} {H : Hp} (Pv : Nat → L2.St → Hp → Prop) (h0 : Pv 0 σ H)
    (hgo : ∀ i σ H, i < n → Pv i σ H → I.go i H) (hst : ∀ σ H, Pv n σ H → I.stop n H)
    (hs : ∀ i x σ H H', i < n → Pv i σ H → I.yld i H x H' → g x σ H' fun σ2 H2 => tb { D with nx := Pv (i + 1), ct := Pv (i + 1), bk := D.nx } σ2 H2) (hd : ∀ σ H, Pv n σ H → D.nx σ H) :
    ∃ W : Nat → Nat → L2.St → Hp → Prop, (∃ m, W 0 m σ H) ∧ ∀ i m σ H, W i m σ H →
      (I.stop i H ∧ D.nx σ H) ∨ (I.go i H ∧ ∃ N : L2.St → Hp → Prop, (∀ σ' H', N σ' H' → ∃ m', m' < m ∧ W (i + 1) m' σ' H') ∧ ∀ x H', I.yld i H x H' → g x σ H' fun σ2 H2 => tb { D with nx := N, ct := N, bk := D.nx } σ2 H2) := by
  refine ⟨fun i m σ H => m = n - i ∧ i ≤ n ∧ Pv i σ H, ⟨n, by simp, Nat.zero_le _, h0⟩, ?_⟩
  rintro i m σ H ⟨rfl, hi, p⟩
  by_cases hlt : i < n
  · exact .inr ⟨hgo i σ H hlt p, Pv (i + 1), fun σ' H' p' => ⟨n - (i + 1), by omega, rfl, hlt, p'⟩, fun x H' y => hs i x σ H H' hlt p y⟩
  · have e : i = n := by omega
    subst e
    exact .inl ⟨hst σ H p, hd σ H p⟩
/-- [.. for i, x in enumerate(xs)] -/
theorem lc_enum {K : PySem.W.Frag} {a : Addr} {xs : List V} {g : TG} {tt : TT} {te : TE} {vs : List Nat} {σ : L2.St} {H1 : Hp} {D : Addr} {Qd : Hp → Prop} (Pv : Nat → Hp → Prop) (h0 : Pv 0 (upd H1 D (.lst []))) (hl : ∀ i H, i ≤ xs.length → Pv i H → SqL K H a xs)
    (hs : ∀ (i : Nat) x (T : Addr) H, xs[i]? = some x → Pv i H → H T = none → g (.ref T) (wipe σ vs) (upd H T (.tup [.int i, x])) fun σ2 H2 => wipe σ2 vs = wipe σ vs ∧ tt σ2 H2 fun b H3 =>
      if b = true then te σ2 H3 fun y H4 => ∃ acc, H4 D = some (.lst acc) ∧ acc.length < sizeLine ∧ Pv (i + 1) (upd H4 D (.lst (acc ++ [y]))) else Pv (i + 1) H3) (hd : ∀ H, Pv xs.length H → Qd H) :
    ∃ W : Nat → Nat → Hp → Prop, (∃ m, W 0 m (upd H1 D (.lst []))) ∧ ∀ i m H, W i m H →
      ((Ite K a).stop i H ∧ Qd H) ∨ ((Ite K a).go i H ∧ ∃ Nx : Hp → Prop, (∀ H', Nx H' → ∃ m', m' < m ∧ W (i + 1) m' H') ∧ ∀ x H', (Ite K a).yld i H x H' → g x (wipe σ vs) H' fun σ2 H2 => wipe σ2 vs = wipe σ vs ∧ tt σ2 H2 fun b H3 =>
        if b = true then te σ2 H3 fun y H4 => ∃ acc, H4 D = some (.lst acc) ∧ acc.length < sizeLine ∧ Nx (upd H4 D (.lst (acc ++ [y]))) else Nx H3) := by
  refine lc_it (I := Ite K a) (n := xs.length) Pv h0 (fun i H hi p => ⟨xs, xs[i], hl i H (Nat.le_of_lt hi) p, List.getElem?_eq_getElem hi⟩) (fun H p => ⟨xs, hl _ H (Nat.le_refl _) p, Nat.le_refl _⟩) ?_ hd
  rintro i x H H' hi p ⟨T, z, rfl, hT, rfl, hz⟩
  exact hs i z T H (hz xs (hl i H (Nat.le_of_lt hi) p)) p hT
theorem for_enum' {K : PySem.W.Frag} {a : Addr} {xs : List V} {g : TG} {tb : TS} {D : Ends} {σ : L2.St} {H : Hp} (Pv : Nat → L2.St → Hp → Prop) (h0 : Pv 0 σ H) (hl : ∀ i σ H, i ≤ xs.length → Pv i σ H → SqL K H a xs)
    (hs : ∀ (i : Nat) x (T : Addr) σ H, xs[i]? = some x → Pv i σ H → H T = none → g (.ref T) σ (upd H T (.tup [.int i, x])) fun σ2 H2 => tb { D with nx := Pv (i + 1), ct := Pv (i + 1), bk := D.nx } σ2 H2) (hd : ∀ σ H, Pv xs.length σ H → D.nx σ H) :
    ∃ W : Nat → Nat → L2.St → Hp → Prop, (∃ m, W 0 m σ H) ∧ ∀ i m σ H, W i m σ H →
      ((Ite K a).stop i H ∧ D.nx σ H) ∨ ((Ite K a).go i H ∧ ∃ N : L2.St → Hp → Prop, (∀ σ' H', N σ' H' → ∃ m', m' < m ∧ W (i + 1) m' σ' H') ∧ ∀ x H', (Ite K a).yld i H x H' → g x σ H' fun σ2 H2 => tb { D with nx := N, ct := N, bk := D.nx } σ2 H2) := by
  refine for_it (I := Ite K a) (n := xs.length) Pv h0 (fun i σ H hi p => ⟨xs, xs[i], hl i σ H (Nat.le_of_lt hi) p, List.getElem?_eq_getElem hi⟩) (fun σ H p => ⟨xs, hl _ σ H (Nat.le_refl _) p, Nat.le_refl _⟩) ?_ hd
  rintro i x σ H H' hi p ⟨T, z, rfl, hT, rfl, hz⟩
  exact hs i z T σ H (hz xs (hl i σ H (Nat.le_of_lt hi) p)) p hT
/-- xs[i] of a list, as a value -/
theorem get_listI {X : Cx} : PGet X (rIxL X.K) := by
  intro pins s σ H o i ov iv Q I ro ri h
  obtain ⟨p, xs, k, z, rfl, rfl, hq, he, q⟩ := h
  cases ro
  obtain ⟨t, rfl⟩ := ri
  obtain ⟨its, r, pl, hz⟩ := I.list hq
  obtain ⟨j, h1, h2, h3, h4, h5⟩ := atI_get he
  obtain ⟨w, ew, rw'⟩ := r.get h2
  have hl := r.length
  have hn := line63
  have fin : EP X pins σ Q w s := ⟨z, H, I, rw', q⟩
  by_cases h0 : 0 ≤ k
  · have hj : k.toNat = j := by
      rw [seqIndex_of h0 h5] at h1
      exact Option.some.inj h1
    exact wpAny_getItem_list pl.isList h0 (by omega) (by rw [hj]; simpa using ew) fin
  · have hj : (k + (its.toArray.size : Int)).toNat = j := by
      rw [seqIndex_neg (by omega) h4] at h1
      rw [List.size_toArray, ← hl]
      exact Option.some.inj h1
    exact wpAny_getItem_list_neg pl.isList (by omega) (by rw [List.size_toArray] <;> omega) (by omega) (by rw [hj]; simpa using ew) fin
end Toy
/-! ### data that is compared: no truths in it -/
namespace Toy
open PySem PySem.Spec PyProof.Rows L2
mutual
def nb : PyData → Bool
  | .none => true
  | .bool _ => false
  | .int _ => true
  | .str _ => true
  | .list ds => nbs ds
  | .tuple ds => nbs ds
  | .dict _ => false
def nbs : List PyData → Bool
  | [] => true
  | d :: ds => nb d && nbs ds
end
theorem nbs_of : ∀ {ds : List PyData}, (∀ d ∈ ds, nb d = true) → nbs ds = true
  | [], _ => by simp [nbs]
  | d :: ds, h => by simp [nbs, h d List.mem_cons_self, nbs_of (ds := ds) fun x hx => h x (List.mem_cons_of_mem _ hx)]
mutual
theorem eqv_nb : ∀ d e : PyData, nb d = true → nb e = true → PyData.eqv d e = true → d = e
  | .none, e, _, h, q => by cases e <;> simp_all [PyData.eqv, nb]
  | .int i, e, _, h, q => by cases e <;> simp_all [PyData.eqv, nb]
  | .str x, e, _, h, q => by cases e <;> simp_all [PyData.eqv, nb]
  | .bool _, _, h, _, _ => by simp [nb] at h
  | .dict _, _, h, _, _ => by simp [nb] at h
  | .list ds, e, h, g, q => by
    cases e with
    | list es =>
      rw [PyData.eqv] at q
      exact congrArg PyData.list (eqvs_nb ds es (by simpa [nb] using h) (by simpa [nb] using g) q)
    | _ => simp [PyData.eqv] at q
  | .tuple ds, e, h, g, q => by
    cases e with
    | tuple es =>
      rw [PyData.eqv] at q
      exact congrArg PyData.tuple (eqvs_nb ds es (by simpa [nb] using h) (by simpa [nb] using g) q)
    | _ => simp [PyData.eqv] at q
theorem eqvs_nb : ∀ ds es : List PyData, nbs ds = true → nbs es = true → PyData.eqvAll ds es = true → ds = es
  | [], [], _, _, _ => rfl
  | [], _ :: _, _, _, q => by simp [PyData.eqvAll] at q
  | _ :: _, [], _, _, q => by simp [PyData.eqvAll] at q
  | d :: ds, e :: es, h, g, q => by
    simp only [nbs, Bool.and_eq_true] at h g
    simp only [PyData.eqvAll, Bool.and_eq_true] at q
    rw [eqv_nb d e h.1 g.1 q.1, eqvs_nb ds es h.2 g.2 q.2]
end
structure Ly (n : Nat) (d : PyData) : Prop where
  can : d.canLay0 = true
  dep : d.depth ≤ n
  no : nb d = true
theorem Ly.non {n : Nat} : Ly n .none := ⟨by simp [PyData.canLay0], by simp [PyData.depth], by simp [nb]⟩
theorem Ly.int {n : Nat} {i : Int} : Ly n (.int i) := ⟨by simp [PyData.canLay0], by simp [PyData.depth], by simp [nb]⟩
theorem Ly.str {n : Nat} {x : Str} (h : (PyData.str x).canLay0 = true := by decide +kernel) : Ly n (.str x) := ⟨h, by simp [PyData.depth], by simp [nb]⟩
theorem Ly.mono {n m : Nat} {d : PyData} (a : Ly n d) (h : n ≤ m) : Ly m d := ⟨a.can, Nat.le_trans a.dep h, a.no⟩
theorem can_all : ∀ {ds : List PyData}, (∀ d ∈ ds, d.canLay0 = true) → PyData.canLayAll0 ds = true
  | [], _ => by simp [PyData.canLayAll0]
  | d :: ds, h => by simp [PyData.canLayAll0, h d List.mem_cons_self, can_all (ds := ds) fun x hx => h x (List.mem_cons_of_mem _ hx)]
theorem dep_all {n : Nat} : ∀ {ds : List PyData}, (∀ d ∈ ds, d.depth ≤ n) → PyData.depthAll ds ≤ n
  | [], _ => by simp [PyData.depthAll]
  | d :: ds, h => by
    have h1 := h d List.mem_cons_self
    have h2 := dep_all (ds := ds) fun x hx => h x (List.mem_cons_of_mem _ hx)
    simp only [PyData.depthAll]
    omega
theorem Ly.lst {n : Nat} {ds : List PyData} (h : ∀ d ∈ ds, Ly n d) : Ly (n + 1) (.list ds) :=
  ⟨by simp only [PyData.canLay0]; exact can_all fun d hd => (h d hd).can, by simp only [PyData.depth]; have := dep_all fun d hd => (h d hd).dep; omega, by simp only [nb]; exact nbs_of fun d hd => (h d hd).no⟩
theorem Ly.tup {n : Nat} {ds : List PyData} (h : ∀ d ∈ ds, Ly n d) : Ly (n + 1) (.tuple ds) :=
  ⟨by simp only [PyData.canLay0]; exact can_all fun d hd => (h d hd).can, by simp only [PyData.depth]; have := dep_all fun d hd => (h d hd).dep; omega, by simp only [nb]; exact nbs_of fun d hd => (h d hd).no⟩
theorem Ly.tupI {ns : List Int} : Ly 1 (.tuple (ns.map PyData.int)) := .tup fun d hd => by obtain ⟨i, _, rfl⟩ := List.mem_map.mp hd; exact .int
theorem Ly.lstI {ns : List Int} : Ly 1 (.list (ns.map PyData.int)) := .lst fun d hd => by obtain ⟨i, _, rfl⟩ := List.mem_map.mp hd; exact .int
theorem Ly.tup2 {n : Nat} {a b : PyData} (ha : Ly n a) (hb : Ly n b) : Ly (n + 1) (.tuple [a, b]) := .tup fun d hd => by
  rcases List.mem_cons.mp hd with rfl | hd
  · exact ha
  · cases List.mem_singleton.mp hd; exact hb
theorem Ly.sh {n : Nat} {d : PyData} (a : Ly n d) (h : n ≤ 64 := by decide) : SeqAt.shaped d = true := by
  show (d.canLay0 && decide (d.depth ≤ 64)) = true
  rw [a.can, decide_eq_true (Nat.le_trans a.dep h)] <;> rfl
theorem Ly.refl {n : Nat} {d : PyData} (a : Ly n d) (h : n ≤ 64 := by decide) : PyData.eqv d d = true := SeqAt.eqv_refl _ (SeqAt.canLay_of_shaped (a.sh h))
theorem Ly.eq {n m : Nat} {d e : PyData} (a : Ly n d) (b : Ly m e) (h : PyData.eqv d e = true) : d = e := eqv_nb d e a.no b.no h
theorem Ly.ne {n m : Nat} {d e : PyData} (a : Ly n d) (b : Ly m e) (h : d ≠ e) : PyData.eqv d e = false := by
  cases c : PyData.eqv d e with
  | false => rfl
  | true => exact absurd (a.eq b c) h
theorem dpAll_of {K : PySem.W.Frag} {H : Hp} : ∀ {xs : List V} {ds : List PyData}, xs.length = ds.length → (∀ (i : Nat) (x : V) (d : PyData), xs[i]? = some x → ds[i]? = some d → Dp K H x d) → DpAll K H xs ds
  | [], [], _, _ => .nil
  | [], _ :: _, h, _ => by simp at h
  | _ :: _, [], h, _ => by simp at h
  | x :: xs, d :: ds, h, q => .cons (q 0 x d rfl rfl) (dpAll_of (by simpa using h) fun i y e h1 h2 => q (i + 1) y e (by simpa using h1) (by simpa using h2))
theorem dp_tup2 {K : PySem.W.Frag} {H : Hp} {p : Addr} {x y : V} {a b : PyData} (h : SqT K H p [x, y]) (ha : Dp K H x a) (hb : Dp K H y b) : Dp K H (.ref p) (.tuple [a, b]) := .tup h (.cons ha (.cons hb .nil))
end Toy
/-! ### dicts by tuples: {t: v}, tuple(d), dict(rows) -/
namespace Toy
open PySem PySem.Spec PyProof.Rows L2
open Sem (wp)
theorem RoomG.u1 {k : Nat} {A : Around} (r : RoomG k A) : A.units + 1 < cLine := by have := r.units; omega
theorem RoomG.u2 {k : Nat} {A : Around} (r : RoomG k A) : A.units + 2 < cLine := by have := r.units; omega
/-- a dict of one row, its key a tuple -/
def tDispT (tk tv : TE) : TE := fun σ H Q => ∀ p, H p = none → tk σ (upd H p (.dT [])) fun x H1 => tv σ H1 fun y H2 => ∃ (b : Addr) (k : List Key), x = .ref b ∧ H2 p = some (.dT []) ∧ H2 b = some (.tup (k.map kV)) ∧ Q (.ref p) (upd H2 p (.dT [(k, y)]))
def dispQ (p : Addr) (Q : VK) : List (V × V) → Hp → Prop
  | [(x, y)], H2 => ∃ (b : Addr) (k : List Key), x = .ref b ∧ H2 p = some (.dT []) ∧ H2 b = some (.tup (k.map kV)) ∧ Q (.ref p) (upd H2 p (.dT [(k, y)]))
  | _, _ => False
theorem pe_dispT {X : Cx} {pos : Pos} {k v : Expr} {tk tv : TE} (hu : X.A.units + 1 < cLine) (hk : PE X k tk) (hv : PE X v tv) : PE X (.Dict [some k] [v] pos) (tDispT tk tv) := by
  refine ⟨fun pins s σ H Q I q => ?_⟩
  have hn := I.hok.fresh (Nat.le_refl s.heap.objs.size)
  have I1 := I.laid (a := s.heap.objs.size) (o := .dT []) (h' := s.heap.push { cls := .type "dict", data := .dict #[] }) (t' := s.toks) (fun _ _ q => Heap.get?_push_of_some _ q) (Nat.le_refl _) (dt_empty s.heap I.big)
  have R := (pps_cons (pos := pos) hk hv pps_nil).run pins _ σ _ (dispQ s.heap.objs.size Q) I1 (q _ hn)
  have hsh := zip_pairTrees [some k] [v] X.env pos rfl rfl
  have hlen : (pairTrees [some k] [v] X.env pos).length ≤ 15 := by rw [pairTrees_length _ _ _ _ rfl rfl]; show 1 ≤ 15; decide
  have h0 : pairTrees [some k] [v] X.env pos ≠ [] := fun e => by
    have := pairTrees_length [some k] [v] X.env pos rfl rfl
    rw [e] at this
    cases this
  rw [arm_eval_Dict, hsh, dictDisplay_pairs _ h0 (by omega)]
  refine wpAny_bind (wpAny_standAt (wpAny_bind (wpAny_subDictH (knd := tupleKind (mixKind X.prog X.w)) (Q := fun d s' => wpAny (model X.prog X.w) X.A (pure (Value.ref d)) (EP X pins σ Q) X.xe s') (show (tupleKind (mixKind X.prog X.w)).room X.A from (by show X.A.units < cLine; omega)) hlen
    (wpAny_mono R (fun vs s1 h1 => ?_) fun _ _ e => e))))
  obtain ⟨ps, H2, I2, rel, qq⟩ := h1
  match ps, rel, qq with
  | [(x, y)], rel, qq =>
    obtain ⟨b, ky, rfl, e, eb, q2⟩ := qq
    cases rel with
    | @cons p1 p2 _ _ hr tl =>
      cases tl
      obtain ⟨u, w⟩ := p2
      obtain ⟨r1, r2⟩ := hr
      cases (show u = Value.ref b from r1)
      obtain ⟨z, hd, xs, r0, dd⟩ := dt_of I2.hok e
      cases r0
      refine ⟨[(ky, b, w)], ⟨rfl, rfl, key_of I2.hok eb, trivial⟩, dd, fun h' tk dd' hs => wpAny_pure ⟨.ref s.heap.objs.size, _, ?_, rfl, q2⟩⟩
      obtain ⟨o, es, ep, hq, h2, h3, h4, _, h5⟩ := dd'
      refine d_write I2 (by rw [e]; exact True.intro) hs ⟨o, hq⟩ ⟨by show 1 ≤ sizeLine; decide, hd, [(ky, b, w)], .cons ⟨rfl, ?_, r2⟩ .nil, o, es, ep, hq, h2, h3, h4, h5⟩
      rw [upd_ne (ne_of eb e (fun z => nomatch z))]
      exact eb
/-- the keys of a dict by tuples, as a tuple -/
theorem keysDT {X : Cx} {pins : List (Addr × Obj)} {σ : L2.St} {H : Hp} {s : Shared} {d : Addr} {kvs : List (List Key × V)} (I : Inv X pins σ H s) (hd : H d = some (.dT kvs)) : kvs.length ≤ sizeLine ∧ (d == sysModules) = false ∧
    ∃ (ks : List (List Key × Addr × Value)) (o : Obj) (es : Array DictEntry) (ep : Nat), KT H kvs ks ∧ s.heap.get? d = some o ∧ o.ExactDict ∧ o.data = .dict es ep ∧ es.toList = ks.map (entryOfKey (tupleKind (mixKind X.prog X.w))) := by
  obtain ⟨z, hs, ks, pr, o, es, ep, ho, hx, hdt, he, _⟩ := (show ObjOk X.prog X.w H s.heap d (.dT kvs) from I.hok d _ hd)
  exact ⟨z, hs, ks, o, es, ep, pr, ho, hx, hdt, he⟩
theorem accDT {X : Cx} {es : Array DictEntry} {ks : List (List Key × Addr × Value)} (he : es.toList = ks.map (entryOfKey (tupleKind (mixKind X.prog X.w)))) {acc : Array Value}
    (it : ItemsOf (fun i v => ∃ en : DictEntry, es[i]? = some en ∧ v = en.key) acc es.size) : acc.toList = (ks.map fun x => x.2.1).map Value.ref := by
  have l1 : es.size = ks.length := size_of_entries he
  have hl : acc.toList.length = ks.length := by rw [Array.length_toList, it.1]; exact l1
  refine List.ext_getElem? fun j => ?_
  rw [List.map_map, List.getElem?_map]
  cases hj : acc.toList[j]? with
  | none =>
    have h1 := List.getElem?_eq_none_iff.mp hj
    rw [List.getElem?_eq_none (by omega)] <;> rfl
  | some v =>
    obtain ⟨en, hen, hv⟩ := it.2 j v (by rw [← Array.getElem?_toList]; exact hj)
    have qe := entry_at he j
    rw [hen] at qe
    cases hb : ks[j]? with
    | none =>
      rw [hb] at qe
      exact nomatch (show some en = none from qe)
    | some b =>
      rw [hb] at qe
      rw [hv, Option.some.inj qe] <;> rfl
theorem code_tup_dT {X : Cx} {pins : List (Addr × Obj)} {σ : L2.St} {H : Hp} {s : Shared} (I : Inv X pins σ H s) {A : Around} {E : Value → Shared → Prop} (hh : A.handled = none) {d : Addr} {kvs : List (List Key × V)} (hd : H d = some (.dT kvs)) {Q₁ : Value → Shared → Prop}
    (q : ∀ s' T bs, Inv X pins σ (upd H T (.tup (bs.map V.ref))) s' → s'.TypeIs (.ref T) "tuple" → H T = none → IsKeys H kvs bs → Q₁ (.ref T) s') :
    codeAny (model X.prog X.w) A (.call (.builtin "tuple.__new__") ⟨[.type "tuple", .ref d], []⟩) (wants Q₁ E) s := by
  obtain ⟨z, hs, ks, o, es, ep, pr, ho, hx, hdt, he⟩ := keysDT I hd
  have l2 : kvs.length = ks.length := Paired.length pr
  have l1 : es.size = ks.length := size_of_entries he
  have hes : es.size ≤ sizeLine := by omega
  refine codeAny_of_tree ?_
  show wpAny _ A.in1 (do checkBuiltinCall "tuple.__new__" ⟨[.type "tuple", .ref d], []⟩; again (.builtin "tuple.__new__" ⟨[.type "tuple", .ref d], []⟩)) _ _ s
  refine wpAny_bind (wpAny_of_eq (F.newCall_tuple_1 _) (wpAny_pure ⟨plainId_quiet F.plain_tuple_new _, codeAny_builtin F.entry_tuple_new ?_⟩))
  rw [Around.under_plainId F.plain_tuple_new _]
  have hsub := sub_tuple_self
  have hinit := init_tuple_lookup
  have hmh := madeHere_tuple
  have hTI : s.TypeIs (.ref d) "dict" := ⟨o, ho, hx.1⟩
  have hh1 : A.in1.handled = none := hh
  wp_walk using wpAny_typeOf hTI, PySem.W.kdu_collect (A := A.in1) (kdl_raw hs hx hdt) hh1 ho hes
  intro h' tk acc kp it
  have ea := accDT he it
  have hsl : acc.toList.length ≤ sizeLine := by rw [ea, List.length_map, List.length_map]; omega
  show wpAny _ _ (Builtin.Tuple.tupleExact acc.toList.toArray >>= fun v => ret v) _ _ _
  unfold Builtin.Tuple.tupleExact
  refine wpAny_bind (wpAny_newObj_type ?_ (by show acc.toList.toArray.size ≤ sizeLine; simpa using hsl))
  refine wpAny_pure ?_
  have I' : Inv X pins σ H { s with heap := h', toks := tk } := I.kept (t' := tk) kp
  have hfr' : H h'.objs.size = none := I'.hok.fresh (Nat.le_refl _)
  have gT : (h'.push { cls := .type "tuple", data := .seq acc.toList.toArray }).get? h'.objs.size = some { cls := .type "tuple", data := .seq acc.toList.toArray } := Heap.get?_push_size _ rfl
  have rv : Vals ((ks.map fun x => x.2.1).map V.ref) acc.toList := by rw [ea]; exact vals_refs _
  have I2 : Inv X pins σ (upd H h'.objs.size (.tup ((ks.map fun x => x.2.1).map V.ref))) { s with heap := h'.push { cls := .type "tuple", data := .seq acc.toList.toArray }, toks := tk } :=
    I'.laid (t' := tk) (fun b u e => Heap.get?_push_of_some _ e) (Nat.le_refl _) ⟨by rw [rv.length]; exact hsl, acc.toList, rv, ⟨_, gT, rfl, _, rfl⟩⟩
  exact q _ _ _ I2 ⟨_, gT, rfl⟩ hfr' (isKeys_of pr)
def rTupDT : List V → Hp → VK → Prop := fun xs H Q => ∃ d kvs, xs = [V.ref d] ∧ H d = some (.dT kvs) ∧ ∀ T bs, H T = none → IsKeys H kvs bs → Q (.ref T) (upd H T (.tup (bs.map V.ref)))
theorem call_tup_dT {X : Cx} (hcalm : X.calm = true) : CallR X (.type "tuple") rTupDT := by
  intro pins s σ H xs us Q I r h
  obtain ⟨d, kvs, rfl, hd, q⟩ := h
  obtain ⟨u, rfl, rx⟩ := r.one
  cases rx
  have hh : X.A.in1.handled = none := show X.A.handled = none from I.ok.hd hcalm
  refine callType_codes (Q₁ := fun obj s₁ => s₁.TypeIs obj "tuple" ∧ EP X pins σ Q obj s₁) F.called_tuple (F.typeCall_tuple_1 _) F.entry_object_init
    (code_tup_dT I (A := X.A.in1) hh hd fun s' T bs I' hty hn hk => ⟨hty, .ref T, _, I', rfl, q T bs hn hk⟩) fun obj s₁ h₁ => ?_
  exact ⟨h₁.1, F.args_object_init_2 obj _, object_init_meets F.called_tuple.init.lookup F.called_tuple.made (by decide) X.prog X.w X.A.in1 _ s₁ ⟨h₁.1, rfl, h₁.2⟩⟩
/-- rows of a key tuple and a value -/
def RowsDT (H : Hp) (ps : List Addr) (rows : List (List Key × Addr × V)) : Prop := ps.length = rows.length ∧ ∀ (j : Nat) (p : Addr) (q : List Key × Addr × V), ps[j]? = some p → rows[j]? = some q → H p = some (.tup [.ref q.2.1, q.2.2]) ∧ H q.2.1 = some (.tup (q.1.map kV))
def putsK (acc : List (List Key × V)) (rows : List (List Key × Addr × V)) : List (List Key × V) := rows.foldl (fun acc q => putK acc q.1 q.2.2) acc
theorem putsK_len : ∀ (rows : List (List Key × Addr × V)) (acc : List (List Key × V)), (putsK acc rows).length ≤ acc.length + rows.length
  | [], acc => by show acc.length ≤ acc.length + 0; omega
  | q :: rows, acc => by
    have h1 := putsK_len rows (putK acc q.1 q.2.2)
    have h2 := length_putK acc q.1 q.2.2
    show (putsK (putK acc q.1 q.2.2) rows).length ≤ _
    rw [List.length_cons]
    omega
abbrev RV : List (List Key × Addr × V) → List (List Key × Addr × Value) → Prop := Paired fun q p => p.1 = q.1 ∧ p.2.1 = q.2.1 ∧ RelV q.2.2 p.2.2
theorem rows_vals {X : Cx} {pins : List (Addr × Obj)} {σ : L2.St} {H : Hp} {s : Shared} (I : Inv X pins σ H s) : ∀ {ps : List Addr} {rows : List (List Key × Addr × V)}, RowsDT H ps rows →
    ∃ prs : List (List Key × Addr × Value), RV rows prs ∧ ∀ (j : Nat) (q : List Key × Addr × Value), prs[j]? = some q → ∃ b : Addr, ps[j]? = some b ∧ IsTup s.heap b #[.ref q.2.1, q.2.2]
  | [], [], _ => ⟨[], .nil, fun j q h => by simp at h⟩
  | [], _ :: _, h => by simp [RowsDT] at h
  | _ :: _, [], h => by simp [RowsDT] at h
  | p :: ps, q :: rows, h => by
    obtain ⟨prs, r, hp⟩ := rows_vals I (ps := ps) (rows := rows) ⟨by simpa using h.1, fun j a b e1 e2 => h.2 (j + 1) a b (by simpa using e1) (by simpa using e2)⟩
    obtain ⟨h1, _⟩ := h.2 0 p q rfl rfl
    obtain ⟨its, rv, ht, _⟩ := I.tuple (SqT.of (K := X.K) h1)
    obtain ⟨u, y, ei, ru, ry⟩ := vals2 rv
    subst ei
    cases (show u = Value.ref q.2.1 from ru)
    refine ⟨(q.1, q.2.1, y) :: prs, .cons ⟨rfl, rfl, ry⟩ r, fun j z e => ?_⟩
    cases j with
    | zero => cases (Option.some.inj e); exact ⟨p, rfl, ht⟩
    | succ j => exact hp j z (by simpa using e)
theorem kt_puts {H : Hp} {rows : List (List Key × Addr × V)} {prs : List (List Key × Addr × Value)} {acc : List (List Key × V)} {xs : List (List Key × Addr × Value)} (r : RV rows prs) (hk : ∀ q ∈ rows, H q.2.1 = some (.tup (q.1.map kV))) (k : KT H acc xs) : KT H (putsK acc rows) (storedAllH xs prs) := by
  unfold RV at r
  induction r generalizing acc xs with
  | nil => exact k
  | @cons q p qs ps' h t ih =>
    obtain ⟨h1, h2, h3⟩ := h
    refine ih (acc := putK acc q.1 q.2.2) (xs := storedH xs p.1 p.2.1 p.2.2) (fun z hz => hk z (List.mem_cons_of_mem _ hz)) ?_
    rw [h1, h2]
    exact k.put q.1 (hk q List.mem_cons_self) h3
theorem call_dictPT {X : Cx} (hcalm : X.calm = true) (hu : X.A.units + 2 < cLine) : CallR X (.type "dict") (fun xs H Q => ∃ (a : Addr) (ps : List Addr) (rows : List (List Key × Addr × V)), xs = [.ref a] ∧ H a = some (.lst (ps.map V.ref)) ∧ RowsDT H ps rows ∧
    ∀ p, H p = none → Q (.ref p) (upd H p (.dT (putsK [] rows)))) := by
  intro pins s σ H xs us Q I r h
  obtain ⟨a, ps, rows, rfl, ha, hr, q⟩ := h
  obtain ⟨u, rfl, rx⟩ := r.one
  cases rx
  obtain ⟨its, rv, pl, hz⟩ := I.list (SqL.of (K := X.K) ha)
  have ei := L2.refs_at rv
  subst ei
  rw [List.length_map] at hz
  obtain ⟨prs, rel, hpr⟩ := rows_vals I hr
  have hl : prs.length = ps.length := by rw [← Paired.length rel, hr.1]
  obtain ⟨o, n, ho, hc, hd, hdat⟩ := pl
  have tupk : ∀ q ∈ rows, H q.2.1 = some (.tup (q.1.map kV)) := fun q hq => by
    obtain ⟨j, hj, rfl⟩ := List.getElem_of_mem hq
    exact (hr.2 j (ps[j]'(by rw [hr.1]; exact hj)) _ (List.getElem?_eq_getElem _) (List.getElem?_eq_getElem hj)).2
  have keyp : ∀ p ∈ prs, IsTupleKey (mixKind X.prog X.w) s.heap p.1 p.2.1 := by
    have : ∀ {rows : List (List Key × Addr × V)} {prs : List (List Key × Addr × Value)}, RV rows prs → (∀ q ∈ rows, H q.2.1 = some (.tup (q.1.map kV))) → ∀ p ∈ prs, IsTupleKey (mixKind X.prog X.w) s.heap p.1 p.2.1 := by
      intro rows prs r
      induction r with
      | nil => intro _ p hp; exact absurd hp List.not_mem_nil
      | @cons q p qs ps' h t ih =>
        intro hk z hz
        rcases List.mem_cons.mp hz with rfl | hz
        · rw [h.1, h.2.1]
          exact key_of I.hok (hk q List.mem_cons_self)
        · exact ih (fun y hy => hk y (List.mem_cons_of_mem _ hy)) z hz
    exact this rel tupk
  refine call_dict_pairsH (knd := tupleKind (mixKind X.prog X.w)) (ps := prs) (PairArg.list a (ps.map Value.ref).toArray (fun j => ps.getD j 0) (prs.map fun q => (.ref q.2.1, q.2.2))) (I.ok.hd hcalm) (show X.A.units + 1 + 1 < cLine by omega)
    ⟨⟨o, n, ho, hc, hd, hdat⟩, ?_, ?_⟩ ⟨?_, ?_⟩ ?_ (by rw [List.length_map, hl]; exact hz) fun h' tk hd' k => ?_
  · simp [hl]
  · intro j k v e
    rw [List.getElem?_map] at e
    obtain ⟨z, hz2, e2⟩ := Option.map_eq_some_iff.mp e
    cases e2
    obtain ⟨b, e1, ht⟩ := hpr j z hz2
    have ej : ps.getD j 0 = b := by rw [List.getD_eq_getElem?_getD, e1] <;> rfl
    show _ = some (Value.ref (ps.getD j 0)) ∧ PairAt s.heap (ps.getD j 0) _ _
    rw [ej]
    exact ⟨by simp [e1], .inl ht⟩
  · rw [List.length_map]
  · intro i key v e
    have e' : (prs.map fun q => ((Value.ref q.2.1, q.2.2) : Value × Value))[i]? = some (key, v) := e
    rw [List.getElem?_map] at e'
    obtain ⟨z, hz2, e2⟩ := Option.map_eq_some_iff.mp e'
    cases e2
    exact ⟨z.1, z.2.1, hz2, rfl⟩
  · intro h' hk x hx
    obtain ⟨ob, its2, n2, ho2, r2⟩ := keyp x hx
    exact ⟨ob, its2, n2, hk _ _ (Nat.ne_of_lt (Heap.lt_size ho2)) (by simp) ho2, r2⟩
  · have hm : (s.heap.objs.size == sysModules) = false := beq_eq_false_iff_ne.mpr (Nat.ne_of_gt I.big)
    have hn := I.hok.fresh (Nat.le_refl s.heap.objs.size)
    refine ⟨.ref s.heap.objs.size, upd H s.heap.objs.size (.dT (putsK [] rows)), I.laid (t' := tk) (fun b o e => k b o (by simp) e) (Nat.le_refl _) (show ObjOk X.prog X.w _ _ _ (.dT (putsK [] rows)) from ⟨?_, hm, storedAllH [] prs, ?_, ?_⟩), rfl, q _ hn⟩
    · have := putsK_len rows []
      rw [List.length_nil, Nat.zero_add, ← hr.1] at this
      omega
    · exact (kt_puts rel tupk .nil).keeps fun b ys e => by rw [upd_ne (ne_of_none e hn)]; exact e
    · obtain ⟨o, es, ep, hq, h2, h3, h4, _, h5⟩ := hd'
      exact ⟨o, es, ep, hq, h2, h3, h4, h5⟩
end Toy
/-! ### tuples: t + u and t[a:b] of any kind -/
namespace Toy
open PySem PySem.Spec PyProof.Rows L2
def rCatU : R2 := fun x y H Q => ∃ a b xs ys, x = .ref a ∧ y = .ref b ∧ H a = some (.tup xs) ∧ H b = some (.tup ys) ∧ xs.length + ys.length ≤ sizeLine ∧ ∀ p H', Same H H' → H' p = some (.tup (xs ++ ys)) → Q (.ref p) H'
theorem op_catU {X : Cx} : OpR X (binaryOp .Add) rCatU := by
  intro pins s σ H x y v u Q I rx ry h
  obtain ⟨a, b, xs, ys, rfl, rfl, ha, hb, hz, q⟩ := h
  refine op_catA pins s σ H _ _ v u Q I rx ry ⟨a, b, xs, ys, rfl, rfl, SqT.of ha, SqT.of hb, hz, fun e => ?_, fun _ e => ?_, fun _ _ p hp => q p _ (same_new hp _) upd_same⟩
  · subst e
    exact q b H (fun _ _ z => z) (by rw [hb, List.nil_append])
  · subst e
    exact q a H (fun _ _ z => z) (by rw [ha, List.append_nil])
def rSlU : V → Option Int → Option Int → Hp → VK → Prop := fun x lo hi H Q => ∃ a xs, x = .ref a ∧ H a = some (.tup xs) ∧ ∀ p H', Same H H' → H' p = some (.tup (cutV xs lo hi)) → Q (.ref p) H'
theorem sl_tupU {X : Cx} : SlR X rSlU := by
  intro pins s σ H x v vl vu lo hi sl Q I rx hs pl pu h
  obtain ⟨a, xs, rfl, ha, q⟩ := h
  refine sl_tupA pins s σ H _ v vl vu lo hi sl Q I rx hs pl pu ⟨a, xs, rfl, SqT.of ha, fun e => ?_, fun _ p hp => q p _ (same_new hp _) upd_same⟩
  refine q a H (fun _ _ z => z) ?_
  rw [ha]
  have : cutV xs lo hi = xs := by
    unfold cutV
    rw [e.1, e.2, List.drop_zero, Nat.sub_zero, List.take_length]
  rw [this]
end Toy
/-! ### range(n) as a thing, x not in it -/
namespace Toy
open PySem PySem.Spec PyProof.Rows L2
def rRg1 : List V → Hp → VK → Prop := fun vs H Q => ∃ j, vs = [V.int j] ∧ ∀ p, H p = none → Q (.ref p) (upd H p (.rng 0 j))
theorem cr_rg1 {X : Cx} : CallR X (.type "range") rRg1 := by
  intro pins s σ H vs us Q I r h
  obtain ⟨j, rfl, q⟩ := h
  obtain ⟨u1, rfl, ri⟩ := vals1 r
  obtain ⟨t, rfl⟩ := ri
  refine call_range_1 ⟨.ref s.heap.objs.size, upd H s.heap.objs.size (.rng 0 j), I.laid (fun b o e => Heap.get?_push_of_some _ e) (Nat.le_refl _) ?_, rfl, q _ (I.hok.fresh (Nat.le_refl _))⟩
  exact ⟨_, _, _, Heap.get?_push_size _ rfl⟩
def rNotRg : R2 := fun x y H Q => ∃ i a lo hi, x = V.int i ∧ y = V.ref a ∧ H a = some (.rng lo hi) ∧ Q (.bl (!decide (lo ≤ i ∧ i < hi))) H
theorem op_notin_rg {X : Cx} : OpR X (compareOp .NotIn) rNotRg := by
  intro pins s σ H x y v u Q I rx ry h
  obtain ⟨i, a, lo, hi, rfl, rfl, ha, q⟩ := h
  obtain ⟨k, rfl⟩ := rx
  obtain rfl : u = Value.ref a := ry
  obtain ⟨t1, t2, t3, ho⟩ := I.hok a _ ha
  show wpAny _ _ (do return Value.bool (!(← contains (Value.ref a) (Value.int i k)))) _ _ s
  refine wpAny_bind (wpAny_contains_slot (T := "range") ⟨_, ho, rfl⟩ F.slot_range_contains (call_meets F.slot_range_contains ⟨_, ho, rfl⟩ F.entry_range_contains (F.args_range_contains_2 _ _) (q_contains a lo hi i t1 t2 t3 k)
    ⟨ho, wpAny_truthy_bool (wpAny_pure ⟨.bl _, H, I, rfl, ?_⟩)⟩))
  rw [place1]
  exact q
/-! ### things of any kind: numbers, truths, None, texts, tuples, lists, dicts with ints as keys -/
mutual
def wt : PyData → Nat
  | .none => 5
  | .bool _ => 5
  | .int _ => 1921
  | .str x => (reprText x).length + 1
  | .list xs => wts xs + 4
  | .tuple xs => wts xs + 4
  | .dict kvs => wtk kvs + 4
def wts : List PyData → Nat
  | [] => 0
  | x :: xs => wt x + 4 + wts xs
def wtk : List (PyData × PyData) → Nat
  | [] => 0
  | (k, v) :: r => wt k + wt v + 8 + wtk r
end
theorem dicT_len (ts : List Str) : (dictText ts).length ≤ piled ts + 4 := by
  unfold dictText
  rw [strLen_append, strLen_append]
  have e1 : ((("{" : String) : Str)).length = 1 := rfl
  have e3 : ((("}" : String) : Str)).length = 1 := rfl
  by_cases h : ts = []
  · subst h; decide +kernel
  · have := join_length_add ts h; omega
mutual
theorem shown_wt : ∀ d : PyData, d.showable = true → d.shown.length ≤ wt d
  | .none, _ => by show (("None" : String) : Str).length ≤ 5; decide +kernel
  | .bool b, _ => by cases b <;> (show _ ≤ 5; decide +kernel)
  | .int i, h => PyProof.Rows.int_text_len_1921 (of_decide_eq_true (by simpa [PyData.showable] using h))
  | .str x, _ => Nat.le_succ _
  | .list ds, h => by
    have h1 := showns_wt ds (by simpa [PyData.showable] using h)
    have h2 := lstT_len (PyData.shownAll ds)
    show (listText (PyData.shownAll ds)).length ≤ wts ds + 4
    omega
  | .tuple ds, h => by
    have h1 := showns_wt ds (by simpa [PyData.showable] using h)
    have h2 := tupT_len (PyData.shownAll ds)
    show (tupleText (PyData.shownAll ds)).length ≤ wts ds + 4
    omega
  | .dict kvs, h => by
    have h1 := shownk_wt kvs (by simpa [PyData.showable] using h)
    have h2 := dicT_len (PyData.shownKv kvs)
    show (dictText (PyData.shownKv kvs)).length ≤ wtk kvs + 4
    omega
theorem showns_wt : ∀ ds : List PyData, PyData.showableAll ds = true → piled (PyData.shownAll ds) ≤ wts ds
  | [], _ => Nat.le_refl _
  | d :: ds, h => by
    have h1 := shown_wt d (by simp [PyData.showableAll] at h; exact h.1)
    have h2 := showns_wt ds (by simp [PyData.showableAll] at h; exact h.2)
    show piled (d.shown :: PyData.shownAll ds) ≤ _
    rw [piled_cons]
    show _ ≤ wt d + 4 + wts ds
    omega
theorem shownk_wt : ∀ kvs : List (PyData × PyData), PyData.showableKv kvs = true → piled (PyData.shownKv kvs) ≤ wtk kvs
  | [], _ => Nat.le_refl _
  | (k, v) :: r, h => by
    have h0 : (k.showable = true ∧ v.showable = true) ∧ PyData.showableKv r = true := by simpa [PyData.showableKv] using h
    have h1 := shown_wt k h0.1.1
    have h2 := shown_wt v h0.1.2
    have h3 := shownk_wt r h0.2
    show piled ((k.shown ++ ": " ++ v.shown) :: PyData.shownKv r) ≤ _
    rw [piled_cons, strLen_append, strLen_append]
    have e : (((": " : String) : Str)).length = 2 := rfl
    show _ ≤ wt k + wt v + 8 + wtk r
    omega
end
theorem shown_wz {d : PyData} (h : d.showable = true) (c : wt d ≤ 10000000) : d.shown.length ≤ sizeLine := Nat.le_trans (shown_wt d h) (Nat.le_trans c (by decide))
/-- a thing: d stands at v; the list p is no part of it -/
inductive Th (K : PySem.W.Frag) (p : Addr) (H : Hp) : V → PyData → Prop
  | non : Th K p H .non .none
  | bl (b : Bool) : Th K p H (.bl b) (.bool b)
  | int (i : Int) : Th K p H (.int i) (.int i)
  | str (x : Str) : Th K p H (.str x) (.str x)
  | tup {a : Addr} {tr : List (V × PyData)} : H a = some (.tup (tr.map fun t => t.1)) → (∀ t ∈ tr, Th K p H t.1 t.2) → Th K p H (.ref a) (.tuple (tr.map fun t => t.2))
  | lst {a : Addr} {tr : List (V × PyData)} : a ≠ p → a ≠ sysModules → H a = some (.lst (tr.map fun t => t.1)) → (∀ t ∈ tr, Th K p H t.1 t.2) → Th K p H (.ref a) (.list (tr.map fun t => t.2))
  | dct {a : Addr} {tr : List (Int × V × PyData)} : H a = some (.dK (tr.map fun t => (Sum.inl t.1, t.2.1))) → (∀ t ∈ tr, Th K p H t.2.1 t.2.2) → Th K p H (.ref a) (.dict (tr.map fun t => (.int t.1, t.2.2)))
theorem Th.same {K : PySem.W.Frag} {p : Addr} {H H' : Hp} {v : V} {d : PyData} (h : Th K p H v d) (e : Same H H') : Th K p H' v d := by
  induction h with
  | non => exact .non
  | bl b => exact .bl b
  | int i => exact .int i
  | str x => exact .str x
  | tup h1 _ ih => exact .tup (e _ _ h1) ih
  | lst n1 n2 h1 _ ih => exact .lst n1 n2 (e _ _ h1) ih
  | dct h1 _ ih => exact .dct (e _ _ h1) ih
theorem Th.but {K : PySem.W.Frag} {p : Addr} {H H' : Hp} {v : V} {d : PyData} {ys : List V} (h : Th K p H v d) (e : But p H H') (hp : H p = some (.lst ys)) : Th K p H' v d := by
  induction h with
  | non => exact .non
  | bl b => exact .bl b
  | int i => exact .int i
  | str x => exact .str x
  | tup h1 _ ih => exact .tup (e _ _ (ne_of h1 hp (by intro z; cases z)) h1) ih
  | lst n1 n2 h1 _ ih => exact .lst n1 n2 (e _ _ n1 h1) ih
  | dct h1 _ ih => exact .dct (e _ _ (ne_of h1 hp (by intro z; cases z)) h1) ih
/-- the kind of a thing -/
def tyD : PyData → String
  | .none => "NoneType"
  | .bool _ => "bool"
  | .int _ => "int"
  | .str _ => "str"
  | .list _ => "list"
  | .tuple _ => "tuple"
  | .dict _ => "dict"
def isTu : PyData → Bool
  | .tuple _ => true
  | _ => false
def isIn : PyData → Bool
  | .int _ => true
  | .bool _ => true
  | _ => false
def isBl : PyData → Bool
  | .bool _ => true
  | _ => false
def isSt : PyData → Bool
  | .str _ => true
  | _ => false
/-- a whole number -/
def isWh : PyData → Bool
  | .int _ => true
  | _ => false
theorem isWh_eq (d : PyData) : isWh d = (isIn d && !isBl d) := by cases d <;> rfl
theorem Th.ty {K : PySem.W.Frag} {p : Addr} {H : Hp} {v : V} {d : PyData} (h : Th K p H v d) : TyX K H v (.type (tyD d)) := by
  cases h with
  | non => exact .base .non
  | bl b => exact .base (.bl b)
  | int i => exact .base (.int i)
  | str x => exact .base (.str x)
  | tup h1 _ => exact .base (.tup h1)
  | lst _ _ h1 _ => exact .base (.lst h1)
  | dct h1 _ => exact .base (.dK h1)
theorem kit_tu {K : PySem.W.Frag} : ∀ d : PyData, PySem.W.kitOne K (.type (tyD d)) (.type "tuple") = some (isTu d)
  | .none => (kit_ty (by decide +kernel) : PySem.W.kitOne K (.type "NoneType") (.type "tuple") = some false)
  | .bool _ => (kit_ty (by decide +kernel) : PySem.W.kitOne K (.type "bool") (.type "tuple") = some false)
  | .int _ => (kit_ty (by decide +kernel) : PySem.W.kitOne K (.type "int") (.type "tuple") = some false)
  | .str _ => (kit_ty (by decide +kernel) : PySem.W.kitOne K (.type "str") (.type "tuple") = some false)
  | .list _ => (kit_ty (by decide +kernel) : PySem.W.kitOne K (.type "list") (.type "tuple") = some false)
  | .tuple _ => (kit_ty (by decide +kernel) : PySem.W.kitOne K (.type "tuple") (.type "tuple") = some true)
  | .dict _ => (kit_ty (by decide +kernel) : PySem.W.kitOne K (.type "dict") (.type "tuple") = some false)
theorem kit_in {K : PySem.W.Frag} : ∀ d : PyData, PySem.W.kitOne K (.type (tyD d)) (.type "int") = some (isIn d)
  | .none => (kit_ty (by decide +kernel) : PySem.W.kitOne K (.type "NoneType") (.type "int") = some false)
  | .bool _ => (kit_ty (by decide +kernel) : PySem.W.kitOne K (.type "bool") (.type "int") = some true)
  | .int _ => (kit_ty (by decide +kernel) : PySem.W.kitOne K (.type "int") (.type "int") = some true)
  | .str _ => (kit_ty (by decide +kernel) : PySem.W.kitOne K (.type "str") (.type "int") = some false)
  | .list _ => (kit_ty (by decide +kernel) : PySem.W.kitOne K (.type "list") (.type "int") = some false)
  | .tuple _ => (kit_ty (by decide +kernel) : PySem.W.kitOne K (.type "tuple") (.type "int") = some false)
  | .dict _ => (kit_ty (by decide +kernel) : PySem.W.kitOne K (.type "dict") (.type "int") = some false)
theorem kit_bl {K : PySem.W.Frag} : ∀ d : PyData, PySem.W.kitOne K (.type (tyD d)) (.type "bool") = some (isBl d)
  | .none => (kit_ty (by decide +kernel) : PySem.W.kitOne K (.type "NoneType") (.type "bool") = some false)
  | .bool _ => (kit_ty (by decide +kernel) : PySem.W.kitOne K (.type "bool") (.type "bool") = some true)
  | .int _ => (kit_ty (by decide +kernel) : PySem.W.kitOne K (.type "int") (.type "bool") = some false)
  | .str _ => (kit_ty (by decide +kernel) : PySem.W.kitOne K (.type "str") (.type "bool") = some false)
  | .list _ => (kit_ty (by decide +kernel) : PySem.W.kitOne K (.type "list") (.type "bool") = some false)
  | .tuple _ => (kit_ty (by decide +kernel) : PySem.W.kitOne K (.type "tuple") (.type "bool") = some false)
  | .dict _ => (kit_ty (by decide +kernel) : PySem.W.kitOne K (.type "dict") (.type "bool") = some false)
theorem kit_st {K : PySem.W.Frag} : ∀ d : PyData, PySem.W.kitOne K (.type (tyD d)) (.type "str") = some (isSt d)
  | .none => (kit_ty (by decide +kernel) : PySem.W.kitOne K (.type "NoneType") (.type "str") = some false)
  | .bool _ => (kit_ty (by decide +kernel) : PySem.W.kitOne K (.type "bool") (.type "str") = some false)
  | .int _ => (kit_ty (by decide +kernel) : PySem.W.kitOne K (.type "int") (.type "str") = some false)
  | .str _ => (kit_ty (by decide +kernel) : PySem.W.kitOne K (.type "str") (.type "str") = some true)
  | .list _ => (kit_ty (by decide +kernel) : PySem.W.kitOne K (.type "list") (.type "str") = some false)
  | .tuple _ => (kit_ty (by decide +kernel) : PySem.W.kitOne K (.type "tuple") (.type "str") = some false)
  | .dict _ => (kit_ty (by decide +kernel) : PySem.W.kitOne K (.type "dict") (.type "str") = some false)
theorem Th.tup_inv {K : PySem.W.Frag} {p : Addr} {H : Hp} {v : V} {ds : List PyData} (h : Th K p H v (.tuple ds)) : ∃ (a : Addr) (tr : List (V × PyData)), v = .ref a ∧ ds = (tr.map fun t => t.2) ∧ H a = some (.tup (tr.map fun t => t.1)) ∧ ∀ t ∈ tr, Th K p H t.1 t.2 := by
  cases h with
  | @tup a tr h1 h2 => exact ⟨a, tr, rfl, rfl, h1, h2⟩
theorem Th.int_inv {K : PySem.W.Frag} {p : Addr} {H : Hp} {v : V} {i : Int} (h : Th K p H v (.int i)) : v = .int i := by cases h; rfl
theorem isTu_inv {d : PyData} (h : isTu d = true) : ∃ ds, d = .tuple ds := by cases d <;> first | exact ⟨_, rfl⟩ | cases h
theorem isWh_inv {d : PyData} (h : isWh d = true) : ∃ i, d = .int i := by cases d <;> first | exact ⟨_, rfl⟩ | cases h
/-! a thing, shown -/
theorem reads_all {h : Heap} : ∀ {tr : List (V × PyData)} {us : List Value}, Vals (tr.map fun t => t.1) us → (∀ t ∈ tr, ∀ u, RelV t.1 u → ∃ as, Reads h u t.2 as ∧ sysModules ∉ as) → ∃ as, ReadsAll h us (tr.map fun t => t.2) as ∧ sysModules ∉ as
  | [], _, .nil, _ => ⟨_, .nil, List.not_mem_nil⟩
  | t :: tr, _, .cons r rs, ih => by
    obtain ⟨as, h1, h2⟩ := ih t List.mem_cons_self _ r
    obtain ⟨bs, h3, h4⟩ := reads_all rs fun x hx => ih x (List.mem_cons_of_mem _ hx)
    exact ⟨_, .cons h1 h3, fun z => (List.mem_append.mp z).elim h2 h4⟩
theorem reads_dct {P : Program} {w : World} {h : Heap} : ∀ {tr : List (Int × V × PyData)} {vs : List (Key × Value)} {es : List DictEntry}, KV (tr.map fun t => ((Sum.inl t.1 : Key), t.2.1)) vs → Pairs (mixKind P w) es vs → (∀ t ∈ tr, ∀ u, RelV t.2.1 u → ∃ as, Reads h u t.2.2 as ∧ sysModules ∉ as) →
    ∃ as bs, ReadsAll h (es.map fun e => e.key) (tr.map fun t => PyData.int t.1) as ∧ ReadsAll h (es.map fun e => e.val) (tr.map fun t => t.2.2) bs ∧ sysModules ∉ as ∧ sysModules ∉ bs
  | [], _, _, .nil, .nil, _ => ⟨_, _, .nil, .nil, List.not_mem_nil, List.not_mem_nil⟩
  | t :: tr, _, _, .cons k ks, .cons e1 e2 es, ih => by
    obtain ⟨as, h1, h2⟩ := ih t List.mem_cons_self _ k.2
    obtain ⟨cs, bs, h3, h4, h5, h6⟩ := reads_dct ks es fun x hx => ih x (List.mem_cons_of_mem _ hx)
    have e1' := e1
    rw [← k.1] at e1'
    have e3 : keyIs (Sum.inl t.1) _ = true := e1'
    rcases keyIs_shape e3 with ⟨i, tk, ei, ek⟩ | ⟨x, tk, ei, _⟩
    · cases ei
      rw [← e2] at h1
      exact ⟨[] ++ cs, as ++ bs, .cons (by show Reads h _ (.int t.1) []; dsimp only; rw [ek]; exact Reads.int t.1 tk) h3, .cons h1 h4, h5, fun z => (List.mem_append.mp z).elim h2 h6⟩
    · cases ei
theorem Th.reads {X : Cx} {pins : List (Addr × Obj)} {σ : L2.St} {p : Addr} {H : Hp} {s : Shared} (I : Inv X pins σ H s) {v : V} {d : PyData} (h : Th X.K p H v d) : ∀ u, RelV v u → ∃ as, Reads s.heap u d as ∧ sysModules ∉ as := by
  induction h with
  | non => intro u r; cases r; exact ⟨_, .none, List.not_mem_nil⟩
  | bl b => intro u r; cases r; exact ⟨_, .bool b, List.not_mem_nil⟩
  | int i => intro u r; obtain ⟨t, rfl⟩ := r; exact ⟨_, .int i t, List.not_mem_nil⟩
  | str x => intro u r; obtain ⟨t, rfl⟩ := r; exact ⟨_, .str x t, List.not_mem_nil⟩
  | @tup a tr h1 _ ih =>
    intro u r
    cases r
    obtain ⟨its, rv, ⟨o, ho, hc, n, hd⟩, _⟩ := I.tuple (SqT.of h1)
    obtain ⟨as, h2, h3⟩ := reads_all rv ih
    exact ⟨_, .tuple ho hc hd h2, h3⟩
  | @lst a tr n1 n2 h1 _ ih =>
    intro u r
    cases r
    obtain ⟨its, rv, ⟨o, n, ho, hc, _, hd⟩, _⟩ := I.list (SqL.of h1)
    obtain ⟨as, h2, h3⟩ := reads_all rv ih
    exact ⟨_, .list ho hc hd h2, fun z => (List.mem_cons.mp z).elim (fun q => n2 q.symm) h3⟩
  | @dct a tr h1 _ ih =>
    intro u r
    cases r
    obtain ⟨_, hs, vs, kv, o, es, ep, ho, hx, hd, _, pr, _⟩ := dk_of I.hok h1
    obtain ⟨as, bs, h2, h3, h4, h5⟩ := reads_dct kv pr ih
    refine ⟨a :: as ++ bs, .dict (kvs := tr.map fun t => (PyData.int t.1, t.2.2)) ho hx.1 hd (by rw [List.map_map]; exact h2) (by rw [List.map_map]; exact h3), fun z => ?_⟩
    rcases List.mem_append.mp z with z | z
    · rcases List.mem_cons.mp z with z | z
      · rw [← z] at hs; cases hs
      · exact h4 z
    · exact h5 z
def rReprO (K : PySem.W.Frag) : List V → Hp → VK → Prop := fun xs H Q => ∃ (x : V) (d : PyData) (p : Addr), xs = [x] ∧ Th K p H x d ∧ d.showable = true ∧ d.depth ≤ 60 ∧ d.shown.length ≤ sizeLine ∧ Q (.str d.shown) H
theorem reprO {X : Cx} {k : Nat} {K : PySem.W.Frag} (hr : RoomG k X.A) (eK : X.K = K := by rfl) : CallR X (.builtin "repr") (rReprO K) := by
  cases eK
  intro pins s σ H xs us Q I r h
  obtain ⟨x, d, p, rfl, hd, hs, hdep, hz, q⟩ := h
  obtain ⟨u, rfl, rx⟩ := vals1 r
  obtain ⟨as, rd, na⟩ := Th.reads I hd u rx
  have hu := hr.units
  cases hd with
  | non => cases rx; exact PySem.P.repr_of_none ⟨.str _, H, I.tok _, ⟨_, rfl⟩, q⟩
  | bl b => cases rx; exact PySem.P.repr_of_bool ⟨.str _, H, I.tok _, ⟨_, rfl⟩, q⟩
  | int i => obtain ⟨t, rfl⟩ := rx; exact PySem.P.repr_of_int (of_decide_eq_true (by simpa [PyData.showable] using hs)) ⟨.str _, H, I.tok _, ⟨_, rfl⟩, q⟩
  | str z => obtain ⟨t, rfl⟩ := rx; exact PySem.P.repr_of_str ⟨.str _, H, I.tok _, ⟨_, rfl⟩, q⟩ hz
  | tup _ _ =>
    cases rx
    exact repr_of_reads' rd hs (fun _ => na) hr.idle (by omega) (fun _ _ z => z) (fun h' u tk hk => ⟨.str _, H, I.kept hk, ⟨_, rfl⟩, q⟩) hz
  | lst _ _ _ _ =>
    cases rx
    exact repr_of_reads' rd hs (fun _ => na) hr.idle (by omega) (fun _ _ z => z) (fun h' u tk hk => ⟨.str _, H, I.kept hk, ⟨_, rfl⟩, q⟩) hz
  | dct _ _ =>
    cases rx
    exact repr_of_reads' rd hs (fun _ => na) hr.idle (by omega) (fun _ _ z => z) (fun h' u tk hk => ⟨.str _, H, I.kept hk, ⟨_, rfl⟩, q⟩) hz
/-! lists that may be parts of things -/
def tLstS (t : TA) : TE := fun σ H Q => t σ H fun xs H1 => xs.length ≤ sizeLine ∧ ∀ p, H1 p = none → p ≠ sysModules → Q (.ref p) (upd H1 p (.lst xs))
theorem pe_lstS {X : Cx} {es : List Expr} {t : TA} {pos : Pos} (h : PA X es t) : PE X (.List es pos) (tLstS t) := by
  refine ⟨fun pins s σ H Q I hq => ?_⟩
  refine wpAny_List_spliced (thn (h.run pos pins s σ H _ I hq) fun us s1 ⟨xs, H1, I1, r, z, q⟩ => ⟨by rw [← r.length]; exact z, ?_⟩)
  have hn : H1 s1.heap.objs.size = none := I1.hok.fresh (Nat.le_refl _)
  exact ⟨.ref s1.heap.objs.size, upd H1 s1.heap.objs.size (.lst xs), I1.laid (t' := s1.toks) (fun b u e => Heap.get?_push_of_some _ e) (Nat.le_refl _) ⟨z, us, 0, r, Heap.get?_push_size _ rfl⟩, rfl, q _ hn (Nat.ne_of_gt I1.big)⟩
def rLstOfS (K : PySem.W.Frag) : List V → Hp → VK → Prop := fun xs H Q => ∃ p ys, xs = [.ref p] ∧ (SqL K H p ys ∨ SqT K H p ys) ∧ ∀ l, H l = none → l ≠ sysModules → Q (.ref l) (upd H l (.lst ys))
theorem lstOfS {X : Cx} {K : PySem.W.Frag} (eK : X.K = K := by rfl) : CallR X (.type "list") (rLstOfS K) := by
  cases eK
  intro pins s σ H xs us Q I r h
  obtain ⟨p, ys, rfl, hq, q⟩ := h
  obtain ⟨u, rfl, rx⟩ := vals1 r
  cases rx
  have fin : ∀ (its : List Value), Vals ys its → ys.length ≤ sizeLine → ∀ (h' : Heap) (c' : Nat), (∀ b o', s.heap.get? b = some o' → h'.get? b = some o') →
      h'.get? s.heap.objs.size = some { cls := .type "list", dict := none, data := .seq its.toArray c', slots := #[] } → EP X pins σ Q (.ref s.heap.objs.size) { s with heap := h' } := fun its r' hz h' c' kp e =>
    ⟨.ref s.heap.objs.size, _, I.laid (t' := s.toks) kp (Nat.le_refl _) (show ObjOk X.prog X.w _ h' _ (.lst ys) from ⟨hz, its, c', r', e⟩), rfl, q _ (I.hok.fresh (Nat.le_refl _)) (Nat.ne_of_gt I.big)⟩
  rcases hq with hq | hq
  · obtain ⟨its, r', pl, hz⟩ := I.list hq
    have hlen := r'.length
    obtain ⟨o, ho, hc, n, hd⟩ := pl.isList
    exact call_list_seq p (.inl rfl) ho hc hd (fun h' c' kp e => fin its r' hz h' c' kp e) (by simp only [List.size_toArray] <;> omega)
  · obtain ⟨its, r', pl, hz⟩ := I.tuple hq
    have hlen := r'.length
    obtain ⟨o, ho, hc, n, hd⟩ := pl
    exact call_list_seq p (.inr rfl) ho hc hd (fun h' c' kp e => fin its r' hz h' c' kp e) (by simp only [List.size_toArray] <;> omega)
/-! ### lists of things beside [] (wants odd0) -/
def rNeNil (K : PySem.W.Frag) : R2 := fun x y H Q => ∃ a b ys, x = .ref a ∧ y = .ref b ∧ SqL K H a ys ∧ SqL K H b [] ∧ Q (.bl (!ys.isEmpty)) H
def rEqNil (K : PySem.W.Frag) : R2 := fun x y H Q => ∃ a b ys, x = .ref a ∧ y = .ref b ∧ SqL K H a ys ∧ SqL K H b [] ∧ Q (.bl ys.isEmpty) H
theorem op_neNil {X : Cx} {K : PySem.W.Frag} (hu : X.A.units + 64 < cLine) (eK : X.K = K := by rfl) : OpR X (compareOp .NotEq) (rNeNil K) := by
  cases eK
  intro pins s σ H x y v u Q I rx ry h
  obtain ⟨a, b, ys, rfl, rfl, ha, hb, q⟩ := h
  cases rx
  cases ry
  obtain ⟨its, rv, hl, _⟩ := I.list ha
  obtain ⟨its2, rv2, hl2, _⟩ := I.list hb
  cases rv2
  cases rv with
  | nil => exact SeqAt.RcNeAt.lists (e := fun _ => true) hl.isList hl2.isList rfl (by omega) (fun j h1 h2 => absurd h1 (Nat.not_lt_zero _)) _ _ _ _ ⟨.bl _, H, I, rfl, q⟩
  | cons r rs => exact SeqAt.RcNeAt.lists_lengths hl.isList hl2.isList (by simp) (by omega) _ _ _ _ ⟨.bl _, H, I, rfl, q⟩
theorem op_eqNil {X : Cx} {K : PySem.W.Frag} (hu : X.A.units + 64 < cLine) (eK : X.K = K := by rfl) : OpR X (compareOp .Eq) (rEqNil K) := by
  cases eK
  intro pins s σ H x y v u Q I rx ry h
  obtain ⟨a, b, ys, rfl, rfl, ha, hb, q⟩ := h
  cases rx
  cases ry
  obtain ⟨its, rv, hl, _⟩ := I.list ha
  obtain ⟨its2, rv2, hl2, _⟩ := I.list hb
  cases rv2
  cases rv with
  | nil => exact SeqAt.RcAt.lists (e := fun _ => true) hl.isList hl2.isList rfl (by omega) (fun j h1 h2 => absurd h1 (Nat.not_lt_zero _)) _ _ _ _ ⟨.bl _, H, I, rfl, q⟩
  | cons r rs => exact SeqAt.RcAt.lists_lengths hl.isList hl2.isList (by simp) (by omega) _ _ _ _ ⟨.bl _, H, I, rfl, q⟩
/-! sizes of things -/
mutual
/-- the greatest number in a thing, by its amount -/
def ib : PyData → Nat
  | .int i => i.natAbs
  | .list xs => ibs xs
  | .tuple xs => ibs xs
  | .dict kvs => ibk kvs
  | _ => 0
def ibs : List PyData → Nat
  | [] => 0
  | x :: xs => max (ib x) (ibs xs)
def ibk : List (PyData × PyData) → Nat
  | [] => 0
  | (k, v) :: r => max (max (ib k) (ib v)) (ibk r)
end
mutual
theorem ib_sh : ∀ d : PyData, ib d ≤ 10 ^ 100 → d.showable = true
  | .none, _ => rfl
  | .bool _, _ => rfl
  | .str _, _ => rfl
  | .int i, h => by
    have h : i.natAbs ≤ 10 ^ 100 := h
    have : i.natAbs.log2 < 1920 := log_lt (by decide) (Nat.lt_of_le_of_lt h (by decide))
    simpa [PyData.showable] using this
  | .list xs, h => ibs_sh xs h
  | .tuple xs, h => ibs_sh xs h
  | .dict kvs, h => ibk_sh kvs h
theorem ibs_sh : ∀ xs : List PyData, ibs xs ≤ 10 ^ 100 → PyData.showableAll xs = true
  | [], _ => rfl
  | x :: xs, h => by
    have h : max (ib x) (ibs xs) ≤ 10 ^ 100 := h
    have h1 := ib_sh x (Nat.le_trans (Nat.le_max_left _ _) h)
    have h2 := ibs_sh xs (Nat.le_trans (Nat.le_max_right _ _) h)
    simp only [PyData.showableAll, h1, h2, Bool.and_self]
theorem ibk_sh : ∀ kvs : List (PyData × PyData), ibk kvs ≤ 10 ^ 100 → PyData.showableKv kvs = true
  | [], _ => rfl
  | (k, v) :: r, h => by
    have h : max (max (ib k) (ib v)) (ibk r) ≤ 10 ^ 100 := h
    have h1 := ib_sh k (Nat.le_trans (Nat.le_trans (Nat.le_max_left _ _) (Nat.le_max_left _ _)) h)
    have h2 := ib_sh v (Nat.le_trans (Nat.le_trans (Nat.le_max_right _ _) (Nat.le_max_left _ _)) h)
    have h3 := ibk_sh r (Nat.le_trans (Nat.le_max_right _ _) h)
    simp only [PyData.showableKv, h1, h2, h3, Bool.and_self]
end
/-- depth, length when shown, greatest number -/
structure Wg (d : PyData) (n c b : Nat) : Prop where
  dep : d.depth ≤ n
  len : wt d ≤ c
  big : ib d ≤ b
theorem Wg.mono {d : PyData} {n c b n' c' b' : Nat} (w : Wg d n c b) (h1 : n ≤ n') (h2 : c ≤ c') (h3 : b ≤ b') : Wg d n' c' b' := ⟨Nat.le_trans w.dep h1, Nat.le_trans w.len h2, Nat.le_trans w.big h3⟩
structure Wgs (ds : List PyData) (n c b : Nat) : Prop where
  dep : PyData.depthAll ds ≤ n
  len : wts ds ≤ c
  big : ibs ds ≤ b
theorem Wgs.nil {n c b : Nat} : Wgs [] n c b := ⟨Nat.zero_le _, Nat.zero_le _, Nat.zero_le _⟩
theorem Wgs.cons {d : PyData} {ds : List PyData} {n c c' b : Nat} (h : Wg d n c b) (t : Wgs ds n c' b) : Wgs (d :: ds) n (c + 4 + c') b :=
  ⟨by show max d.depth (PyData.depthAll ds) ≤ n; have := h.dep; have := t.dep; omega, by show wt d + 4 + wts ds ≤ _; have := h.len; have := t.len; omega, by show max (ib d) (ibs ds) ≤ b; have := h.big; have := t.big; omega⟩
theorem wts_app : ∀ (xs ys : List PyData), wts (xs ++ ys) = wts xs + wts ys
  | [], ys => by show wts ys = 0 + wts ys; omega
  | x :: xs, ys => by show wt x + 4 + wts (xs ++ ys) = wt x + 4 + wts xs + wts ys; rw [wts_app xs ys]; omega
theorem ibs_app : ∀ (xs ys : List PyData), ibs (xs ++ ys) = max (ibs xs) (ibs ys)
  | [], ys => by show ibs ys = max 0 (ibs ys); omega
  | x :: xs, ys => by show max (ib x) (ibs (xs ++ ys)) = max (max (ib x) (ibs xs)) (ibs ys); rw [ibs_app xs ys]; omega
theorem dps_app : ∀ (xs ys : List PyData), PyData.depthAll (xs ++ ys) = max (PyData.depthAll xs) (PyData.depthAll ys)
  | [], ys => by show PyData.depthAll ys = max 0 _; omega
  | x :: xs, ys => by show max x.depth (PyData.depthAll (xs ++ ys)) = max (max x.depth (PyData.depthAll xs)) _; rw [dps_app xs ys]; omega
theorem Wgs.app {xs ys : List PyData} {n c c' b : Nat} (h : Wgs xs n c b) (t : Wgs ys n c' b) : Wgs (xs ++ ys) n (c + c') b :=
  ⟨by rw [dps_app]; have := h.dep; have := t.dep; omega, by rw [wts_app]; have := h.len; have := t.len; omega, by rw [ibs_app]; have := h.big; have := t.big; omega⟩
theorem Wgs.sub {xs ys : List PyData} {n c b : Nat} (h : Wgs (xs ++ ys) n c b) : Wgs xs n c b ∧ Wgs ys n c b := by
  have h1 := h.dep
  have h2 := h.len
  have h3 := h.big
  rw [dps_app] at h1
  rw [wts_app] at h2
  rw [ibs_app] at h3
  exact ⟨⟨by omega, by omega, by omega⟩, ⟨by omega, by omega, by omega⟩⟩
theorem Wgs.mono {ds : List PyData} {n c b n' c' b' : Nat} (w : Wgs ds n c b) (h1 : n ≤ n') (h2 : c ≤ c') (h3 : b ≤ b') : Wgs ds n' c' b' := ⟨Nat.le_trans w.dep h1, Nat.le_trans w.len h2, Nat.le_trans w.big h3⟩
theorem Wg.tup {ds : List PyData} {n c b : Nat} (h : Wgs ds n c b) : Wg (.tuple ds) (n + 1) (c + 4) b := ⟨by show PyData.depthAll ds + 1 ≤ n + 1; have := h.dep; omega, by show wts ds + 4 ≤ c + 4; have := h.len; omega, h.big⟩
theorem Wg.lst {ds : List PyData} {n c b : Nat} (h : Wgs ds n c b) : Wg (.list ds) (n + 1) (c + 4) b := ⟨by show PyData.depthAll ds + 1 ≤ n + 1; have := h.dep; omega, by show wts ds + 4 ≤ c + 4; have := h.len; omega, h.big⟩
theorem Wg.untup {ds : List PyData} {n c b : Nat} (h : Wg (.tuple ds) n c b) : Wgs ds (n - 1) (c - 4) b := ⟨by have : PyData.depthAll ds + 1 ≤ n := h.dep; omega, by have : wts ds + 4 ≤ c := h.len; omega, h.big⟩
theorem Wgs.mem {ds : List PyData} {n c b : Nat} (h : Wgs ds n c b) {d : PyData} (hd : d ∈ ds) : Wg d n c b := by
  obtain ⟨xs, ys, rfl⟩ := List.append_of_mem hd
  have h2 := (h.sub).2
  refine ⟨?_, ?_, ?_⟩
  · have : max d.depth (PyData.depthAll ys) ≤ n := h2.dep
    omega
  · have : wt d + 4 + wts ys ≤ c := h2.len
    omega
  · have : max (ib d) (ibs ys) ≤ b := h2.big
    omega
theorem Wg.shw {d : PyData} {n c b : Nat} (w : Wg d n c b) (hb : b ≤ 10 ^ 100 := by decide) : d.showable = true := ib_sh d (Nat.le_trans w.big hb)
theorem Wg.sz {d : PyData} {n c b : Nat} (w : Wg d n c b) (hb : b ≤ 10 ^ 100 := by decide) (hc : c ≤ 10000000 := by decide) : d.shown.length ≤ sizeLine := shown_wz (w.shw hb) (Nat.le_trans w.len hc)
theorem ofS_cps (s : String) : ∀ c ∈ (Str.ofString s).cps.toList, c < 16 ^ 8 := by
  intro c hc
  rw [Str.ofString_eq_toList] at hc
  have hc : c ∈ s.toList.map Char.toNat := by simpa using hc
  obtain ⟨ch, _, rfl⟩ := List.mem_map.mp hc
  exact Nat.lt_of_lt_of_le ch.val.toBitVec.isLt (by decide : 2 ^ 32 ≤ 16 ^ 8)
theorem strI_wt (i : Int) (h : i.natAbs ≤ 10 ^ 100) : wt (.str (toString i)) ≤ 20000 := by
  have h0 : i.natAbs.log2 < 1920 := log_lt (by decide) (Nat.lt_of_le_of_lt h (by decide))
  have h1 := PyProof.Rows.int_text_len_1921 h0
  have h2 := StrLaws.reprText_len (toString i : String) (ofS_cps _)
  show (reprText (toString i : String)).length + 1 ≤ 20000
  omega
/-! ### things whose lists are none of some (wants odd0) -/
inductive ThL (K : PySem.W.Frag) (S : Addr → Prop) (H : Hp) : V → PyData → Prop
  | non : ThL K S H .non .none
  | bl (b : Bool) : ThL K S H (.bl b) (.bool b)
  | int (i : Int) : ThL K S H (.int i) (.int i)
  | str (x : Str) : ThL K S H (.str x) (.str x)
  | tup {a : Addr} {tr : List (V × PyData)} : H a = some (.tup (tr.map fun t => t.1)) → (∀ t ∈ tr, ThL K S H t.1 t.2) → ThL K S H (.ref a) (.tuple (tr.map fun t => t.2))
  | lst {a : Addr} {tr : List (V × PyData)} : ¬ S a → a ≠ sysModules → H a = some (.lst (tr.map fun t => t.1)) → (∀ t ∈ tr, ThL K S H t.1 t.2) → ThL K S H (.ref a) (.list (tr.map fun t => t.2))
  | dct {a : Addr} {tr : List (Int × V × PyData)} : H a = some (.dK (tr.map fun t => (Sum.inl t.1, t.2.1))) → (∀ t ∈ tr, ThL K S H t.2.1 t.2.2) → ThL K S H (.ref a) (.dict (tr.map fun t => (.int t.1, t.2.2)))
theorem ThL.th {K : PySem.W.Frag} {S : Addr → Prop} {p : Addr} {H : Hp} {v : V} {d : PyData} (h : ThL K S H v d) (hp : S p) : Th K p H v d := by
  induction h with
  | non => exact .non
  | bl b => exact .bl b
  | int i => exact .int i
  | str x => exact .str x
  | tup h1 _ ih => exact .tup h1 ih
  | lst n1 n2 h1 _ ih => exact .lst (fun z => n1 (z ▸ hp)) n2 h1 ih
  | dct h1 _ ih => exact .dct h1 ih
theorem ThL.same {K : PySem.W.Frag} {S : Addr → Prop} {H H' : Hp} {v : V} {d : PyData} (h : ThL K S H v d) (e : Same H H') : ThL K S H' v d := by
  induction h with
  | non => exact .non
  | bl b => exact .bl b
  | int i => exact .int i
  | str x => exact .str x
  | tup h1 _ ih => exact .tup (e _ _ h1) ih
  | lst n1 n2 h1 _ ih => exact .lst n1 n2 (e _ _ h1) ih
  | dct h1 _ ih => exact .dct (e _ _ h1) ih
/-- tuples, dicts and other lists stay -/
theorem ThL.keep {K : PySem.W.Frag} {S : Addr → Prop} {H H' : Hp} {v : V} {d : PyData} (h : ThL K S H v d) (e1 : ∀ a xs, H a = some (.tup xs) → H' a = some (.tup xs)) (e2 : ∀ a xs, ¬ S a → H a = some (.lst xs) → H' a = some (.lst xs)) (e3 : ∀ a kvs, H a = some (.dK kvs) → H' a = some (.dK kvs)) : ThL K S H' v d := by
  induction h with
  | non => exact .non
  | bl b => exact .bl b
  | int i => exact .int i
  | str x => exact .str x
  | tup h1 _ ih => exact .tup (e1 _ _ h1) ih
  | lst n1 n2 h1 _ ih => exact .lst n1 n2 (e2 _ _ n1 h1) ih
  | dct h1 _ ih => exact .dct (e3 _ _ h1) ih
theorem ThL.but {K : PySem.W.Frag} {S : Addr → Prop} {p : Addr} {H H' : Hp} {v : V} {d : PyData} {ys : List V} (h : ThL K S H v d) (hs : S p) (e : But p H H') (hp : H p = some (.lst ys)) : ThL K S H' v d :=
  h.keep (fun a xs h1 => e _ _ (ne_of h1 hp (by intro z; cases z)) h1) (fun a xs n h1 => e _ _ (fun z => n (z ▸ hs)) h1) (fun a kvs h1 => e _ _ (ne_of h1 hp (by intro z; cases z)) h1)
theorem ThL.mono {K : PySem.W.Frag} {S T : Addr → Prop} {H : Hp} {v : V} {d : PyData} (h : ThL K S H v d) (e : ∀ a, T a → S a) : ThL K T H v d := by
  induction h with
  | non => exact .non
  | bl b => exact .bl b
  | int i => exact .int i
  | str x => exact .str x
  | tup h1 _ ih => exact .tup h1 ih
  | lst n1 n2 h1 _ ih => exact .lst (fun z => n1 (e _ z)) n2 h1 ih
  | dct h1 _ ih => exact .dct h1 ih
/-! ### numbers within bounds, as things (wants odd0) -/
def isR (d : PyData) (a b : Int) : Bool := match d with
  | .int i => decide (a ≤ i) && decide (i ≤ b)
  | _ => false
def isF (d : PyData) (a : Int) : Bool := match d with
  | .int i => decide (a ≤ i)
  | _ => false
theorem isR_no {d : PyData} {a b : Int} (h : isWh d = false) : isR d a b = false := by cases d <;> first | rfl | cases h
theorem isF_no {d : PyData} {a : Int} (h : isWh d = false) : isF d a = false := by cases d <;> first | rfl | cases h
theorem isR_inv {d : PyData} {a b : Int} (h : isR d a b = true) : ∃ i, d = .int i ∧ a ≤ i ∧ i ≤ b := by
  cases d with
  | int i =>
    have h : (decide (a ≤ i) && decide (i ≤ b)) = true := h
    rw [Bool.and_eq_true, decide_eq_true_iff, decide_eq_true_iff] at h
    exact ⟨i, rfl, h.1, h.2⟩
  | _ => cases h
theorem isR_mk {i a b : Int} (h1 : a ≤ i) (h2 : i ≤ b) : isR (.int i) a b = true := by
  show (decide (a ≤ i) && decide (i ≤ b)) = true
  rw [decide_eq_true h1, decide_eq_true h2] <;> rfl
theorem isF_inv {d : PyData} {a : Int} (h : isF d a = true) : ∃ i, d = .int i ∧ a ≤ i := by
  cases d with
  | int i => exact ⟨i, rfl, of_decide_eq_true h⟩
  | _ => cases h
/-- bounds, the upper one perhaps none -/
def oW : Option Int → V
  | none => .non
  | some i => .int i
def isB (d : PyData) (a : Int) : Option Int → Bool
  | none => isF d a
  | some b => isR d a b
theorem isB_no {d : PyData} {a : Int} {o : Option Int} (h : isWh d = false) : isB d a o = false := by
  cases o with
  | none => exact isF_no h
  | some b => exact isR_no h
theorem isB_low {i a : Int} {o : Option Int} (h : i < a) : isB (.int i) a o = false := by
  cases o with
  | none => exact decide_eq_false (by omega)
  | some b =>
    show (decide (a ≤ i) && decide (i ≤ b)) = false
    rw [decide_eq_false (by omega), Bool.false_and]
theorem isB_hi {i a b : Int} (h : b < i) : isB (.int i) a (some b) = false := by
  show (decide (a ≤ i) && decide (i ≤ b)) = false
  rw [decide_eq_false (show ¬ i ≤ b by omega), Bool.and_false]
/-! ### list * int, what comes is none of the modules' table -/
def rRepS : R2 := fun x y H Q => ∃ l k xs, x = .ref l ∧ y = .int k ∧ H l = some (.lst xs) ∧ 0 ≤ k ∧ k < 2 ^ 63 ∧ xs.length * k.toNat ≤ sizeLine ∧
  ∀ p, H p = none → p ≠ sysModules → Q (.ref p) (upd H p (.lst (List.replicate k.toNat xs).flatten))
theorem op_repS {X : Cx} : OpR X (binaryOp .Mult) rRepS := by
  rintro pins s σ H x y v u Q J ra rb ⟨a, m, ys, rfl, rfl, at_, m0, m1, mz, go⟩
  obtain ⟨tk, rfl⟩ := rb
  cases ra
  obtain ⟨z, us, cap, rel, eqL, get⟩ := J.lstM at_
  have zz : us.toArray.size * m.toNat ≤ sizeLine := by
    rw [List.size_toArray, ← eqL]
    exact mz
  have c1 : ¬ us.toArray.size * m.toNat > (2 ^ 63 - 1) / 8 := Nat.not_lt.mpr (Nat.le_trans zz (by decide))
  have c2 : ¬ (!Builtin.List.listFitsIndex m) = true := fun w => by
    rw [fitsIndex_both (Int.le_trans (by decide) m0) m1] at w
    cases w
  have c3 : ¬ Builtin.List.listTooLong (us.toArray.size * m.toNat) = true := fun w => by
    rw [notLongL zz] at w
    cases w
  have flat : List.foldl (fun q1 q2 => q1 ++ q2) #[] (List.replicate (if us.toArray.isEmpty = true then 0 else m.toNat) us.toArray) = (List.replicate m.toNat us).flatten.toArray := by
    have base : ∀ n : Nat, List.foldl (fun q1 q2 => q1 ++ q2) #[] (List.replicate n us.toArray) = (List.replicate n us).flatten.toArray := fun n => by
      simpa using foldl_rep us n []
    rw [base]
    match us with
    | [] => simp
    | _ :: _ => rw [if_neg (by simp)]
  have inner := AutoListH.list___mul___list_int_3 a us.toArray cap m tk c2 c1 c3
  have met := int___rmul___int_list m tk a us.toArray cap
  refine wpAny_binaryOp_repeat_ref (T := "list") (U := "int") (by decide) ⟨_, get, rfl⟩
    (fun s2 => typeIs_int s2 m tk) noFill_list_mul
    F.fills_int_mul F.slot_int_rmul repeat_list
    F.slot_int_index.lookup ?_
  refine call_meets F.slot_int_rmul (typeIs_int s m tk)
    F.entry_int_rmul (F.args_int_rmul_2 _ _) met
    ⟨get, rfl, ⟨_, get, rfl⟩, ?_⟩
  refine call_meets F.slot_list_mul ⟨_, get, rfl⟩
    F.entry_list_mul (F.args_list_mul_2 _ _) inner
    ⟨get, ?_⟩
  rw [flat]
  have long : (List.replicate m.toNat ys).flatten.length ≤ sizeLine := by
    rw [PyProof.Rows.lm_len_rep_flat, Nat.mul_comm]
    exact mz
  exact ⟨.ref _, _, J.lnew (t' := s.toks) (rel.rep m.toNat) long, rfl, go _ J.fresh (Nat.ne_of_gt J.big)⟩
/-! ### trees of things: plain law (wants odd1) -/
mutual
/-- the leaves from left to right; None where a tuple is none of two -/
def lv : PyData → List PyData
  | .tuple ds => (match lvs ds with | [a, b] => a ++ b | _ => [.none])
  | .none => [.none]
  | .bool b => [.bool b]
  | .int i => [.int i]
  | .str s => [.str s]
  | .list xs => [.list xs]
  | .dict k => [.dict k]
def lvs : List PyData → List (List PyData)
  | [] => []
  | x :: r => lv x :: lvs r
end
theorem lvs_len : ∀ ds : List PyData, (lvs ds).length = ds.length
  | [] => rfl
  | _ :: r => congrArg (· + 1) (lvs_len r)
theorem lv_two (x y : PyData) : lv (.tuple [x, y]) = lv x ++ lv y := rfl
theorem lv_not {ds : List PyData} (h : ds.length ≠ 2) : lv (.tuple ds) = [.none] := by
  show (match lvs ds with | [a, b] => a ++ b | _ => [.none]) = [.none]
  have := lvs_len ds
  match e : lvs ds with
  | [] => rfl
  | [_] => rfl
  | [a, b] => rw [e] at this; exact absurd this.symm h
  | _ :: _ :: _ :: _ => rfl
theorem lv_leaf {d : PyData} (h : isTu d = false) : lv d = [d] := by cases d <;> first | rfl | cases h
mutual
def nsz : PyData → Nat
  | .tuple ds => 1 + nszs ds
  | _ => 1
def nszs : List PyData → Nat
  | [] => 0
  | x :: r => nsz x + nszs r
end
mutual
theorem nsz_wt : ∀ d : PyData, nsz d ≤ wt d
  | .none => by show 1 ≤ 5; decide
  | .bool _ => by show 1 ≤ 5; decide
  | .int _ => by show 1 ≤ 1921; decide
  | .str x => Nat.le_add_left 1 _
  | .list xs => by show 1 ≤ wts xs + 4; omega
  | .dict k => by show 1 ≤ wtk k + 4; omega
  | .tuple ds => by
    have := nszs_wt ds
    show 1 + nszs ds ≤ wts ds + 4
    omega
theorem nszs_wt : ∀ ds : List PyData, nszs ds ≤ wts ds
  | [] => Nat.zero_le _
  | x :: r => by
    have h1 := nsz_wt x
    have h2 := nszs_wt r
    show nsz x + nszs r ≤ wt x + 4 + wts r
    omega
end
theorem nsz_pos : ∀ d : PyData, 1 ≤ nsz d
  | .none => Nat.le_refl _
  | .bool _ => Nat.le_refl _
  | .int _ => Nat.le_refl _
  | .str _ => Nat.le_refl _
  | .list _ => Nat.le_refl _
  | .dict _ => Nat.le_refl _
  | .tuple _ => Nat.le_add_right _ _
theorem nszs_len : ∀ ds : List PyData, ds.length ≤ nszs ds
  | [] => Nat.le_refl _
  | x :: r => by
    have h1 := nsz_pos x
    have h2 := nszs_len r
    show r.length + 1 ≤ nsz x + nszs r
    omega
mutual
theorem lv_nsz : ∀ d : PyData, (lv d).length ≤ nsz d
  | .none => Nat.le_refl _
  | .bool _ => Nat.le_refl _
  | .int _ => Nat.le_refl _
  | .str _ => Nat.le_refl _
  | .list _ => Nat.le_refl _
  | .dict _ => Nat.le_refl _
  | .tuple ds => by
    by_cases h : ds.length = 2
    · match ds, h with
      | [x, y], _ =>
        rw [lv_two, List.length_append]
        have h1 := lv_nsz x
        have h2 := lv_nsz y
        show _ ≤ 1 + (nsz x + (nsz y + 0))
        omega
    · rw [lv_not h]
      exact Nat.le_add_right _ _
end
def wv : PyData → Int
  | .int i => i
  | _ => -1
def isT (d : PyData) (m : Nat) : Bool := (lv d).all isWh && decide ((lv d).map wv = (List.range m).map fun n : Nat => (n : Int))
def ris (c : Nat) : List PyData := (List.range c).map fun n : Nat => PyData.int (n : Int)
theorem ris_wh (c : Nat) : (ris c).all isWh = true := by
  unfold ris
  rw [List.all_eq_true]
  intro x hx
  obtain ⟨n, _, rfl⟩ := List.mem_map.mp hx
  rfl
theorem ris_wv (c : Nat) : (ris c).map wv = (List.range c).map fun n : Nat => (n : Int) := by unfold ris; rw [List.map_map] <;> rfl
theorem isT_end {d : PyData} {c m : Nat} (h : lv d = ris c) : isT d m = decide (c = m) := by
  unfold isT
  rw [h, ris_wh, ris_wv, Bool.true_and]
  by_cases e : c = m
  · subst e
    rw [decide_eq_true rfl, decide_eq_true rfl]
  · rw [decide_eq_false e, decide_eq_false]
    intro z
    have := congrArg List.length z
    rw [List.length_map, List.length_map, List.length_range, List.length_range] at this
    exact e this
theorem isT_no {d e : PyData} {r : List PyData} {c m : Nat} (h : lv d = ris c ++ e :: r) (he : isWh e = false ∨ wv e ≠ (c : Int)) : isT d m = false := by
  unfold isT
  rw [h]
  rcases he with he | he
  · rw [List.all_append, List.all_cons, he, Bool.false_and, Bool.and_false, Bool.false_and]
  · rw [decide_eq_false, Bool.and_false]
    intro z
    have h1 : ((ris c ++ e :: r).map wv)[c]? = some (wv e) := by
      have lc : (ris c).length = c := by unfold ris; rw [List.length_map, List.length_range]
      rw [List.getElem?_map, List.getElem?_append_right (by omega), lc, Nat.sub_self] <;> rfl
    rw [z, List.getElem?_map] at h1
    by_cases cm : c < m
    · rw [List.getElem?_range cm] at h1
      exact he (Option.some.inj h1).symm
    · rw [List.getElem?_eq_none (by rw [List.length_range]; omega)] at h1
      cases h1
theorem ris_succ (c : Nat) : ris (c + 1) = ris c ++ [.int (c : Nat)] := by unfold ris; rw [List.range_succ, List.map_append] <;> rfl
def szV (ts : List (V × PyData)) : Nat := nszs (ts.map fun t => t.2)
/-! ### trees of numbers as things (wants st2t, odd1, st21d) -/
def IsRow : Tr → Nat → Prop
  | .leaf n, f => n = f
  | .node l r, f => IsRow l f ∧ IsRow r (f + l.cnt)
theorem Tr.cnt_pos : ∀ t : Tr, 1 ≤ t.cnt
  | .leaf _ => Nat.le_refl _
  | .node l r => Nat.le_trans l.cnt_pos (Nat.le_add_right _ _)
theorem Tr.h_cnt : ∀ t : Tr, t.h ≤ t.cnt
  | .leaf _ => Nat.le_refl _
  | .node l r => by
    have := l.h_cnt; have := r.h_cnt; have := l.cnt_pos; have := r.cnt_pos
    show max l.h r.h + 1 ≤ l.cnt + r.cnt
    omega
theorem IsRow.big : ∀ {t : Tr} {f : Nat}, IsRow t f → t.big ≤ f + t.cnt
  | .leaf n, f, h => by cases (show n = f from h); exact Nat.le_add_right _ _
  | .node l r, f, ⟨h1, h2⟩ => by
    have := h1.big; have := h2.big
    show max l.big r.big ≤ f + (l.cnt + r.cnt)
    omega
theorem lv_row : ∀ {t : Tr} {f : Nat}, IsRow t f → lv t.d = (List.range' f t.cnt).map fun n : Nat => PyData.int (n : Int)
  | .leaf n, f, h => by cases (show n = f from h); rfl
  | .node l r, f, ⟨h1, h2⟩ => by
    show lv (.tuple [l.d, r.d]) = (List.range' f (l.cnt + r.cnt)).map _
    rw [lv_two, lv_row h1, lv_row h2, ← List.map_append, List.range'_append_1]
theorem lv_row0 {t : Tr} (h : IsRow t 0) : lv t.d = ris t.cnt := by
  rw [lv_row h]
  unfold ris
  rw [List.range_eq_range']
theorem TrAt.th {K : PySem.W.Frag} {p : Addr} {H : Hp} : ∀ {t : Tr} {v : V}, TrAt H v t → Th K p H v t.d
  | .leaf n, _, h => by
    cases (show _ = V.int n from h)
    exact .int n
  | .node l r, _, ⟨a, x, y, h1, h2, h3, h4⟩ => by
    cases h1
    refine Th.tup (tr := [(x, l.d), (y, r.d)]) h2 fun t ht => ?_
    simp only [List.mem_cons, List.not_mem_nil, or_false] at ht
    rcases ht with rfl | rfl
    · exact h3.th
    · exact h4.th
theorem Tr.wg : ∀ {t : Tr} {b : Nat}, t.big ≤ b → Wg t.d t.h (1940 * t.cnt - 12) b ∧ t.d.depth + 1 ≤ t.h
  | .leaf n, b, h => ⟨⟨Nat.zero_le _, by show 1921 ≤ 1940 * 1 - 12; decide, h⟩, Nat.le_refl _⟩
  | .node l r, b, h => by
    have h' : max l.big r.big ≤ b := h
    obtain ⟨w1, h1⟩ := Tr.wg (t := l) (b := b) (by omega)
    obtain ⟨w2, h2⟩ := Tr.wg (t := r) (b := b) (by omega)
    have a1 := w1.len
    have a2 := w2.len
    have b1 := w1.big
    have b2 := w2.big
    have c1 := l.cnt_pos
    have c2 := r.cnt_pos
    refine ⟨⟨?_, ?_, ?_⟩, ?_⟩
    · show max l.d.depth (max r.d.depth 0) + 1 ≤ max l.h r.h + 1
      omega
    · show (wt l.d + 4 + (wt r.d + 4 + 0)) + 4 ≤ 1940 * (l.cnt + r.cnt) - 12
      omega
    · show max (ib l.d) (max (ib r.d) 0) ≤ b
      omega
    · show max l.d.depth (max r.d.depth 0) + 1 + 1 ≤ max l.h r.h + 1
      omega
theorem cut_toU {xs : List V} (n : Nat) : cutV xs none (some (n : Int)) = xs.take n := by
  unfold cutV
  rw [HT.sIx_nat, HT.sIx_none, List.drop_zero, Nat.sub_zero]
  by_cases c : n ≤ xs.length
  · rw [Nat.min_eq_left c]
  · rw [Nat.min_eq_right (by omega), List.take_length, List.take_of_length_le (by omega)]
theorem cut_fromU {xs : List V} (n : Nat) : cutV xs (some (n : Int)) none = xs.drop n := by
  unfold cutV
  rw [HT.sIx_nat, HT.sIx_none]
  by_cases h : n ≤ xs.length
  · rw [Nat.min_eq_left h, List.take_of_length_le (by rw [List.length_drop] <;> exact Nat.le_refl _)]
  · rw [Nat.min_eq_right (by omega), Nat.sub_self, List.take_zero, List.drop_of_length_le (by omega)]
theorem cut_midU {xs : List V} (n m : Nat) (h : n ≤ xs.length) : cutV xs (some (n : Int)) (some (m : Int)) = (xs.drop n).take (m - n) := by
  unfold cutV
  rw [HT.sIx_nat, HT.sIx_nat, Nat.min_eq_left h]
  by_cases c : m ≤ xs.length
  · rw [Nat.min_eq_left c]
  · rw [Nat.min_eq_right (by omega), List.take_of_length_le (by rw [List.length_drop] <;> exact Nat.le_refl _), List.take_of_length_le (by rw [List.length_drop]; omega)]
theorem Wgs.ex {xs : List PyData} {n c b : Nat} (h : Wgs xs n c b) : Wgs xs n (wts xs) b := ⟨h.dep, Nat.le_refl _, h.big⟩
theorem Wg.ex {d : PyData} {n c b : Nat} (h : Wg d n c b) : Wg d n (wt d) b := ⟨h.dep, Nat.le_refl _, h.big⟩
theorem wts_len : ∀ xs : List PyData, xs.length ≤ wts xs
  | [] => Nat.le_refl _
  | x :: r => by
    have := wts_len r
    show r.length + 1 ≤ wt x + 4 + wts r
    omega
/-! ### deeds, boards, asks as things: plain law (wants odd1) -/
def isNo : PyData → Bool
  | .none => true
  | _ => false
theorem isNo_inv {d : PyData} (h : isNo d = true) : d = .none := by cases d <;> first | rfl | cases h
theorem Th.no_dec {K : PySem.W.Frag} {p : Addr} {H : Hp} {v : V} {d : PyData} (h : Th K p H v d) : decide (v = V.non) = isNo d := by
  cases h <;> rfl
def isEnd (d : PyData) : Bool := isNo d || isWh d
def isN (n : Nat) : PyData → Bool
  | .tuple ds => decide (ds.length = n)
  | _ => false
theorem isN_tu {n : Nat} {d : PyData} (h : isN n d = true) : ∃ ds, d = .tuple ds ∧ ds.length = n := by
  cases d with
  | tuple ds => exact ⟨ds, rfl, of_decide_eq_true h⟩
  | _ => cases h
theorem isN_no {n : Nat} {d : PyData} (h : isTu d = false) : isN n d = false := by cases d <;> first | rfl | cases h
/-- ends in order -/
def okE : PyData → PyData → PyData → Bool
  | .int a, .int l, .int h => decide (l < h) || (decide (l = h) && decide (a = 0))
  | _, _, _ => true
def isDd : PyData → Bool
  | .tuple [a, l, h] => isWh a && (isEnd l && (isEnd h && okE a l h))
  | _ => false
theorem isDd_no {d : PyData} (h : isN 3 d = false) : isDd d = false := by
  cases d with
  | tuple ds =>
    match ds, h with
    | [], _ => rfl
    | [_], _ => rfl
    | [_, _], _ => rfl
    | [_, _, _], h => cases h
    | _ :: _ :: _ :: _ :: _, _ => rfl
  | _ => rfl
def isBd : PyData → Bool
  | .tuple ds => decide (1 ≤ ds.length) && (decide (ds.length ≤ 16) && ds.all isWh)
  | _ => false
theorem isBd_no {d : PyData} (h : isTu d = false) : isBd d = false := by cases d <;> first | rfl | cases h
theorem isBd_tu {d : PyData} (h : isBd d = true) : ∃ ds, d = .tuple ds ∧ 1 ≤ ds.length ∧ ds.length ≤ 16 ∧ ds.all isWh = true := by
  cases d with
  | tuple ds =>
    have h : (decide (1 ≤ ds.length) && (decide (ds.length ≤ 16) && ds.all isWh)) = true := h
    rw [Bool.and_eq_true, Bool.and_eq_true, decide_eq_true_iff, decide_eq_true_iff] at h
    exact ⟨ds, rfl, h.1, h.2.1, h.2.2⟩
  | _ => cases h
def wnD : PyData → Int
  | .int i => i
  | _ => -1
def isAk (nb : Nat) : PyData → Bool
  | .tuple [h, b, e] => isWh h && (isWh b && ((decide (0 ≤ wnD h) && decide (wnD h < 16)) && ((decide (0 ≤ wnD b) && decide (wnD b < (nb : Int))) && isDd e)))
  | _ => false
theorem isAk_no {nb : Nat} {d : PyData} (h : isN 3 d = false) : isAk nb d = false := by
  cases d with
  | tuple ds =>
    match ds, h with
    | [], _ => rfl
    | [_], _ => rfl
    | [_, _], _ => rfl
    | [_, _, _], h => cases h
    | _ :: _ :: _ :: _ :: _, _ => rfl
  | _ => rfl
def isAs (nb : Nat) : PyData → Bool
  | .tuple ds => ds.all (isAk nb)
  | _ => false
theorem isAs_no {nb : Nat} {d : PyData} (h : isTu d = false) : isAs nb d = false := by cases d <;> first | rfl | cases h
theorem len_map1 {tr : List (V × PyData)} : (tr.map fun t => t.1).length = tr.length := List.length_map _
theorem len_map2 {tr : List (V × PyData)} : (tr.map fun t => t.2).length = tr.length := List.length_map _
theorem take_all {tr : List (V × PyData)} (f : PyData → Bool) : ((tr.take (tr.map fun t => t.1).length).map fun t => f t.2).all id = (tr.map fun t => t.2).all f := by
  rw [len_map1, List.take_length, List.all_map, List.all_map] <;> rfl
theorem take_snocB {tr : List (V × PyData)} {i : Nat} {t : V × PyData} (f : PyData → Bool) (h : tr[i]? = some t) : (((tr.take i).map fun t => f t.2).map V.bl) ++ [V.bl (f t.2)] = ((tr.take (i + 1)).map fun t => f t.2).map V.bl := by
  rw [List.take_succ, h, List.map_append, List.map_append] <;> rfl
theorem dec_ne' {n m : Nat} (h : n ≠ m) : (!decide (V.int (n : Int) = V.int (m : Int))) = true := by rw [decide_eq_false fun z => h (by injection z with z; omega)] <;> rfl
def tlen : PyData → Nat
  | .tuple ds => ds.length
  | _ => 0
mutual
/-- tuples of plain things -/
def lf : PyData → Bool
  | .tuple ds => lfs ds
  | .list _ => false
  | .dict _ => false
  | .none => true
  | .bool _ => true
  | .int _ => true
  | .str _ => false
def lfs : List PyData → Bool
  | [] => true
  | d :: r => lf d && lfs r
end
mutual
def byT : PyData → PyData
  | .tuple ds => .tuple (byTs ds)
  | .int i => if 0 ≤ i ∧ i < 2 then .bool (decide (i = 1)) else .int i
  | .list ds => .list ds
  | .dict k => .dict k
  | .none => .none
  | .bool b => .bool b
  | .str s => .str s
def byTs : List PyData → List PyData
  | [] => []
  | d :: r => byT d :: byTs r
end
theorem byTs_map : ∀ ds, byTs ds = ds.map byT
  | [] => rfl
  | d :: r => by show byT d :: byTs r = byT d :: r.map byT; rw [byTs_map r]
theorem lfs_mem : ∀ {ds : List PyData}, lfs ds = true → ∀ d ∈ ds, lf d = true
  | x :: r, h, d, hd => by
    have h : (lf x && lfs r) = true := h
    rw [Bool.and_eq_true] at h
    rcases List.mem_cons.mp hd with rfl | hd
    · exact h.1
    · exact lfs_mem h.2 d hd
theorem lfs_of : ∀ {ds : List PyData}, (∀ d ∈ ds, lf d = true) → lfs ds = true
  | [], _ => rfl
  | x :: r, h => by
    show (lf x && lfs r) = true
    rw [h x List.mem_cons_self, lfs_of fun d hd => h d (List.mem_cons_of_mem _ hd)] <;> rfl
mutual
theorem byT_lf : ∀ d, lf d = true → lf (byT d) = true
  | .tuple ds, h => byTs_lf ds h
  | .int i, _ => by
    show lf (if 0 ≤ i ∧ i < 2 then .bool (decide (i = 1)) else .int i) = true
    split <;> rfl
  | .none, _ => rfl
  | .bool _, _ => rfl
theorem byTs_lf : ∀ ds, lfs ds = true → lfs (byTs ds) = true
  | [], _ => rfl
  | d :: r, h => by
    have h : (lf d && lfs r) = true := h
    rw [Bool.and_eq_true] at h
    show (lf (byT d) && lfs (byTs r)) = true
    rw [byT_lf d h.1, byTs_lf r h.2] <;> rfl
end
theorem Th.sw {K : PySem.W.Frag} {p q : Addr} {H : Hp} {v : V} {d : PyData} (h : Th K p H v d) : lf d = true → Th K q H v d := by
  induction h with
  | non => exact fun _ => .non
  | bl b => exact fun _ => .bl b
  | int i => exact fun _ => .int i
  | str x => exact fun e => by cases e
  | tup h1 _ ih => exact fun e => .tup h1 fun t ht => ih t ht (lfs_mem e _ (List.mem_map_of_mem (f := fun t : V × PyData => t.2) ht))
  | lst _ _ _ _ _ => exact fun e => by cases e
  | dct _ _ _ => exact fun e => by cases e
theorem Th.butL {K : PySem.W.Frag} {p D : Addr} {H H' : Hp} {v : V} {d : PyData} {ys : List V} (h : Th K p H v d) (e : lf d = true) (b : But D H H') (hD : H D = some (.lst ys)) : Th K p H' v d := ((h.sw (q := D) e).but b hD).sw e
theorem Th.lfdp {K : PySem.W.Frag} {p : Addr} {H : Hp} {v : V} {d : PyData} (h : Th K p H v d) (e : lf d = true) (t : isTu d = false) : Dp K H v d ∧ SeqAt.shaped d = true := by
  cases h with
  | non => exact ⟨.non, rfl⟩
  | bl b => exact ⟨.bl b, rfl⟩
  | int i => exact ⟨.int i, rfl⟩
  | str x => cases e
  | tup _ _ => cases t
  | lst _ _ _ _ => cases e
  | dct _ _ => cases e
theorem dep_mem : ∀ {ds : List PyData} {d : PyData}, d ∈ ds → d.depth ≤ PyData.depthAll ds ∧ nsz d ≤ nszs ds
  | x :: r, d, h => by
    rcases List.mem_cons.mp h with rfl | h
    · exact ⟨Nat.le_max_left _ _, Nat.le_add_right _ _⟩
    · obtain ⟨h1, h2⟩ := dep_mem h
      exact ⟨Nat.le_trans h1 (Nat.le_max_right _ _), Nat.le_trans h2 (Nat.le_add_left _ _)⟩
mutual
theorem byT_nsz : ∀ d, nsz (byT d) = nsz d
  | .tuple ds => congrArg (1 + ·) (byTs_nsz ds)
  | .int i => by
    show nsz (if 0 ≤ i ∧ i < 2 then .bool (decide (i = 1)) else .int i) = 1
    split <;> rfl
  | .none => rfl
  | .bool _ => rfl
  | .str _ => rfl
  | .list _ => rfl
  | .dict _ => rfl
theorem byTs_nsz : ∀ ds, nszs (byTs ds) = nszs ds
  | [] => rfl
  | d :: r => by
    show nsz (byT d) + nszs (byTs r) = nsz d + nszs r
    rw [byT_nsz d, byTs_nsz r]
end
/-! ### boards and asks as things (wants st2d, st22d, st22r) -/
theorem ints_th {K : PySem.W.Frag} {p a : Addr} {H : Hp} {bs : List Int} (h : H a = some (.tup (bs.map V.int))) : Th K p H (.ref a) (intsD bs) := by
  have := Th.tup (K := K) (p := p) (tr := bs.map fun i => (V.int i, PyData.int i)) (by rw [List.map_map]; exact h) fun t ht => by
    obtain ⟨i, _, rfl⟩ := List.mem_map.mp ht
    exact .int i
  rw [List.map_map] at this
  exact this
theorem end_th {K : PySem.W.Frag} {p : Addr} {H : Hp} (o : Option Int) : Th K p H (oV o) (po o) := by
  cases o with
  | none => exact .non
  | some i => exact .int i
theorem dd_th {K : PySem.W.Frag} {p a : Addr} {H : Hp} {d : Dd} (h : H a = some (.tup d.vs)) : Th K p H (.ref a) (pd d) := by
  refine Th.tup (tr := [(.int d.add, .int d.add), (oV d.low, po d.low), (oV d.high, po d.high)]) h fun t ht => ?_
  simp only [List.mem_cons, List.not_mem_nil, or_false] at ht
  rcases ht with rfl | rfl | rfl
  · exact .int _
  · exact end_th _
  · exact end_th _
theorem Ak.at_.th {K : PySem.W.Frag} {p : Addr} {H : Hp} {nb : Nat} {x : Ak} (h : x.at_ H nb) : Th K p H (.ref x.a) x.pd := by
  refine Th.tup (tr := [(.int x.hand, .int x.hand), (.int x.box, .int x.box), (.ref x.da, Toy.pd x.d)]) h.1 fun t ht => ?_
  simp only [List.mem_cons, List.not_mem_nil, or_false] at ht
  rcases ht with rfl | rfl | rfl
  · exact .int _
  · exact .int _
  · exact dd_th h.2.1.1
theorem AsksAt.th {K : PySem.W.Frag} {p k : Addr} {H : Hp} {as : List Ak} {nb : Nat} (h : AsksAt H k as nb) : Th K p H (.ref k) (akD as) := by
  have := Th.tup (K := K) (p := p) (tr := as.map fun x => (V.ref x.a, x.pd)) (by rw [List.map_map]; exact h.1) fun t ht => by
    obtain ⟨x, hx, rfl⟩ := List.mem_map.mp ht
    exact (h.2.2 x hx).th
  rw [List.map_map] at this
  exact this
theorem isBd_ints {bs : List Int} (h1 : 1 ≤ bs.length) (h2 : bs.length ≤ 16) : isBd (intsD bs) = true := by
  show (decide (1 ≤ (bs.map PyData.int).length) && (decide ((bs.map PyData.int).length ≤ 16) && (bs.map PyData.int).all isWh)) = true
  rw [List.length_map, decide_eq_true h1, decide_eq_true h2, Bool.true_and, Bool.true_and, List.all_eq_true]
  intro x hx
  obtain ⟨i, _, rfl⟩ := List.mem_map.mp hx
  rfl
theorem isEnd_po (o : Option Int) : isEnd (po o) = true := by cases o <;> rfl
theorem isDd_pd {d : Dd} (h : d.Ok) : isDd (pd d) = true := by
  show (true && (isEnd (po d.low) && (isEnd (po d.high) && okE (.int d.add) (po d.low) (po d.high)))) = true
  rw [isEnd_po, isEnd_po]
  obtain ⟨add, low, high⟩ := d
  cases low with
  | none => rfl
  | some l =>
    cases high with
    | none => rfl
    | some u =>
      show (decide (l < u) || (decide (l = u) && decide (add = 0))) = true
      rcases h l u rfl rfl with h | ⟨h1, h2⟩
      · rw [decide_eq_true h, Bool.true_or]
      · rw [decide_eq_true h1, decide_eq_true h2, Bool.or_eq_true]
        exact .inr rfl
theorem isAk_pd {H : Hp} {nb : Nat} {x : Ak} (h : x.at_ H nb) : isAk nb x.pd = true := by
  show (true && (true && ((decide (0 ≤ x.hand) && decide (x.hand < 16)) && ((decide (0 ≤ (x.box : Int)) && decide ((x.box : Int) < (nb : Int))) && isDd (pd x.d))))) = true
  obtain ⟨_, h2, h3, h4, h5⟩ := h
  rw [isDd_pd h2.2.2, decide_eq_true h3, decide_eq_true h4, decide_eq_true (show (0 : Int) ≤ (x.box : Int) by omega), decide_eq_true (show (x.box : Int) < (nb : Int) by omega)] <;> rfl
theorem isAs_ak {H : Hp} {k : Addr} {as : List Ak} {nb : Nat} (h : AsksAt H k as nb) : isAs nb (akD as) = true := by
  show (as.map Ak.pd).all (isAk nb) = true
  rw [List.all_eq_true]
  intro x hx
  obtain ⟨y, hy, rfl⟩ := List.mem_map.mp hx
  exact isAk_pd (h.2.2 y hy)
theorem lf_ints {bs : List Int} : lf (intsD bs) = true := lfs_of fun d hd => by
  obtain ⟨i, _, rfl⟩ := List.mem_map.mp hd
  rfl
theorem lf_po (o : Option Int) : lf (po o) = true := by cases o <;> rfl
theorem lf_pd {d : Dd} : lf (pd d) = true := by
  show (true && (lf (po d.low) && (lf (po d.high) && true))) = true
  rw [lf_po, lf_po] <;> rfl
theorem lf_akp {x : Ak} : lf x.pd = true := by
  show (true && (true && (lf (pd x.d) && true))) = true
  rw [lf_pd] <;> rfl
theorem lf_ak {as : List Ak} : lf (akD as) = true := lfs_of fun d hd => by
  obtain ⟨x, _, rfl⟩ := List.mem_map.mp hd
  exact lf_akp
/-- lengths, depths, numbers -/
theorem Wgs.all {ds : List PyData} {n c b m : Nat} (h : ∀ d ∈ ds, Wg d n c b) (hl : ds.length ≤ m) : Wgs ds n ((c + 4) * m) b := by
  have : Wgs ds n ((c + 4) * ds.length) b := by
    clear hl
    induction ds with
    | nil => exact Wgs.nil
    | cons d r ih =>
      refine (Wgs.cons (h d List.mem_cons_self) (ih fun x hx => h x (List.mem_cons_of_mem _ hx))).mono (Nat.le_refl _) ?_ (Nat.le_refl _)
      rw [List.length_cons, Nat.mul_add, Nat.mul_one]
      omega
  exact this.mono (Nat.le_refl _) (Nat.mul_le_mul_left _ hl) (Nat.le_refl _)
theorem int_wg {i : Int} {b : Nat} (h : i.natAbs ≤ b) : Wg (.int i) 0 1921 b := ⟨Nat.le_refl _, Nat.le_refl _, h⟩
theorem ints_wg {bs : List Int} {b m : Nat} (h : ∀ x ∈ bs, x.natAbs ≤ b) (hl : bs.length ≤ m) : Wg (intsD bs) 1 ((1921 + 4) * m + 4) b := by
  refine Wg.tup (Wgs.all (n := 0) (c := 1921) (fun d hd => ?_) (by rw [List.length_map]; exact hl))
  obtain ⟨i, hi, rfl⟩ := List.mem_map.mp hd
  exact int_wg (h i hi)
theorem po_wg {o : Option Int} {b : Nat} (h : ∀ l, o = some l → l.natAbs ≤ b) : Wg (po o) 0 1921 b := by
  cases o with
  | none => exact ⟨Nat.le_refl _, by show 5 ≤ 1921; decide, Nat.zero_le _⟩
  | some i => exact int_wg (h i rfl)
theorem pd_wg {d : Dd} {b : Nat} (h : d.In (b : Int)) : Wg (pd d) 1 5779 b := by
  have h0 := h.1
  have h1 := h.2.1
  refine Wg.tup (n := 0) (c := 5775) (Wgs.all (n := 0) (c := 1921) (m := 3) (ds := [.int d.add, po d.low, po d.high]) (fun x hx => ?_) (Nat.le_refl _))
  simp only [List.mem_cons, List.not_mem_nil, or_false] at hx
  rcases hx with rfl | rfl | rfl
  · exact int_wg (by omega)
  · exact po_wg fun l hl => by have := h.2.2.1 l hl; omega
  · exact po_wg fun l hl => by have := h.2.2.2 l hl; omega
theorem ak_wg {H : Hp} {nb : Nat} {x : Ak} (h : x.at_ H nb) (hn : nb ≤ 16) : Wg x.pd 2 9649 (10 ^ 80) := by
  obtain ⟨_, h2, h3, h4, h5⟩ := h
  refine (Wg.tup (n := 1) (Wgs.cons (c := 1921) (n := 1) ((int_wg (b := 10 ^ 80) (i := x.hand) (by omega)).mono (Nat.zero_le _) (Nat.le_refl _) (Nat.le_refl _)) (Wgs.cons (c := 1921) ((int_wg (b := 10 ^ 80) (i := (x.box : Int)) (by omega)).mono (Nat.zero_le _) (Nat.le_refl _) (Nat.le_refl _)) (Wgs.cons (pd_wg (b := 10 ^ 80) h2.2.1) (Wgs.nil (c := 0)))))).mono (Nat.le_refl _) (by decide) (Nat.le_refl _)
theorem asks_wg {H : Hp} {k : Addr} {as : List Ak} {nb : Nat} (h : AsksAt H k as nb) (hn : nb ≤ 16) : Wg (akD as) 3 ((9649 + 4) * 40 + 4) (10 ^ 80) := by
  refine Wg.tup (Wgs.all (n := 2) (c := 9649) (fun d hd => ?_) (by rw [List.length_map]; exact h.2.1))
  obtain ⟨x, hx, rfl⟩ := List.mem_map.mp hd
  exact ak_wg (h.2.2 x hx) hn
theorem ints_dn : ∀ bs : List Int, PyData.depthAll (bs.map PyData.int) = 0 ∧ nszs (bs.map PyData.int) = bs.length
  | [] => ⟨rfl, rfl⟩
  | i :: r => by
    obtain ⟨h1, h2⟩ := ints_dn r
    refine ⟨?_, ?_⟩
    · show max 0 (PyData.depthAll (r.map PyData.int)) = 0
      omega
    · show 1 + nszs (r.map PyData.int) = r.length + 1
      omega
theorem isBd_t {e : Int} {r : List Int} (h0 : 0 ≤ e) (h1 : e < 2) : isBd (byT (intsD (e :: r))) = false := by
  have e1 : byT (intsD (e :: r)) = .tuple (byT (.int e) :: byTs (r.map PyData.int)) := rfl
  have e2 : byT (.int e) = .bool (decide (e = 1)) := if_pos ⟨h0, h1⟩
  rw [e1, e2]
  simp only [isBd, List.all_cons, isWh, Bool.false_and, Bool.and_false]
theorem isAs_t {h0 : Int} {nb : Nat} {b d : PyData} {r : List PyData} (z0 : 0 ≤ h0) (z1 : h0 < 2) : isAs nb (byT (.tuple (.tuple [.int h0, b, d] :: r))) = false := by
  have e1 : byT (.tuple (.tuple [.int h0, b, d] :: r)) = .tuple (.tuple [byT (.int h0), byT b, byT d] :: byTs r) := rfl
  have e2 : byT (.int h0) = .bool (decide (h0 = 1)) := if_pos ⟨z0, z1⟩
  rw [e1, e2]
  simp only [isAs, isAk, List.all_cons, isWh, Bool.false_and]
def toldV : List V := [.bl true, .bl false, .bl true, .bl false, .str "board"]
def toldD : List PyData := [.bool true, .bool false, .bool true, .bool false, .str "board"]
theorem told_th {K : PySem.W.Frag} {p T : Addr} {H : Hp} (n1 : T ≠ p) (n2 : T ≠ sysModules) (h : H T = some (.lst (toldV ++ toldV))) : Th K p H (.ref T) (.list (toldD ++ toldD)) := by
  refine Th.lst (tr := [(.bl true, .bool true), (.bl false, .bool false), (.bl true, .bool true), (.bl false, .bool false), (.str "board", .str "board"), (.bl true, .bool true), (.bl false, .bool false), (.bl true, .bool true), (.bl false, .bool false), (.str "board", .str "board")]) n1 n2 h fun t ht => ?_
  simp only [List.mem_cons, List.not_mem_nil, or_false] at ht
  rcases ht with rfl | rfl | rfl | rfl | rfl | rfl | rfl | rfl | rfl | rfl <;> first | exact .bl _ | exact .str _
theorem told_sh : (PyData.list (toldD ++ toldD)).showable = true ∧ (PyData.list (toldD ++ toldD)).depth ≤ 60 ∧ (PyData.list (toldD ++ toldD)).shown.length ≤ sizeLine := ⟨rfl, by decide, shown_wz rfl (by decide +kernel)⟩
/-! ### data: rows of numbers, grids, folds by a table -/
def iN (xs : List Nat) : List Int := xs.map fun n : Nat => (n : Int)
theorem iN_at {xs : List Nat} {j n : Nat} (h : xs[j]? = some n) : ((iN xs).map V.int)[j]? = some (.int (n : Nat)) := by
  unfold iN
  rw [List.getElem?_map, List.getElem?_map, h] <;> rfl
theorem iN_len {xs : List Nat} : ((iN xs).map V.int).length = xs.length := by unfold iN; rw [List.length_map, List.length_map]
theorem iN_snoc {xs : List Nat} {n : Nat} : (iN xs).map V.int ++ [.int (n : Nat)] = (iN (xs ++ [n])).map V.int := by unfold iN; rw [List.map_append, List.map_append] <;> rfl
theorem iN_app {xs ys : List Nat} : (iN xs).map V.int ++ (iN ys).map V.int = (iN (xs ++ ys)).map V.int := by unfold iN; rw [List.map_append, List.map_append]
theorem iN_mem {xs : List Nat} {y : V} {i : Nat} (h : ((iN xs).map V.int)[i]? = some y) : ∃ n : Nat, y = .int (n : Nat) ∧ xs[i]? = some n := by
  unfold iN at h
  rw [List.getElem?_map, List.getElem?_map] at h
  cases hx : xs[i]? with
  | none => rw [hx] at h; cases h
  | some n => rw [hx] at h; exact ⟨n, (Option.some.inj h).symm, rfl⟩
structure GridAt (H : Hp) (T : Addr) (rs : List (Addr × List Nat)) (M B : Nat) : Prop where
  top : H T = some (.tup (rs.map fun x => .ref x.1))
  rows : ∀ x ∈ rs, H x.1 = some (.tup ((iN x.2).map V.int)) ∧ x.2.length = M ∧ ∀ e ∈ x.2, e < B
theorem GridAt.same {H H' : Hp} {T : Addr} {rs : List (Addr × List Nat)} {M B : Nat} (e : Same H H') (h : GridAt H T rs M B) : GridAt H' T rs M B :=
  ⟨e _ _ h.top, fun x hx => ⟨e _ _ (h.rows x hx).1, (h.rows x hx).2⟩⟩
def gr (rs : List (Addr × List Nat)) : List (List Nat) := rs.map fun x => x.2
theorem refs_at {rs : List (Addr × List Nat)} {j : Nat} (h : j < rs.length) : (rs.map fun x => V.ref x.1)[j]? = some (.ref rs[j].1) := by
  rw [List.getElem?_map, List.getElem?_eq_getElem h] <;> rfl
theorem gr_at {rs : List (Addr × List Nat)} {j : Nat} (h : j < rs.length) : (gr rs).getD j [] = rs[j].2 := by
  unfold gr
  rw [List.getD_eq_getElem?_getD, List.getElem?_map, List.getElem?_eq_getElem h] <;> rfl
theorem getD_at {xs : List Nat} {j : Nat} (h : j < xs.length) : xs[j]? = some (xs.getD j 0) := by
  rw [List.getD_eq_getElem?_getD, List.getElem?_eq_getElem h] <;> rfl
theorem getD_mem {xs : List Nat} {j : Nat} (h : j < xs.length) : xs.getD j 0 ∈ xs := by
  rw [List.getD_eq_getElem?_getD, List.getElem?_eq_getElem h]
  exact List.getElem_mem h
def fv (tb : List (List Nat)) (ns : List Nat) : Tr → Nat
  | .leaf n => ns.getD n 0
  | .node l r => (tb.getD (fv tb ns l) []).getD (fv tb ns r) 0
def sv (ds tb : List (List Nat)) (ns : List Nat) : Tr → Nat → List Nat
  | .leaf _, s => [s]
  | .node l r, s => sv ds tb ns l s ++ sv ds tb ns r ((ds.getD (fv tb ns l) []).getD s 0)
def Bel (ns : List Nat) (N : Nat) : Prop := ∀ n ∈ ns, n < N
theorem fv_lt {H : Hp} {T : Addr} {rs : List (Addr × List Nat)} {N : Nat} {ns : List Nat} (g : GridAt H T rs N N) (hl : rs.length = N) (hb : Bel ns N) : ∀ {t : Tr} {f : Nat}, IsRow t f → f + t.cnt ≤ ns.length → fv (gr rs) ns t < N
  | .leaf n, f, h, h2 => by
    have e : n = f := h
    subst e
    have h3 : n < ns.length := h2
    exact hb _ (getD_mem h3)
  | .node l r, f, h, h2 => by
    obtain ⟨h3, h4⟩ := h
    have h5 : f + (l.cnt + r.cnt) ≤ ns.length := h2
    have a := fv_lt g hl hb h3 (by omega)
    have b := fv_lt g hl hb h4 (by omega)
    show ((gr rs).getD _ []).getD _ 0 < N
    rw [gr_at (by omega)]
    obtain ⟨_, k1, k2⟩ := g.rows _ (List.getElem_mem (by omega : fv (gr rs) ns l < rs.length))
    exact k2 _ (getD_mem (by omega))
theorem sv_len {ds tb : List (List Nat)} {ns : List Nat} : ∀ {t : Tr} {s : Nat}, (sv ds tb ns t s).length = t.cnt
  | .leaf _, _ => rfl
  | .node l r, s => by
    show (sv ds tb ns l s ++ _).length = l.cnt + r.cnt
    rw [List.length_append, sv_len, sv_len]
theorem sv_in {H : Hp} {T D : Addr} {rs qs : List (Addr × List Nat)} {N S : Nat} {ns : List Nat} (g : GridAt H T rs N N) (hl : rs.length = N) (g2 : GridAt H D qs S S) (hl2 : qs.length = N) (hb : Bel ns N) : ∀ {t : Tr} {f s : Nat}, IsRow t f → f + t.cnt ≤ ns.length → s < S → Bel (sv (gr qs) (gr rs) ns t s) S
  | .leaf n, f, s, h, h2, h3 => by
    intro x hx
    cases List.mem_singleton.mp hx
    exact h3
  | .node l r, f, s, h, h2, h3 => by
    obtain ⟨h4, h5⟩ := h
    have h6 : f + (l.cnt + r.cnt) ≤ ns.length := h2
    have a := fv_lt g hl hb h4 (by omega)
    intro x hx
    rcases List.mem_append.mp hx with h | h
    · exact sv_in g hl g2 hl2 hb h4 (by omega) h3 x h
    · refine sv_in g hl g2 hl2 hb h5 (by omega) ?_ x h
      rw [gr_at (by omega)]
      obtain ⟨_, k1, k2⟩ := g2.rows _ (List.getElem_mem (by omega : fv (gr rs) ns l < qs.length))
      exact k2 _ (getD_mem (by omega))
theorem nat_sh {n : Nat} (h : n ≤ 1000) : Sh (.int (n : Nat)) 0 1921 := int_sh (by omega) (by omega)
theorem nats_sh {xs : List Nat} (h : Bel xs 1000) (hl : xs.length ≤ 60) : Sh (.tuple ((iN xs).map PyData.int)) 1 200000 := by
  refine Sh.tup (n := 0) (c := 1921) (j := 60) (fun x hx => ?_) (Nat.le_refl _) (by unfold iN; rw [List.length_map]; exact hl) (by decide)
  unfold iN at hx
  obtain ⟨n, hn, rfl⟩ := List.mem_map.mp hx
  exact nat_sh (Nat.le_of_lt (h n hn))
/-! ### things that are deeds, asks, trees, as what they are -/
theorem end_of {K : PySem.W.Frag} {p : Addr} {H : Hp} {v : V} {d : PyData} (h : Th K p H v d) (e : isEnd d = true) : ∃ o : Option Int, v = oV o ∧ d = po o := by
  cases d with
  | none => cases h; exact ⟨none, rfl, rfl⟩
  | int i => cases h; exact ⟨some i, rfl, rfl⟩
  | _ => cases e
theorem dd_of {K : PySem.W.Frag} {p : Addr} {H : Hp} {v : V} {d : PyData} (h : Th K p H v d) (e : isDd d = true) : ∃ (a : Addr) (dd : Dd), v = .ref a ∧ H a = some (.tup dd.vs) ∧ dd.Ok := by
  have ed : ∃ a l u, d = .tuple [a, l, u] := by
    cases d with
    | tuple ds =>
      match ds, e with
      | [a, l, u], _ => exact ⟨a, l, u, rfl⟩
    | _ => cases e
  obtain ⟨a, l, u, rfl⟩ := ed
  have e : (isWh a && (isEnd l && (isEnd u && okE a l u))) = true := e
  rw [Bool.and_eq_true, Bool.and_eq_true, Bool.and_eq_true] at e
  obtain ⟨e1, e2, e3, e4⟩ := e
  obtain ⟨b, tr, rfl, hds, hb, htr⟩ := h.tup_inv
  match tr, hds, hb, htr with
  | [x, y, z], hds, hb, htr =>
    have hx := htr x (by simp)
    have hy := htr y (by simp)
    have hz := htr z (by simp)
    injection hds with h1 hds
    injection hds with h2 hds
    injection hds with h3 _
    have h1 : a = x.2 := h1
    have h2 : l = y.2 := h2
    have h3 : u = z.2 := h3
    rw [← h1] at hx
    rw [← h2] at hy
    rw [← h3] at hz
    obtain ⟨i, rfl⟩ := isWh_inv e1
    obtain ⟨o1, ev1, rfl⟩ := end_of hy e2
    obtain ⟨o2, ev2, rfl⟩ := end_of hz e3
    refine ⟨b, ⟨i, o1, o2⟩, rfl, ?_, fun lo up el eh => ?_⟩
    · rw [hb]
      show some (HO.tup [x.1, y.1, z.1]) = some (HO.tup [.int i, oV o1, oV o2])
      rw [hx.int_inv, ev1, ev2]
    · have el : o1 = some lo := el
      have eh : o2 = some up := eh
      subst el eh
      have e4 : (decide (lo < up) || (decide (lo = up) && decide (i = 0))) = true := e4
      rw [Bool.or_eq_true, Bool.and_eq_true, decide_eq_true_iff, decide_eq_true_iff, decide_eq_true_iff] at e4
      exact e4
theorem ak_of {K : PySem.W.Frag} {p : Addr} {H : Hp} {v : V} {d : PyData} {n : Nat} (h : Th K p H v d) (e : isAk n d = true) : ∃ (a da : Addr) (x : Int) (b : Nat) (dd : Dd), v = .ref a ∧ H a = some (.tup [.int x, .int b, .ref da]) ∧ H da = some (.tup dd.vs) ∧ b < n := by
  have ed : ∃ a l u, d = .tuple [a, l, u] := by
    cases d with
    | tuple ds =>
      match ds, e with
      | [a, l, u], _ => exact ⟨a, l, u, rfl⟩
    | _ => cases e
  obtain ⟨a, l, u, rfl⟩ := ed
  have e : (isWh a && (isWh l && ((decide (0 ≤ wnD a) && decide (wnD a < 16)) && ((decide (0 ≤ wnD l) && decide (wnD l < (n : Int))) && isDd u)))) = true := e
  rw [Bool.and_eq_true, Bool.and_eq_true, Bool.and_eq_true, Bool.and_eq_true, Bool.and_eq_true, Bool.and_eq_true] at e
  obtain ⟨e1, e2, _, ⟨e3, e4⟩, e5⟩ := e
  obtain ⟨b, tr, rfl, hds, hb, htr⟩ := h.tup_inv
  match tr, hds, hb, htr with
  | [x, y, z], hds, hb, htr =>
    have hx := htr x (by simp)
    have hy := htr y (by simp)
    have hz := htr z (by simp)
    injection hds with h1 hds
    injection hds with h2 hds
    injection hds with h3 _
    have h1 : a = x.2 := h1
    have h2 : l = y.2 := h2
    have h3 : u = z.2 := h3
    rw [← h1] at hx
    rw [← h2] at hy
    rw [← h3] at hz
    obtain ⟨i, rfl⟩ := isWh_inv e1
    obtain ⟨j, rfl⟩ := isWh_inv e2
    have e3 : 0 ≤ j := of_decide_eq_true e3
    have e4 : j < (n : Int) := of_decide_eq_true e4
    obtain ⟨da, dd, ev, hd, _⟩ := dd_of hz e5
    refine ⟨b, da, i, j.toNat, dd, rfl, ?_, hd, by omega⟩
    rw [hb]
    show some (HO.tup [x.1, y.1, z.1]) = _
    rw [hx.int_inv, hy.int_inv, ev, Int.toNat_of_nonneg e3]
/-- a tree with its leaves below m, so high -/
theorem tr_of {K : PySem.W.Frag} {p : Addr} {H : Hp} {m : Nat} {v : V} {d : PyData} (h : Th K p H v d) : (lv d).all isWh = true → (∀ x ∈ lv d, 0 ≤ wv x ∧ wv x < (m : Int)) → ∃ t : Tr, TrAt H v t ∧ t.big < m ∧ t.cnt = (lv d).length := by
  induction h with
  | int i =>
    intro _ h
    have hi := h (.int i) List.mem_cons_self
    have h1 : 0 ≤ i := hi.1
    have h2 : i < (m : Int) := hi.2
    exact ⟨.leaf i.toNat, by show V.int i = V.int ((i.toNat : Nat) : Int); rw [Int.toNat_of_nonneg h1], by show i.toNat < m; omega, rfl⟩
  | @tup a tr h1 _ ih =>
    intro ha hr
    match tr, h1, ih, ha, hr with
    | [], _, _, ha, _ => cases ha
    | [_], _, _, ha, _ => cases ha
    | _ :: _ :: _ :: _, _, _, ha, _ => cases ha
    | [x, y], h1, ih, ha, hr =>
      have e : lv (.tuple [x.2, y.2]) = lv x.2 ++ lv y.2 := rfl
      have ha : (lv x.2 ++ lv y.2).all isWh = true := ha
      rw [List.all_append, Bool.and_eq_true] at ha
      obtain ⟨t1, a1, b1, c1⟩ := ih x (by simp) ha.1 fun z hz => hr z (by show z ∈ lv x.2 ++ lv y.2; exact List.mem_append_left _ hz)
      obtain ⟨t2, a2, b2, c2⟩ := ih y (by simp) ha.2 fun z hz => hr z (by show z ∈ lv x.2 ++ lv y.2; exact List.mem_append_right _ hz)
      refine ⟨.node t1 t2, ⟨a, x.1, y.1, rfl, h1, a1, a2⟩, by show max t1.big t2.big < m; omega, ?_⟩
      show t1.cnt + t2.cnt = (lv x.2 ++ lv y.2).length
      rw [List.length_append, c1, c2]
  | non => intro ha; cases ha
  | bl b => intro ha; cases ha
  | str x => intro ha; cases ha
  | lst => intro ha; cases ha
  | dct => intro ha; cases ha
theorem tr_is {K : PySem.W.Frag} {p : Addr} {H : Hp} {m : Nat} {v : V} {d : PyData} (h : Th K p H v d) (e : isT d m = true) : ∃ t : Tr, TrAt H v t ∧ t.big < m ∧ t.h ≤ m ∧ t.cnt = m := by
  have e : ((lv d).all isWh && decide ((lv d).map wv = (List.range m).map fun n : Nat => (n : Int))) = true := e
  rw [Bool.and_eq_true, decide_eq_true_iff] at e
  have hl : (lv d).length = m := by
    have := congrArg List.length e.2
    rw [List.length_map, List.length_map, List.length_range] at this
    exact this
  obtain ⟨t, a, b, c⟩ := tr_of (m := m) h e.1 fun x hx => by
    have hm : wv x ∈ (lv d).map wv := List.mem_map_of_mem hx
    rw [e.2] at hm
    obtain ⟨n, hn, e3⟩ := List.mem_map.mp hm
    have := List.mem_range.mp hn
    omega
  exact ⟨t, a, b, by have := t.h_cnt; omega, by omega⟩
/-- a row of one to forty deeds -/
def okDs : PyData → Bool
  | .tuple ds => decide (1 ≤ ds.length) && (decide (ds.length ≤ 40) && ds.all isDd)
  | _ => false
theorem okDs_no {d : PyData} (h : isTu d = false) : okDs d = false := by cases d <;> first | rfl | cases h
theorem okDs_tu {d : PyData} (h : okDs d = true) : ∃ ds, d = .tuple ds ∧ 1 ≤ ds.length ∧ ds.length ≤ 40 ∧ ds.all isDd = true := by
  cases d with
  | tuple ds =>
    have h : (decide (1 ≤ ds.length) && (decide (ds.length ≤ 40) && ds.all isDd)) = true := h
    rw [Bool.and_eq_true, Bool.and_eq_true, decide_eq_true_iff, decide_eq_true_iff] at h
    exact ⟨ds, rfl, h.1, h.2.1, h.2.2⟩
  | _ => cases h
/-- a row of deeds, however great -/
def DnAt (H : Hp) (k : Addr) (ps : List (Addr × Dd)) : Prop := H k = some (.tup (ps.map fun x => .ref x.1)) ∧ ∀ x ∈ ps, H x.1 = some (.tup x.2.vs)
theorem DnAt.same {H H' : Hp} {k : Addr} {ps : List (Addr × Dd)} (h : DnAt H k ps) (e : Same H H') : DnAt H' k ps := ⟨e _ _ h.1, fun x hx => e _ _ (h.2 x hx)⟩
theorem tr_list {α : Type} {P : V × PyData → α → Prop} : ∀ {tr : List (V × PyData)}, (∀ t ∈ tr, ∃ x, P t x) → ∃ xs : List α, Paired P tr xs
  | [], _ => ⟨[], .nil⟩
  | t :: r, h => by
    obtain ⟨x, hx⟩ := h t List.mem_cons_self
    obtain ⟨xs, hxs⟩ := tr_list (tr := r) fun y hy => h y (List.mem_cons_of_mem _ hy)
    exact ⟨x :: xs, .cons hx hxs⟩
theorem paired_fst {tr : List (V × PyData)} {ps : List (Addr × Dd)} {H : Hp} (h : Paired (fun (t : V × PyData) (x : Addr × Dd) => t.1 = .ref x.1 ∧ H x.1 = some (.tup x.2.vs)) tr ps) : tr.map (fun t => t.1) = ps.map (fun x => V.ref x.1) ∧ ∀ x ∈ ps, H x.1 = some (.tup x.2.vs) := by
  induction h with
  | nil => exact ⟨rfl, fun x hx => nomatch hx⟩
  | cons h1 _ ih =>
    obtain ⟨i1, i2⟩ := ih
    refine ⟨by rw [List.map_cons, List.map_cons, i1, h1.1], fun x hx => ?_⟩
    rcases List.mem_cons.mp hx with rfl | hx
    · exact h1.2
    · exact i2 x hx
theorem dn_of {K : PySem.W.Frag} {p : Addr} {H : Hp} {v : V} {ds : List PyData} (h : Th K p H v (.tuple ds)) (e : ds.all isDd = true) : ∃ (k : Addr) (ps : List (Addr × Dd)), v = .ref k ∧ DnAt H k ps ∧ ps.length = ds.length := by
  obtain ⟨k, tr, rfl, rfl, hk, htr⟩ := h.tup_inv
  obtain ⟨ps, hp⟩ := tr_list (tr := tr) (P := fun (t : V × PyData) (x : Addr × Dd) => t.1 = .ref x.1 ∧ H x.1 = some (.tup x.2.vs)) fun t ht => by
    obtain ⟨a, dd, ev, ho, _⟩ := dd_of (htr t ht) (List.all_eq_true.mp e _ (List.mem_map_of_mem ht))
    exact ⟨(a, dd), ev, ho⟩
  obtain ⟨e1, e2⟩ := paired_fst hp
  refine ⟨k, ps, rfl, ⟨by rw [hk, e1], e2⟩, ?_⟩
  have := congrArg List.length e1
  rw [List.length_map, List.length_map] at this
  rw [List.length_map]; exact this.symm
/-! ### tuple(d.values()), list(d.values()), d a dict by tuples -/
/-- the view of the values of the dict at d -/
def valsO (p d : Addr) : HO := .ext fun h => h.IsValuesView p d
theorem valsO_of {P : Program} {w : World} {H : Hp} {h : Heap} {p d : Addr} (e : h.get? p = some { cls := .type "dict_values", data := .fields #[.ref d] }) : ObjOk P w H h p (valsO p d) :=
  ⟨⟨_, e, rfl, rfl⟩, ⟨_, e⟩, fun h1 h2 x k => by obtain ⟨o, ho, r⟩ := x; exact ⟨o, k o ho, r⟩⟩
def rValT : V → List V → Hp → VK → Prop := fun x xs H Q => ∃ a kvs, x = V.ref a ∧ xs = [] ∧ H a = some (.dT kvs) ∧ ∀ p, H p = none → Q (.ref p) (upd H p (valsO p a))
theorem mt_valT {X : Cx} : MtR X "dict.values" rValT := by
  intro pins s σ H x xs v us Q I rx rxs h
  obtain ⟨a, kvs, rfl, rfl, ha, q⟩ := h
  cases rx
  cases rxs
  obtain ⟨_, hs, ks, o, es, ep, _, ho, hx, hdt, _⟩ := keysDT I ha
  have hn : H s.heap.objs.size = none := I.hok.fresh (Nat.le_refl _)
  refine call_meetsIn PySem.F.slot_dict_values (T := "dict") ⟨o, ho, hx.1⟩ PySem.F.entry_dict_values (PySem.F.args_dict_values_1 _) (PySem.meets_dict_values_raw a hs) ⟨⟨es, ep, o, ho, hx, hdt⟩, ?_⟩
  exact ⟨.ref s.heap.objs.size, upd H s.heap.objs.size (valsO s.heap.objs.size a), I.laid (t' := s.toks) (fun b u e => Heap.get?_push_of_some _ e) (Nat.le_refl _) (valsO_of (Heap.get?_push_size _ rfl)), rfl, q _ hn⟩
theorem accVT {X : Cx} {H : Hp} {kvs : List (List Key × V)} {es : Array DictEntry} {ks : List (List Key × Addr × Value)} (pr : KT H kvs ks) (he : es.toList = ks.map (entryOfKey (tupleKind (mixKind X.prog X.w)))) {acc : Array Value}
    (it : ItemsOf (fun i v => ∃ hi : i < es.size, v = es[i].val) acc es.size) : Vals (kvs.map fun kv => kv.2) acc.toList := by
  have l1 : es.size = ks.length := size_of_entries he
  have e1 : acc.toList = ks.map fun x => x.2.2 := by
    have hl : acc.toList.length = ks.length := by rw [Array.length_toList, it.1]; exact l1
    refine List.ext_getElem? fun j => ?_
    rw [List.getElem?_map]
    cases hj : acc.toList[j]? with
    | none =>
      have h1 := List.getElem?_eq_none_iff.mp hj
      rw [List.getElem?_eq_none (by omega)] <;> rfl
    | some v =>
      obtain ⟨hi, hv⟩ := it.2 j v (by rw [← Array.getElem?_toList]; exact hj)
      have qe := entry_at he j
      have e0 : es[j]? = some es[j] := Array.getElem?_eq_getElem hi
      cases hb : ks[j]? with
      | none =>
        have := List.getElem?_eq_none_iff.mp hb
        omega
      | some b =>
        have qe2 : some es[j] = some (entryOfKey (tupleKind (mixKind X.prog X.w)) b) := by rw [← e0, qe, hb] <;> rfl
        rw [hv, Option.some.inj qe2] <;> rfl
  rw [e1]
  clear e1 it he l1
  induction pr with
  | nil => exact .nil
  | cons h t ih => exact .cons h.2.2 ih
def rTupVals : List V → Hp → VK → Prop := fun xs H Q => ∃ p d kvs, xs = [V.ref p] ∧ H p = some (valsO p d) ∧ H d = some (.dT kvs) ∧ ∀ T, H T = none → Q (.ref T) (upd H T (.tup (kvs.map fun kv => kv.2)))
theorem code_tup_vals {X : Cx} {pins : List (Addr × Obj)} {σ : L2.St} {H : Hp} {s : Shared} (I : Inv X pins σ H s) {A : Around} {E : Value → Shared → Prop} (hh : A.handled = none) {p d : Addr} {kvs : List (List Key × V)} (hp : H p = some (valsO p d)) (hd : H d = some (.dT kvs)) {Q₁ : Value → Shared → Prop}
    (q : ∀ s' T, Inv X pins σ (upd H T (.tup (kvs.map fun kv => kv.2))) s' → s'.TypeIs (.ref T) "tuple" → H T = none → Q₁ (.ref T) s') :
    codeAny (model X.prog X.w) A (.call (.builtin "tuple.__new__") ⟨[.type "tuple", .ref p], []⟩) (wants Q₁ E) s := by
  obtain ⟨z, hs, ks, o, es, ep, pr, ho, hx, hdt, he⟩ := keysDT I hd
  have view : s.heap.IsValuesView p d := (show ObjOk X.prog X.w H s.heap p (valsO p d) from I.hok p _ hp).1
  have l2 : kvs.length = ks.length := Paired.length pr
  have l1 : es.size = ks.length := size_of_entries he
  have hes : es.size ≤ sizeLine := by omega
  refine codeAny_of_tree ?_
  show wpAny _ A.in1 (do checkBuiltinCall "tuple.__new__" ⟨[.type "tuple", .ref p], []⟩; again (.builtin "tuple.__new__" ⟨[.type "tuple", .ref p], []⟩)) _ _ s
  refine wpAny_bind (wpAny_of_eq (F.newCall_tuple_1 _) (wpAny_pure ⟨plainId_quiet F.plain_tuple_new _, codeAny_builtin F.entry_tuple_new ?_⟩))
  rw [Around.under_plainId F.plain_tuple_new _]
  have hsub := sub_tuple_self
  have hinit := init_tuple_lookup
  have hmh := madeHere_tuple
  have hTI : s.TypeIs (.ref p) "dict_values" := view.typeIs
  have hh1 : A.in1.handled = none := hh
  have raw : s.heap.DictRaw d es ep := ⟨o, ho, hx, hdt⟩
  wp_walk using wpAny_typeOf hTI, PySem.W.kdu_collect (A := A.in1) PySem.KdlSrc.rawValues hh1 ⟨view, raw⟩ hes
  intro h' tk acc kp it
  have rv := accVT pr he it
  have hsl : acc.toList.length ≤ sizeLine := by rw [← rv.length, List.length_map]; omega
  show wpAny _ _ (Builtin.Tuple.tupleExact acc.toList.toArray >>= fun v => ret v) _ _ _
  unfold Builtin.Tuple.tupleExact
  refine wpAny_bind (wpAny_newObj_type ?_ (by show acc.toList.toArray.size ≤ sizeLine; simpa using hsl))
  refine wpAny_pure ?_
  have I' : Inv X pins σ H { s with heap := h', toks := tk } := I.kept (t' := tk) kp
  have hfr' : H h'.objs.size = none := I'.hok.fresh (Nat.le_refl _)
  have gT : (h'.push { cls := .type "tuple", data := .seq acc.toList.toArray }).get? h'.objs.size = some { cls := .type "tuple", data := .seq acc.toList.toArray } := Heap.get?_push_size _ rfl
  have I2 : Inv X pins σ (upd H h'.objs.size (.tup (kvs.map fun kv => kv.2))) { s with heap := h'.push { cls := .type "tuple", data := .seq acc.toList.toArray }, toks := tk } :=
    I'.laid (t' := tk) (fun b u e => Heap.get?_push_of_some _ e) (Nat.le_refl _) ⟨by rw [rv.length]; exact hsl, acc.toList, rv, ⟨_, gT, rfl, _, rfl⟩⟩
  exact q _ _ I2 ⟨_, gT, rfl⟩ hfr'
theorem call_tup_vals {X : Cx} (hcalm : X.calm = true) : CallR X (.type "tuple") rTupVals := by
  intro pins s σ H xs us Q I r h
  obtain ⟨p, d, kvs, rfl, hp, hd, q⟩ := h
  obtain ⟨u, rfl, rx⟩ := r.one
  cases rx
  have hh : X.A.in1.handled = none := show X.A.handled = none from I.ok.hd hcalm
  refine callType_codes (Q₁ := fun obj s₁ => s₁.TypeIs obj "tuple" ∧ EP X pins σ Q obj s₁) F.called_tuple (F.typeCall_tuple_1 _) F.entry_object_init
    (code_tup_vals I (A := X.A.in1) hh hp hd fun s' T I' hty hn => ⟨hty, .ref T, _, I', rfl, q T hn⟩) fun obj s₁ h₁ => ?_
  exact ⟨h₁.1, F.args_object_init_2 obj _, object_init_meets F.called_tuple.init.lookup F.called_tuple.made (by decide) X.prog X.w X.A.in1 _ s₁ ⟨h₁.1, rfl, h₁.2⟩⟩
def rLstVals : List V → Hp → VK → Prop := fun xs H Q => ∃ p d kvs, xs = [V.ref p] ∧ H p = some (valsO p d) ∧ H d = some (.dT kvs) ∧ ∀ T, H T = none → Q (.ref T) (upd H T (.lst (kvs.map fun kv => kv.2)))
theorem call_lst_vals {X : Cx} (hcalm : X.calm = true) : CallR X (.type "list") rLstVals := by
  intro pins s σ H xs us Q I r h
  obtain ⟨p, d, kvs, rfl, hp, hd, q⟩ := h
  obtain ⟨u, rfl, rx⟩ := r.one
  cases rx
  obtain ⟨z, hs, ks, o, es, ep, pr, ho, hx, hdt, he⟩ := keysDT I hd
  have view : s.heap.IsValuesView p d := (show ObjOk X.prog X.w H s.heap p (valsO p d) from I.hok p _ hp).1
  have l2 : kvs.length = ks.length := Paired.length pr
  have l1 : es.size = ks.length := size_of_entries he
  refine PySem.W.kdl_call PySem.KdlSrc.rawValues (I.ok.hd hcalm) ⟨view, o, ho, hx, hdt⟩ (by omega) fun h' tk acc c kp e it => ?_
  have rv := accVT pr he it
  refine ⟨.ref s.heap.objs.size, _, I.laid (t' := tk) (o := .lst (kvs.map fun kv => kv.2)) kp (Nat.le_refl _) ?_, rfl, q _ (I.hok.fresh (Nat.le_refl _))⟩
  exact ⟨by rw [List.length_map]; omega, acc.toList, c, rv, by rw [Array.toArray_toList]; exact e⟩
def tVals (b : Bool) (te : TE) : TE := fun σ H Q => te σ H fun x H1 => ∃ a kvs, x = V.ref a ∧ H1 a = some (.dT kvs) ∧ ∀ p T H2, Same H1 H2 → H2 T = some (if b then .tup (kvs.map fun kv => kv.2) else .lst (kvs.map fun kv => kv.2)) → H1 p = none → T ≠ p → H1 T = none → Q (.ref T) H2
/-! ### deeds by table, their families: plain law -/
def thn (a b : List Nat) : List Nat := a.map fun s => b.getD s 0
def Dt (S : Nat) (d : List Nat) : Prop := d.length = S ∧ Bel d S
theorem getD_thn {a b : List Nat} {s : Nat} (h : s < a.length) : (thn a b).getD s 0 = b.getD (a.getD s 0) 0 := by
  unfold thn
  rw [List.getD_eq_getElem?_getD, List.getElem?_map, List.getElem?_eq_getElem h, show a.getD s 0 = a[s] from by rw [List.getD_eq_getElem?_getD, List.getElem?_eq_getElem h] <;> rfl] <;> rfl
theorem thn_dt {S : Nat} {a b : List Nat} (ha : Dt S a) (hb : Dt S b) : Dt S (thn a b) := by
  refine ⟨by unfold thn; rw [List.length_map]; exact ha.1, fun x hx => ?_⟩
  obtain ⟨s, hs, rfl⟩ := List.mem_map.mp hx
  exact hb.2 _ (getD_mem (by rw [hb.1]; exact ha.2 s hs))
theorem thn_assoc {S : Nat} {a b c : List Nat} (ha : Dt S a) (hb : Dt S b) : thn (thn a b) c = thn a (thn b c) := by
  unfold thn
  rw [List.map_map]
  refine List.map_congr_left fun s hs => ?_
  have h : s < b.length := by rw [hb.1]; exact ha.2 s hs
  exact (getD_thn (a := b) (b := c) h).symm
theorem idD_dt {S : Nat} : Dt S (List.range S) := ⟨List.length_range, fun x hx => List.mem_range.mp hx⟩
theorem thn_one {S : Nat} {a : List Nat} (ha : Dt S a) : thn a (List.range S) = a := by
  unfold thn
  conv => rhs; rw [← List.map_id a]
  refine List.map_congr_left fun s hs => ?_
  rw [List.getD_eq_getElem?_getD, List.getElem?_range (ha.2 s hs)] <;> rfl
theorem one_thn {S : Nat} {b : List Nat} (hb : Dt S b) : thn (List.range S) b = b := by
  refine List.ext_getElem? fun i => ?_
  unfold thn
  rw [List.getElem?_map]
  by_cases h : i < S
  · rw [List.getElem?_range h, getD_at (by rw [hb.1]; exact h)] <;> rfl
  · rw [List.getElem?_eq_none (by rw [List.length_range]; omega), List.getElem?_eq_none (by rw [hb.1]; omega)] <;> rfl
inductive Rch (S : Nat) (M : List (List Nat)) : List Nat → Prop
  | one : Rch S M (List.range S)
  | go {d m : List Nat} : Rch S M d → m ∈ M → Rch S M (thn d m)
theorem Rch.dt {S : Nat} {M : List (List Nat)} (hM : ∀ m ∈ M, Dt S m) {d : List Nat} (r : Rch S M d) : Dt S d := by
  induction r with
  | one => exact idD_dt
  | go _ hm ih => exact thn_dt ih (hM _ hm)
structure Fam (S : Nat) (M F : List (List Nat)) : Prop where
  one : List.range S ∈ F
  cl : ∀ d ∈ F, ∀ m ∈ M, thn d m ∈ F
  rch : ∀ d ∈ F, Rch S M d
  nd : F.Nodup
theorem Fam.all {S : Nat} {M F : List (List Nat)} (f : Fam S M F) {d : List Nat} (r : Rch S M d) : d ∈ F := by
  induction r with
  | one => exact f.one
  | go _ hm ih => exact f.cl _ ih _ hm
theorem Fam.mul {S : Nat} {M F : List (List Nat)} (f : Fam S M F) (hM : ∀ m ∈ M, Dt S m) {a b : List Nat} (ha : a ∈ F) (hb : b ∈ F) : thn a b ∈ F := by
  have da := (f.rch a ha).dt hM
  have r := f.rch b hb
  induction r with
  | one => rw [thn_one da]; exact ha
  | go r hm ih => rw [← thn_assoc da (r.dt hM)]; exact f.cl _ (ih (f.all r)) _ hm
theorem nodup_le {α : Type} [DecidableEq α] : ∀ {K F : List α}, K.Nodup → (∀ d ∈ K, d ∈ F) → K.length ≤ F.length
  | [], _, _, _ => Nat.zero_le _
  | d :: K, F, nd, h => by
    rw [List.nodup_cons] at nd
    have h1 := h d List.mem_cons_self
    have h2 := nodup_le (K := K) (F := F.erase d) nd.2 fun x hx => (List.mem_erase_of_ne (fun e => nd.1 (by rw [← e]; exact hx))).mpr (h x (List.mem_cons_of_mem _ hx))
    have h3 := List.length_erase_of_mem h1
    have h4 := List.length_pos_of_mem h1
    rw [List.length_cons]
    omega
def pw (S : Nat) (m : List Nat) : Nat → List Nat
  | 0 => List.range S
  | n + 1 => thn (pw S m n) m
/-- the powers, told at once -/
def pws (m : List Nat) : Nat → List Nat → List (List Nat)
  | 0, _ => []
  | n + 1, d => d :: pws m n (thn d m)
def cyc (S : Nat) (m : List Nat) : Bool := let l := pws m 12 (List.range S); let z := l.getD 11 []; (l.take 11).any fun d => d == z
theorem cyc1 : ∀ a, a < 1 → cyc 1 [a] = true := by decide +kernel
theorem cyc2 : ∀ a, a < 2 → ∀ b, b < 2 → cyc 2 [a, b] = true := by decide +kernel
theorem cyc3 : ∀ a, a < 3 → ∀ b, b < 3 → ∀ c, c < 3 → cyc 3 [a, b, c] = true := by decide +kernel
theorem cyc4 : ∀ a, a < 4 → ∀ b, b < 4 → ∀ c, c < 4 → ∀ d, d < 4 → cyc 4 [a, b, c, d] = true := by decide +kernel
theorem cyc5 : ∀ a, a < 5 → ∀ b, b < 5 → ∀ c, c < 5 → ∀ d, d < 5 → ∀ e, e < 5 → cyc 5 [a, b, c, d, e] = true := by decide +kernel
theorem cyc_all {S : Nat} {m : List Nat} (h1 : 1 ≤ S) (h5 : S ≤ 5) (h : Dt S m) : cyc S m = true := by
  obtain ⟨l, b⟩ := h
  match m, l, b with
  | [], l, b => have : S = 0 := l.symm; omega
  | [a], l, b => have e : S = 1 := l.symm; subst e; exact cyc1 a (b a (by simp))
  | [a, a2], l, b => have e : S = 2 := l.symm; subst e; exact cyc2 a (b a (by simp)) a2 (b a2 (by simp))
  | [a, a2, a3], l, b => have e : S = 3 := l.symm; subst e; exact cyc3 a (b a (by simp)) a2 (b a2 (by simp)) a3 (b a3 (by simp))
  | [a, a2, a3, a4], l, b => have e : S = 4 := l.symm; subst e; exact cyc4 a (b a (by simp)) a2 (b a2 (by simp)) a3 (b a3 (by simp)) a4 (b a4 (by simp))
  | [a, a2, a3, a4, a5], l, b => have e : S = 5 := l.symm; subst e; exact cyc5 a (b a (by simp)) a2 (b a2 (by simp)) a3 (b a3 (by simp)) a4 (b a4 (by simp)) a5 (b a5 (by simp))
  | _ :: _ :: _ :: _ :: _ :: _ :: r, l, b => simp at l; omega
theorem pws_get (S : Nat) (m : List Nat) : ∀ (n k i : Nat), i < n → (pws m n (pw S m k))[i]? = some (pw S m (k + i))
  | 0, _, _, h => absurd h (Nat.not_lt_zero _)
  | n + 1, k, 0, _ => rfl
  | n + 1, k, i + 1, h => by
    show (pws m n (pw S m (k + 1)))[i]? = _
    rw [pws_get S m n (k + 1) i (by omega)]
    congr 2
    omega
theorem pws_len (m : List Nat) : ∀ (n : Nat) (d : List Nat), (pws m n d).length = n
  | 0, _ => rfl
  | n + 1, d => congrArg (· + 1) (pws_len m n (thn d m))
theorem pw_cyc {S : Nat} {m : List Nat} (h1 : 1 ≤ S) (h5 : S ≤ 5) (h : Dt S m) : ∃ i, i < 11 ∧ pw S m i = pw S m 11 := by
  have c := cyc_all h1 h5 h
  unfold cyc at c
  simp only [List.any_eq_true] at c
  obtain ⟨d, hd, e⟩ := c
  have e2 : d = (pws m 12 (List.range S)).getD 11 [] := by simpa using e
  have e3 : (pws m 12 (List.range S)).getD 11 [] = pw S m 11 := by
    rw [List.getD_eq_getElem?_getD, show pws m 12 (List.range S) = pws m 12 (pw S m 0) from rfl, pws_get S m 12 0 11 (by omega)] <;> rfl
  obtain ⟨i, hi, e4⟩ := List.getElem_of_mem hd
  rw [List.length_take, pws_len] at hi
  refine ⟨i, by omega, ?_⟩
  rw [List.getElem_take] at e4
  have e5 := pws_get S m 12 0 i (by omega)
  rw [Nat.zero_add] at e5
  have e6 : (pws m 12 (List.range S))[i]? = some ((pws m 12 (List.range S))[i]'(by rw [pws_len]; omega)) := List.getElem?_eq_getElem _
  rw [show pws m 12 (pw S m 0) = pws m 12 (List.range S) from rfl, e6, e4] at e5
  rw [← Option.some.inj e5, e2, e3]
/-- one maker makes few -/
theorem one_few {S : Nat} {m : List Nat} {K : List (List Nat)} (h1 : 1 ≤ S) (h5 : S ≤ 5) (h : Dt S m) (nd : K.Nodup) (r : ∀ d ∈ K, Rch S [m] d) : K.length ≤ 11 := by
  obtain ⟨i, hi, e⟩ := pw_cyc h1 h5 h
  have all : ∀ d, Rch S [m] d → ∃ n, n < 11 ∧ d = pw S m n := by
    intro d r
    induction r with
    | one => exact ⟨0, by omega, rfl⟩
    | @go d m' _ hm ih =>
      cases List.mem_singleton.mp hm
      obtain ⟨n, hn, rfl⟩ := ih
      by_cases c : n + 1 < 11
      · exact ⟨n + 1, c, rfl⟩
      · have : n = 10 := by omega
        subst this
        exact ⟨i, hi, e.symm⟩
  have := nodup_le (F := (List.range 11).map (pw S m)) nd fun d hd => by
    obtain ⟨n, hn, rfl⟩ := all d (r d hd)
    exact List.mem_map.mpr ⟨n, List.mem_range.mpr hn, rfl⟩
  rwa [List.length_map, List.length_range] at this
/-! ### families in order: plain law (wants st16d) -/
abbrev PF := List (List Nat × List Nat)
def kf (F : PF) : List (List Nat) := F.map fun x => x.1
def ap1 (F : PF) (x : List Nat × List Nat) : PF := if x.1 ∈ kf F then F else F ++ [x]
def apn (M : List (List Nat)) (d w : List Nat) : Nat → PF → PF
  | 0, F => F
  | j + 1, F => ap1 (apn M d w j F) (thn d (M.getD j []), w ++ [j])
def gp (S : Nat) (M : List (List Nat)) : Nat → PF
  | 0 => [(List.range S, [])]
  | n + 1 => match (gp S M n)[n]? with
    | some x => apn M x.1 x.2 M.length (gp S M n)
    | none => gp S M n
theorem kf_snoc {F : PF} {x : List Nat × List Nat} : kf (F ++ [x]) = kf F ++ [x.1] := by unfold kf; rw [List.map_append] <;> rfl
theorem kf_len {F : PF} : (kf F).length = F.length := by unfold kf; rw [List.length_map]
theorem ap1_pre {F : PF} {x : List Nat × List Nat} : F <+: ap1 F x := by
  unfold ap1
  split
  · exact List.prefix_refl _
  · exact List.prefix_append _ _
theorem ap1_mem {F : PF} {x : List Nat × List Nat} : x.1 ∈ kf (ap1 F x) := by
  unfold ap1
  split
  · assumption
  · rw [kf_snoc]; simp
theorem apn_pre {M : List (List Nat)} {d w : List Nat} : ∀ (j : Nat) (F : PF), F <+: apn M d w j F
  | 0, F => List.prefix_refl _
  | j + 1, F => (apn_pre j F).trans ap1_pre
theorem pre_mem {F G : PF} (h : F <+: G) {d : List Nat} (hd : d ∈ kf F) : d ∈ kf G := by
  obtain ⟨x, hx, rfl⟩ := List.mem_map.mp hd
  exact List.mem_map.mpr ⟨x, h.subset hx, rfl⟩
theorem apn_mem {M : List (List Nat)} {d w : List Nat} {F : PF} : ∀ (j i : Nat), i < j → thn d (M.getD i []) ∈ kf (apn M d w j F)
  | 0, _, h => absurd h (Nat.not_lt_zero _)
  | j + 1, i, h => by
    rcases Nat.lt_or_ge i j with c | c
    · exact pre_mem ap1_pre (apn_mem j i c)
    · obtain rfl : i = j := by omega
      exact ap1_mem
theorem gp_pre1 {S : Nat} {M : List (List Nat)} (n : Nat) : gp S M n <+: gp S M (n + 1) := by
  show _ <+: (match (gp S M n)[n]? with
    | some x => apn M x.1 x.2 M.length (gp S M n)
    | none => gp S M n)
  split
  · exact apn_pre _ _
  · exact List.prefix_refl _
theorem gp_pre {S : Nat} {M : List (List Nat)} {n : Nat} : ∀ k, gp S M n <+: gp S M (n + k)
  | 0 => List.prefix_refl _
  | k + 1 => (gp_pre k).trans (gp_pre1 (n + k))
theorem pre_get {F G : PF} (h : F <+: G) {i : Nat} {x : List Nat × List Nat} (e : F[i]? = some x) : G[i]? = some x := by
  obtain ⟨t, rfl⟩ := h
  have := (List.getElem?_eq_some_iff.mp e).1
  rw [List.getElem?_append_left this]
  exact e
theorem gp_next {S : Nat} {M : List (List Nat)} {n : Nat} {x : List Nat × List Nat} (e : (gp S M n)[n]? = some x) : gp S M (n + 1) = apn M x.1 x.2 M.length (gp S M n) := by
  show (match (gp S M n)[n]? with
    | some x => apn M x.1 x.2 M.length (gp S M n)
    | none => gp S M n) = _
  rw [e]
/-- what holds of all the states -/
structure Gq (S : Nat) (M : List (List Nat)) (F : PF) : Prop where
  nd : (kf F).Nodup
  rc : ∀ d ∈ kf F, Rch S M d
  one : List.range S ∈ kf F
  wl : ∀ x ∈ F, x.2.length < F.length
  wb : ∀ x ∈ F, Bel x.2 M.length
theorem Gq.ap {S : Nat} {M : List (List Nat)} {F : PF} (g : Gq S M F) {d w : List Nat} (h : (d, w) ∈ F) {j : Nat} (hj : j < M.length) : Gq S M (ap1 F (thn d (M.getD j []), w ++ [j])) := by
  unfold ap1
  split
  · exact g
  · rename_i c
    have hm : M.getD j [] ∈ M := by
      rw [List.getD_eq_getElem?_getD, List.getElem?_eq_getElem hj]
      exact List.getElem_mem hj
    refine ⟨?_, fun y hy => ?_, ?_, fun x hx => ?_, fun x hx => ?_⟩
    · rw [kf_snoc, List.nodup_append]
      refine ⟨g.nd, by simp, fun a ha b hb z => ?_⟩
      rw [List.mem_singleton.mp hb] at z
      exact c (z ▸ ha)
    · rw [kf_snoc] at hy
      rcases List.mem_append.mp hy with z | z
      · exact g.rc y z
      · rw [List.mem_singleton.mp z]
        exact .go (g.rc d (List.mem_map.mpr ⟨_, h, rfl⟩)) hm
    · rw [kf_snoc]
      exact List.mem_append_left _ g.one
    · rw [List.length_append]
      rcases List.mem_append.mp hx with z | z
      · have := g.wl x z
        show _ < _ + 1
        omega
      · rw [List.mem_singleton.mp z]
        have := g.wl _ h
        show (w ++ [j]).length < _ + 1
        rw [List.length_append]
        show _ + 1 < _ + 1
        have e : (d, w).2.length = w.length := rfl
        omega
    · rcases List.mem_append.mp hx with z | z
      · exact g.wb x z
      · rw [List.mem_singleton.mp z]
        intro y hy
        rcases List.mem_append.mp hy with z | z
        · exact g.wb _ h y z
        · rw [List.mem_singleton.mp z]
          exact hj
theorem Gq.apn {S : Nat} {M : List (List Nat)} {F : PF} (g : Gq S M F) {d w : List Nat} (h : (d, w) ∈ F) : ∀ j, j ≤ M.length → Gq S M (Toy.apn M d w j F)
  | 0, _ => g
  | j + 1, hj => (g.apn h j (by omega)).ap ((apn_pre j F).subset h) (by omega)
theorem gp_gq {S : Nat} {M : List (List Nat)} : ∀ n, Gq S M (gp S M n)
  | 0 => ⟨by simp [gp, kf], fun d hd => by
      have : d = List.range S := by simpa [gp, kf] using hd
      subst this
      exact .one, by simp [gp, kf], fun x hx => by
      have : x = (List.range S, []) := by simpa [gp] using hx
      subst this
      exact Nat.zero_lt_one, fun x hx => by
      have : x = (List.range S, []) := by simpa [gp] using hx
      subst this
      exact fun y hy => absurd hy List.not_mem_nil⟩
  | n + 1 => by
    cases e : (gp S M n)[n]? with
    | none =>
      have : gp S M (n + 1) = gp S M n := by
        show (match (gp S M n)[n]? with
          | some x => Toy.apn M x.1 x.2 M.length (gp S M n)
          | none => gp S M n) = _
        rw [e]
      rw [this]
      exact gp_gq n
    | some x =>
      rw [gp_next e]
      exact (gp_gq n).apn (List.mem_of_getElem? e) _ (Nat.le_refl _)
/-- the making is at its end -/
def Fin' (S : Nat) (M : List (List Nat)) (n : Nat) : Prop := n = (gp S M n).length ∧ ∀ k, k < n → k < (gp S M k).length
theorem Fin'.uniq {S : Nat} {M : List (List Nat)} {n n' : Nat} (a : Fin' S M n) (b : Fin' S M n') : n = n' := by
  rcases Nat.lt_trichotomy n n' with c | c | c
  · have := b.2 n c
    have := a.1
    omega
  · exact c
  · have := a.2 n' c
    have := b.1
    omega
theorem Fin'.fam {S : Nat} {M : List (List Nat)} {n : Nat} (a : Fin' S M n) : Fam S M (kf (gp S M n)) := by
  have g := gp_gq (S := S) (M := M) n
  refine ⟨g.one, fun d hd m hm => ?_, g.rc, g.nd⟩
  obtain ⟨x, hx, rfl⟩ := List.mem_map.mp hd
  obtain ⟨i, hi, e⟩ := List.getElem_of_mem hx
  obtain ⟨j, hj, rfl⟩ := List.getElem_of_mem hm
  have i1 : i < n := by have := a.1; omega
  have i2 := a.2 i i1
  have e1 : (gp S M i)[i]? = some (gp S M i)[i] := List.getElem?_eq_getElem i2
  have pr := gp_pre (S := S) (M := M) (n := i) (n - i)
  rw [show i + (n - i) = n by omega] at pr
  have e2 := pre_get pr e1
  rw [List.getElem?_eq_getElem hi, e] at e2
  have e3 : x = (gp S M i)[i] := Option.some.inj e2
  have pr2 := gp_pre (S := S) (M := M) (n := i + 1) (n - (i + 1))
  rw [show i + 1 + (n - (i + 1)) = n by omega] at pr2
  refine pre_mem pr2 ?_
  rw [gp_next e1, ← e3]
  have := apn_mem (M := M) (d := x.1) (w := x.2) (F := gp S M i) M.length j hj
  rwa [show M.getD j [] = M[j] from by rw [List.getD_eq_getElem?_getD, List.getElem?_eq_getElem hj] <;> rfl] at this
/-! ### k67: numbers, rows of numbers, tables and deeds by table, as things -/
def isU (m : Nat) : PyData → Bool
  | .int i => decide (0 ≤ i) && decide (i < (m : Int))
  | _ => false
theorem isU_no {m : Nat} {d : PyData} (h : isWh d = false) : isU m d = false := by cases d <;> first | rfl | cases h
theorem isU_inv {m : Nat} {d : PyData} (h : isU m d = true) : ∃ n : Nat, d = .int (n : Nat) ∧ n < m := by
  cases d with
  | int i =>
    have h : (decide (0 ≤ i) && decide (i < (m : Int))) = true := h
    rw [Bool.and_eq_true, decide_eq_true_iff, decide_eq_true_iff] at h
    exact ⟨i.toNat, by rw [show ((i.toNat : Nat) : Int) = i by omega], by omega⟩
  | _ => cases h
def isUs (m : Nat) : PyData → Bool
  | .tuple ds => ds.all (isU m)
  | _ => false
theorem isUs_no {m : Nat} {d : PyData} (h : isTu d = false) : isUs m d = false := by cases d <;> first | rfl | cases h
def isBT (S : Nat) (d : PyData) : Bool := isTu d && (decide (tlen d = S) && isUs S d)
theorem isBT_no {m : Nat} {d : PyData} (h : isTu d = false) : isBT m d = false := by unfold isBT; rw [h] <;> rfl
/-- are_numbers(row, n) and len(row) == n -/
theorem isBT_us {m : Nat} {d : PyData} : isBT m d = (isUs m d && decide (tlen d = m)) := by
  unfold isBT
  cases e : isTu d with
  | false => rw [isUs_no e] <;> rfl
  | true => rw [Bool.true_and, Bool.and_comm]
def isTb : PyData → Bool
  | .tuple ds => decide (1 ≤ ds.length) && (decide (ds.length ≤ 60) && ds.all (isBT ds.length))
  | _ => false
theorem isTb_no {d : PyData} (h : isTu d = false) : isTb d = false := by cases d <;> first | rfl | cases h
def hdD (ds : List PyData) : PyData := ds.headD .none
def isFa (most : Nat) : PyData → Bool
  | .tuple ds => decide (1 ≤ ds.length) && (decide (ds.length ≤ most) && (isTu (hdD ds) && (decide (1 ≤ tlen (hdD ds)) && (decide (tlen (hdD ds) ≤ 5) && ds.all (isBT (tlen (hdD ds)))))))
  | _ => false
theorem isFa_no {m : Nat} {d : PyData} (h : isTu d = false) : isFa m d = false := by cases d <;> first | rfl | cases h
/-- a row of numbers -/
theorem us_of {K : PySem.W.Frag} {p : Addr} {H : Hp} {S : Nat} {v : V} {d : PyData} (h : Th K p H v d) (e : isUs S d = true) : ∃ (a : Addr) (xs : List Nat), v = .ref a ∧ H a = some (.tup ((iN xs).map V.int)) ∧ Bel xs S ∧ xs.length = tlen d := by
  have e0 : isTu d = true := by
    cases c : isTu d with
    | true => rfl
    | false => rw [isUs_no c] at e; cases e
  obtain ⟨ds, rfl⟩ := isTu_inv e0
  obtain ⟨a, tr, rfl, rfl, ha, htr⟩ := h.tup_inv
  have : ∀ tr : List (V × PyData), (∀ t ∈ tr, Th K p H t.1 t.2) → (tr.map fun t => t.2).all (isU S) = true → ∃ xs : List Nat, (tr.map fun t => t.1) = (iN xs).map V.int ∧ Bel xs S ∧ xs.length = tr.length := by
    intro tr
    induction tr with
    | nil => exact fun _ _ => ⟨[], rfl, fun n hn => (nomatch hn), rfl⟩
    | cons t r ih =>
      intro h1 h2
      rw [List.map_cons, List.all_cons, Bool.and_eq_true] at h2
      obtain ⟨xs, x1, x2, x3⟩ := ih (fun t ht => h1 t (List.mem_cons_of_mem _ ht)) h2.2
      obtain ⟨n, n1, n2⟩ := isU_inv h2.1
      have h3 := h1 t List.mem_cons_self
      rw [n1] at h3
      refine ⟨n :: xs, ?_, fun y hy => ?_, by rw [List.length_cons, List.length_cons, x3]⟩
      · rw [List.map_cons, x1, h3.int_inv] <;> rfl
      · rcases List.mem_cons.mp hy with rfl | hy
        · exact n2
        · exact x2 y hy
  obtain ⟨xs, x1, x2, x3⟩ := this tr htr e
  exact ⟨a, xs, rfl, by rw [ha, x1], x2, by rw [x3]; exact (List.length_map _).symm⟩
/-- a row of rows -/
theorem rows_of {K : PySem.W.Frag} {p : Addr} {H : Hp} {S : Nat} : ∀ tr : List (V × PyData), (∀ t ∈ tr, Th K p H t.1 t.2) → (tr.map fun t => t.2).all (isBT S) = true → ∃ rs : List (Addr × List Nat), (tr.map fun t => t.1) = (rs.map fun x => V.ref x.1) ∧ rs.length = tr.length ∧ ∀ x ∈ rs, H x.1 = some (.tup ((iN x.2).map V.int)) ∧ x.2.length = S ∧ ∀ e ∈ x.2, e < S := by
  intro tr
  induction tr with
  | nil => exact fun _ _ => ⟨[], rfl, rfl, fun x hx => (nomatch hx)⟩
  | cons t r ih =>
    intro h1 h2
    rw [List.map_cons, List.all_cons, Bool.and_eq_true] at h2
    obtain ⟨rs, x1, x2, x3⟩ := ih (fun t ht => h1 t (List.mem_cons_of_mem _ ht)) h2.2
    have h4 := h2.1
    rw [isBT_us, Bool.and_eq_true, decide_eq_true_iff] at h4
    obtain ⟨a, xs, a1, a2, a3, a4⟩ := us_of (h1 t List.mem_cons_self) h4.1
    refine ⟨(a, xs) :: rs, ?_, by rw [List.length_cons, List.length_cons, x2], fun x hx => ?_⟩
    · rw [List.map_cons, x1, a1] <;> rfl
    · rcases List.mem_cons.mp hx with rfl | hx
      · exact ⟨a2, by rw [a4]; exact h4.2, a3⟩
      · exact x3 x hx
theorem tb_of {K : PySem.W.Frag} {p : Addr} {H : Hp} {v : V} {d : PyData} (h : Th K p H v d) (e : isTb d = true) : ∃ (T : Addr) (rs : List (Addr × List Nat)), v = .ref T ∧ GridAt H T rs rs.length rs.length ∧ 1 ≤ rs.length ∧ rs.length ≤ 60 ∧ rs.length = tlen d := by
  have e0 : isTu d = true := by
    cases c : isTu d with
    | true => rfl
    | false => rw [isTb_no c] at e; cases e
  obtain ⟨ds, rfl⟩ := isTu_inv e0
  obtain ⟨a, tr, rfl, rfl, ha, htr⟩ := h.tup_inv
  have e : (decide (1 ≤ (tr.map fun t => t.2).length) && (decide ((tr.map fun t => t.2).length ≤ 60) && (tr.map fun t => t.2).all (isBT (tr.map fun t => t.2).length))) = true := e
  rw [Bool.and_eq_true, Bool.and_eq_true, decide_eq_true_iff, decide_eq_true_iff, len_map2] at e
  obtain ⟨e1, e2, e3⟩ := e
  obtain ⟨rs, x1, x2, x3⟩ := rows_of tr htr e3
  refine ⟨a, rs, rfl, ⟨by rw [ha, x1], by rw [x2]; exact x3⟩, by omega, by omega, ?_⟩
  show _ = (tr.map fun t => t.2).length
  rw [x2, len_map2]
theorem fa_of {K : PySem.W.Frag} {p : Addr} {H : Hp} {most : Nat} {v : V} {d : PyData} (h : Th K p H v d) (e : isFa most d = true) : ∃ (T : Addr) (rs : List (Addr × List Nat)) (S : Nat), v = .ref T ∧ GridAt H T rs S S ∧ 1 ≤ rs.length ∧ rs.length ≤ most ∧ 1 ≤ S ∧ S ≤ 5 ∧ rs.length = tlen d ∧ ∃ ds, d = .tuple ds ∧ S = tlen (hdD ds) := by
  have e0 : isTu d = true := by
    cases c : isTu d with
    | true => rfl
    | false => rw [isFa_no c] at e; cases e
  obtain ⟨ds, rfl⟩ := isTu_inv e0
  obtain ⟨a, tr, rfl, rfl, ha, htr⟩ := h.tup_inv
  generalize eds : (tr.map fun t => t.2) = ds at e
  have e : (decide (1 ≤ ds.length) && (decide (ds.length ≤ most) && (isTu (hdD ds) && (decide (1 ≤ tlen (hdD ds)) && (decide (tlen (hdD ds) ≤ 5) && ds.all (isBT (tlen (hdD ds)))))))) = true := e
  rw [Bool.and_eq_true, Bool.and_eq_true, Bool.and_eq_true, Bool.and_eq_true, Bool.and_eq_true, decide_eq_true_iff, decide_eq_true_iff, decide_eq_true_iff, decide_eq_true_iff] at e
  obtain ⟨e1, e2, e3, e4, e5, e6⟩ := e
  have el : ds.length = tr.length := by rw [← eds, len_map2]
  obtain ⟨rs, x1, x2, x3⟩ := rows_of (S := tlen (hdD ds)) tr htr (by rw [eds]; exact e6)
  refine ⟨a, rs, tlen (hdD ds), rfl, ⟨by rw [ha, x1], x3⟩, by omega, by omega, e4, e5, ?_, ds, rfl, rfl⟩
  show _ = ds.length
  omega
theorem tr_row0 {K : PySem.W.Frag} {p : Addr} {H : Hp} {v : V} {d : PyData} (h : Th K p H v d) : ∀ f : Nat, (lv d).all isWh = true → (lv d).map wv = (List.range' f (lv d).length).map (fun n : Nat => (n : Int)) → ∃ t : Tr, TrAt H v t ∧ IsRow t f ∧ t.cnt = (lv d).length := by
  induction h with
  | int i =>
    intro f _ h
    have h : [i] = [(f : Int)] := h
    injection h with h _
    exact ⟨.leaf f, by show V.int i = V.int (f : Nat); rw [h], rfl, rfl⟩
  | @tup a tr h1 _ ih =>
    intro f ha hr
    match tr, h1, ih, ha, hr with
    | [], _, _, ha, _ => cases ha
    | [_], _, _, ha, _ => cases ha
    | _ :: _ :: _ :: _, _, _, ha, _ => cases ha
    | [x, y], h1, ih, ha, hr =>
      have e : lv (.tuple [x.2, y.2]) = lv x.2 ++ lv y.2 := rfl
      have ha : (lv x.2 ++ lv y.2).all isWh = true := ha
      rw [List.all_append, Bool.and_eq_true] at ha
      have hr : (lv x.2 ++ lv y.2).map wv = (List.range' f (lv x.2 ++ lv y.2).length).map (fun n : Nat => (n : Int)) := hr
      rw [List.length_append, List.map_append, ← List.range'_append_1, List.map_append] at hr
      obtain ⟨r1, r2⟩ := List.append_inj hr (by rw [List.length_map, List.length_map, List.length_range'])
      obtain ⟨t1, a1, b1, c1⟩ := ih x (by simp) f ha.1 r1
      obtain ⟨t2, a2, b2, c2⟩ := ih y (by simp) (f + (lv x.2).length) ha.2 r2
      refine ⟨.node t1 t2, ⟨a, x.1, y.1, rfl, h1, a1, a2⟩, ⟨b1, by rw [c1]; exact b2⟩, ?_⟩
      show t1.cnt + t2.cnt = (lv x.2 ++ lv y.2).length
      rw [List.length_append, c1, c2]
  | non => intro _ ha; cases ha
  | bl b => intro _ ha; cases ha
  | str x => intro _ ha; cases ha
  | lst => intro _ ha; cases ha
  | dct => intro _ ha; cases ha
theorem tr_row {K : PySem.W.Frag} {p : Addr} {H : Hp} {m : Nat} {v : V} {d : PyData} (h : Th K p H v d) (e : isT d m = true) : ∃ t : Tr, TrAt H v t ∧ IsRow t 0 ∧ t.cnt = m := by
  have e : ((lv d).all isWh && decide ((lv d).map wv = (List.range m).map fun n : Nat => (n : Int))) = true := e
  rw [Bool.and_eq_true, decide_eq_true_iff] at e
  have l := congrArg List.length e.2
  rw [List.length_map, List.length_map, List.length_range] at l
  obtain ⟨t, a, b, c⟩ := tr_row0 h 0 e.1 (by rw [e.2, l, List.range_eq_range'])
  exact ⟨t, a, b, by rw [c, l]⟩
/-- a tuple as a leaf counts as None -/
def cl (d : PyData) : PyData := if isTu d = true then .none else d
theorem isU_cl {m : Nat} {d : PyData} : isU m (cl d) = isU m d := by cases d <;> rfl
theorem rep_flatI (n : Nat) (x : Int) : (List.replicate n [V.int x]).flatten = (List.replicate n x).map V.int := by
  induction n with
  | zero => rfl
  | succ n ih =>
    rw [List.replicate_succ, List.flatten_cons, ih, List.replicate_succ] <;> rfl
theorem lens_eq {S : Nat} : ∀ tr : List (V × PyData), (∀ t ∈ tr, isUs S t.2 = true) → decide ((tr.map fun t => (tlen t.2 : Int)) = List.replicate tr.length (S : Int)) = (tr.map fun t => t.2).all (isBT S)
  | [], _ => rfl
  | t :: r, h => by
    have ih := lens_eq (S := S) r fun x hx => h x (List.mem_cons_of_mem _ hx)
    have h0 := h t List.mem_cons_self
    rw [List.map_cons, List.map_cons, List.all_cons, List.length_cons, List.replicate_succ, ← ih, isBT_us, h0, Bool.true_and]
    by_cases c : tlen t.2 = S
    · rw [decide_eq_true c, Bool.true_and, c]
      by_cases c2 : (r.map fun t => (tlen t.2 : Int)) = List.replicate r.length (S : Int)
      · rw [decide_eq_true c2, decide_eq_true (by rw [c2])]
      · rw [decide_eq_false c2, decide_eq_false fun z => c2 (List.cons.inj z).2]
    · rw [decide_eq_false c, Bool.false_and]
      exact decide_eq_false fun z => c (by have := (List.cons.inj z).1; omega)
theorem isT_u {d : PyData} {m : Nat} (h : isT d m = true) : (lv d).all (isU m) = true := by
  have e : ((lv d).all isWh && decide ((lv d).map wv = (List.range m).map fun n : Nat => (n : Int))) = true := h
  rw [Bool.and_eq_true, decide_eq_true_iff] at e
  rw [List.all_eq_true]
  intro x hx
  obtain ⟨i, rfl⟩ := isWh_inv (List.all_eq_true.mp e.1 x hx)
  have h1 : i ∈ (lv d).map wv := List.mem_map.mpr ⟨_, hx, rfl⟩
  rw [e.2] at h1
  obtain ⟨n, hn, rfl⟩ := List.mem_map.mp h1
  have hn := List.mem_range.mp hn
  show (decide (0 ≤ (n : Int)) && decide ((n : Int) < (m : Int))) = true
  rw [decide_eq_true (by omega), decide_eq_true (by omega)] <;> rfl
theorem u_wh {d : PyData} {m : Nat} (h : (lv d).all (isU m) = true) : (lv d).all isWh = true := by
  rw [List.all_eq_true] at h ⊢
  intro x hx
  obtain ⟨n, rfl, _⟩ := isU_inv (h x hx)
  rfl
theorem cl_int {d : PyData} {i : Int} (h : cl d = .int i) : d = .int i := by cases d <;> first | exact h | cases h
/-- some addresses that stand, the purse among them -/
structure SetOf (S : Addr → Prop) (p : Addr) (H : Hp) : Prop where
  p_ : S p
  fr : ∀ a, S a → H a ≠ none
theorem SetOf.but {S : Addr → Prop} {p : Addr} {H H' : Hp} (h : SetOf S p H) (b : But p H H') (hp : PotAt H' p) : SetOf S p H' := ⟨h.p_, fun a ha => by
  cases e : H a with
  | none => exact absurd e (h.fr a ha)
  | some o =>
    by_cases c : a = p
    · obtain ⟨_, _, h1, _⟩ := hp
      rw [c, h1]; exact fun z => by cases z
    · rw [b a o c e]; exact fun z => by cases z⟩
theorem SetOf.same {S : Addr → Prop} {p : Addr} {H H' : Hp} (h : SetOf S p H) (e : Same H H') : SetOf S p H' := ⟨h.p_, fun a ha => by
  cases q : H a with
  | none => exact absurd q (h.fr a ha)
  | some o => rw [e a o q]; exact fun z => by cases z⟩
theorem ThL.ty {K : PySem.W.Frag} {S : Addr → Prop} {H : Hp} {v : V} {d : PyData} (h : ThL K S H v d) : TyX K H v (.type (tyD d)) := by
  cases h with
  | non => exact .base .non
  | bl b => exact .base (.bl b)
  | int i => exact .base (.int i)
  | str x => exact .base (.str x)
  | tup h1 _ => exact .base (.tup h1)
  | lst _ _ h1 _ => exact .base (.lst h1)
  | dct h1 _ => exact .base (.dK h1)
theorem ThL.tup_inv {K : PySem.W.Frag} {S : Addr → Prop} {H : Hp} {v : V} {ds : List PyData} (h : ThL K S H v (.tuple ds)) : ∃ (a : Addr) (tr : List (V × PyData)), v = .ref a ∧ ds = (tr.map fun t => t.2) ∧ H a = some (.tup (tr.map fun t => t.1)) ∧ ∀ t ∈ tr, ThL K S H t.1 t.2 := by
  cases h with
  | @tup a tr h1 h2 => exact ⟨a, tr, rfl, rfl, h1, h2⟩
theorem ThL.int_inv {K : PySem.W.Frag} {S : Addr → Prop} {H : Hp} {v : V} {i : Int} (h : ThL K S H v (.int i)) : v = .int i := by cases h; rfl
/-- a thing without lists avoids any set -/
theorem Th.toL {K : PySem.W.Frag} {p : Addr} {S : Addr → Prop} {H : Hp} {v : V} {d : PyData} (h : Th K p H v d) : lf d = true → ThL K S H v d := by
  induction h with
  | non => exact fun _ => .non
  | bl b => exact fun _ => .bl b
  | int i => exact fun _ => .int i
  | str x => exact fun _ => .str x
  | @tup a tr h1 _ ih => exact fun e => .tup h1 fun t ht => ih t ht (lfs_mem (show lfs (tr.map fun t => t.2) = true from e) _ (List.mem_map_of_mem ht))
  | lst => exact fun e => by cases e
  | dct => exact fun e => by cases e
theorem Tr.lfd : ∀ t : Tr, lf t.d = true
  | .leaf n => rfl
  | .node l r => by
    show (lf l.d && (lf r.d && true)) = true
    rw [Tr.lfd l, Tr.lfd r] <;> rfl
/-- a thing without lists, with its weights -/
structure Gd (K : PySem.W.Frag) (p : Addr) (H : Hp) (v : V) (d : PyData) : Prop where
  th : Th K p H v d
  lf : lf d = true
  wg : Wg d 41 480000 (10 ^ 80)
theorem Gd.same {K : PySem.W.Frag} {p : Addr} {H H' : Hp} {v : V} {d : PyData} (h : Gd K p H v d) (e : Same H H') : Gd K p H' v d := ⟨h.th.same e, h.lf, h.wg⟩
/-- tuples stay -/
def TK (H H' : Hp) : Prop := ∀ a xs, H a = some (.tup xs) → H' a = some (.tup xs)
theorem TK.trans {A B C : Hp} (h : TK A B) (k : TK B C) : TK A C := fun a xs e => k _ _ (h _ _ e)
theorem TK.same {A B : Hp} (h : Same A B) : TK A B := fun a xs e => h _ _ e
theorem TK.but {p : Addr} {A B : Hp} (h : But p A B) (hp : PotAt A p) : TK A B := fun a xs e => h _ _ (ne_of e hp.choose_spec.choose_spec.1 (by intro z; cases z)) e
theorem TK.upd {A : Hp} {l : Addr} {ys : List V} {o : HO} (h : A l = some (.lst ys)) : TK A (L2.upd A l o) := fun a xs e => by rw [upd_ne (ne_of e h (by intro z; cases z))]; exact e
theorem th_tk {K : PySem.W.Frag} {p : Addr} {S : Addr → Prop} {H H' : Hp} {v : V} {d : PyData} (h : Th K p H v d) : lf d = true → TK H H' → ThL K S H' v d := by
  induction h with
  | non => exact fun _ _ => .non
  | bl b => exact fun _ _ => .bl b
  | int i => exact fun _ _ => .int i
  | str x => exact fun _ _ => .str x
  | @tup a tr h1 _ ih => exact fun e k => .tup (k _ _ h1) fun t ht => ih t ht (lfs_mem (show lfs (tr.map fun t => t.2) = true from e) _ (List.mem_map_of_mem ht)) k
  | lst => exact fun e _ => by cases e
  | dct => exact fun e _ => by cases e
theorem Gd.tk {K : PySem.W.Frag} {p : Addr} {H H' : Hp} {v : V} {d : PyData} (h : Gd K p H v d) (e : TK H H') : Gd K p H' v d := ⟨(th_tk (S := fun a => a = p) h.th h.lf e).th rfl, h.lf, h.wg⟩
structure It where
  T : Addr
  v : V
  d : PyData
  k : Nat
/-- a thing of the law: its size, its depth -/
structure Od (K : PySem.W.Frag) (p : Addr) (H : Hp) (v : V) (d : PyData) (N D : Nat) : Prop where
  th : Th K p H v d
  sz : nsz d ≤ N
  dp : d.depth ≤ D
theorem Od.same {K : PySem.W.Frag} {p : Addr} {H H' : Hp} {v : V} {d : PyData} {N D : Nat} (h : Od K p H v d N D) (e : Same H H') : Od K p H' v d N D := ⟨h.th.same e, h.sz, h.dp⟩
theorem Od.but {K : PySem.W.Frag} {p : Addr} {H H' : Hp} {v : V} {d : PyData} {N D : Nat} (h : Od K p H v d N D) (e : But p H H') (hp : PotAt H p) : Od K p H' v d N D := by
  obtain ⟨_, _, h1, _⟩ := hp
  exact ⟨h.th.but e h1, h.sz, h.dp⟩
theorem Od.mono {K : PySem.W.Frag} {p : Addr} {H : Hp} {v : V} {d : PyData} {N D N' D' : Nat} (h : Od K p H v d N D) (h1 : N ≤ N') (h2 : D ≤ D') : Od K p H v d N' D' := ⟨h.th, Nat.le_trans h.sz h1, Nat.le_trans h.dp h2⟩
theorem od_all {K : PySem.W.Frag} {p : Addr} {H : Hp} {N D : Nat} : ∀ {tr : List (V × PyData)}, (∀ t ∈ tr, Od K p H t.1 t.2 N D) → nszs (tr.map fun t => t.2) ≤ N * tr.length ∧ PyData.depthAll (tr.map fun t => t.2) ≤ D
  | [], _ => ⟨Nat.le_refl _, Nat.zero_le _⟩
  | t :: r, h => by
    obtain ⟨h1, h2⟩ := od_all (tr := r) fun x hx => h x (List.mem_cons_of_mem _ hx)
    have h3 := h t List.mem_cons_self
    have h4 := h3.sz
    have h5 := h3.dp
    refine ⟨?_, ?_⟩
    · show nsz t.2 + nszs (r.map fun t => t.2) ≤ N * (r.length + 1)
      rw [Nat.mul_succ]
      omega
    · show max t.2.depth (PyData.depthAll (r.map fun t => t.2)) ≤ D
      omega
theorem Od.tup {K : PySem.W.Frag} {p a : Addr} {H : Hp} {N D N' D' : Nat} {tr : List (V × PyData)} (h : H a = some (.tup (tr.map fun t => t.1))) (ht : ∀ t ∈ tr, Od K p H t.1 t.2 N D) (hN : 1 + N * tr.length ≤ N') (hD : D + 1 ≤ D') : Od K p H (.ref a) (.tuple (tr.map fun t => t.2)) N' D' := by
  obtain ⟨h1, h2⟩ := od_all ht
  refine ⟨Th.tup h fun t m => (ht t m).th, ?_, ?_⟩
  · show 1 + nszs (tr.map fun t => t.2) ≤ N'
    omega
  · show PyData.depthAll (tr.map fun t => t.2) + 1 ≤ D'
    omega
theorem Od.lst {K : PySem.W.Frag} {p a : Addr} {H : Hp} {N D N' D' : Nat} {tr : List (V × PyData)} (n1 : a ≠ p) (n2 : a ≠ sysModules) (h : H a = some (.lst (tr.map fun t => t.1))) (ht : ∀ t ∈ tr, Od K p H t.1 t.2 N D) (hN : 1 + N * tr.length ≤ N') (hD : D + 1 ≤ D') : Od K p H (.ref a) (.list (tr.map fun t => t.2)) N' D' := by
  obtain ⟨h1, h2⟩ := od_all ht
  refine ⟨Th.lst n1 n2 h fun t m => (ht t m).th, ?_, ?_⟩
  · show 1 ≤ N'
    omega
  · show PyData.depthAll (tr.map fun t => t.2) + 1 ≤ D'
    omega
section
variable {P : Program} {w : World} {K : PySem.W.Frag} {mg : Str → Option Value} {base : Heap} (B : Bl K mg)
include B
/-! SPLIT -/
local macro_rules | `(tactic| walk_at "own") => `(tactic| fail)
local macro_rules | `(tactic| walk_at "sm") => `(tactic| first
  | with_reducible assumption
  | exact fun _ _ z => z
  | (apply Toy.same_bk; (with_reducible assumption); walk_at "sm")
  | solve_by_elim only [Toy.same_bk, *])
local macro_rules | `(tactic| walk_at "hp") => `(tactic| ((with_reducible refine (?_ : _ = some _)); first
  | with_reducible assumption
  | exact L2.upd_same
  | (apply Toy.hp_new; assumption; walk_at "hp")
  | (apply Toy.hp_at; (with_reducible assumption); walk_at "sm")))
local macro_rules | `(tactic| walk_at "sql") => `(tactic| first
  | with_reducible assumption
  | (apply L2.SqL.of; walk_at "hp")
  | (apply Toy.sql_at; (with_reducible assumption); walk_at "sm"))
local macro_rules | `(tactic| walk_at "sqt") => `(tactic| first
  | with_reducible assumption
  | (apply L2.SqT.of; walk_at "hp")
  | (apply Toy.sqt_at; (with_reducible assumption); walk_at "sm"))
local macro_rules | `(tactic| walk_at "ar") => `(tactic| first
  | with_reducible refine (?_ : (_ : Int) < _)
  | with_reducible refine (?_ : (_ : Int) ≤ _)
  | with_reducible refine (?_ : (_ : Nat) < _)
  | with_reducible refine (?_ : (_ : Nat) ≤ _)
  | with_reducible refine (?_ : (_ : Int) = _)
  | with_reducible refine (?_ : (_ : Nat) = _)
  | with_reducible refine (?_ : ¬ _)
  | with_reducible refine (?_ : _ ∧ _))
local macro_rules | `(tactic| walk_at "om") => `(tactic| (walk_at "ar"; omega))
local macro_rules | `(tactic| walk_at "num") => `(tactic| first
  | (walk_at "ar"; first
    | omega
    | (simp only [List.length_map, List.length_append, List.length_cons, List.length_nil, List.length_replicate, List.length_take, List.length_drop, List.length_range, List.length_set, List.length_reverse] <;> omega)
    | decide
    | (split <;> split <;> omega)
    | (split <;> omega))
  | decide)
local macro_rules | `(tactic| walk_at "side") => `(tactic| first
  | with_reducible rfl
  | walk_at "om"
  | with_reducible assumption
  | exact Toy.sz
  | (apply L2.SqL.of; walk_at "hp")
  | (apply L2.SqT.of; walk_at "hp")
  | (with_reducible apply Or.inl; walk_at "sql")
  | (with_reducible apply Or.inr; walk_at "sqt")
  | (with_reducible apply Exists.intro; walk_at "side")
  | walk_at "hp"
  | exact Eq.refl _
  | (apply Toy.lk1000; walk_at "num")
  | (apply Toy.lt1000; walk_at "num")
  | walk_at "num"
  | (apply Toy.lst_dp; apply L2.SqL.of; walk_at "hp")
  | (apply Toy.tupI_dp; apply L2.SqT.of; walk_at "hp")
  | exact Toy.ints_sh _
  | exact Toy.tupI_sh _
  | (apply L2.RgOk.of_le <;> walk_at "num")
  | (apply L2.atI_nat; assumption)
  | exact L2.Dp.lst (L2.SqL.of (by walk_at "hp")) L2.DpAll.nil
  | exact L2.Dp.tup (L2.SqT.of (by walk_at "hp")) L2.DpAll.nil
  | (apply Toy.ixn; walk_at "num")
  | exact Toy.tyL (by walk_at "hp")
  | walk_at "sql"
  | walk_at "sqt"
  | exact L2.ClsV.ty _
  | (apply L2.TyX.base; first | exact L2.TyOf.int _ | exact L2.TyOf.bl _ | exact L2.TyOf.non | exact L2.TyOf.str _ | (apply L2.TyOf.tup; walk_at "hp") | (apply L2.TyOf.lst; walk_at "hp"))
  | exact L2.kit_ty (r := true) (by decide +kernel)
  | exact L2.kit_ty (r := false) (by decide +kernel)
  | walk_at "own"
  | assumption
  | (walk_at "ar"; solve_by_elim only [Toy.hp_same, Toy.hp_new, L2.upd_same, *]))
local macro_rules | `(tactic| walk_at "go") => `(tactic| first
  | (apply And.intro; (focus (walk_at "side")); try walk_at "go")
  | (apply Exists.intro; rotate_left; (fail_if_success (with_reducible refine (?_ : Nat → _ → _))); (fail_if_success (with_reducible refine (?_ : L2.St → _ → _))); rotate_right; try walk_at "go")
  | (apply Or.inl; apply And.intro; (focus (walk_at "sql")); try walk_at "go")
  | (apply Or.inr; apply And.intro; (focus (walk_at "sqt")); try walk_at "go"))
/-! ENDM -/
/-- the stepper stops here -/
structure Kept (p : Prop) : Prop where
  ex : p
omit B in
theorem none_back {H H' : Hp} {a : Addr} (S : Same H H') (h : H' a = none) : H a = none := by
  cases e : H a with
  | none => rfl
  | some o =>
    rw [S _ _ e] at h
    cases h
omit B in
theorem But.fr {p E : Addr} {H H1 : Hp} {o : HO} (b : But p H H1) (hE : H E = none) : But p H (L2.upd H1 E o) := fun x u n h => by rw [upd_ne (ne_of_none h hE)]; exact b x u n h
omit B in
theorem but_fr {p E : Addr} {H H1 H2 : Hp} (b : But p H H1) (hE : H E = none) (c : But E H1 H2) : But p H H2 := fun x u n h => c _ _ (ne_of_none h hE) (b x u n h)
omit B in
theorem pot_keep {p : Addr} {H H' : Hp} (b : But p H H') (hp : PotAt H p) : ∀ t xs, H t = some (.tup xs) → H' t = some (.tup xs) := fun t xs e => by
  obtain ⟨_, _, h1, _⟩ := hp
  exact b _ _ (ne_of e h1 (by intro z; cases z)) e
omit B in
theorem GridAt.keep {H H' : Hp} {T : Addr} {rs : List (Addr × List Nat)} {M B' : Nat} (g : GridAt H T rs M B') (e : ∀ t xs, H t = some (.tup xs) → H' t = some (.tup xs)) : GridAt H' T rs M B' :=
  ⟨e _ _ g.top, fun x hx => ⟨e _ _ (g.rows x hx).1, (g.rows x hx).2⟩⟩
omit B in
theorem PotAt.fr {H : Hp} {p E : Addr} {o : HO} (h : PotAt H p) (n : p ≠ E) : PotAt (L2.upd H E o) p := by
  obtain ⟨a, b, h1, h2⟩ := h
  exact ⟨a, b, by rw [upd_ne n]; exact h1, h2⟩
omit B in
theorem Bel.snoc {xs : List Nat} {n N : Nat} (h : Bel xs N) (hn : n < N) : Bel (xs ++ [n]) N := fun x hx => by
  rcases List.mem_append.mp hx with z | z
  · exact h x z
  · cases List.mem_singleton.mp z; exact hn
def spWhT (K : PySem.W.Frag) : Sp := fun vs H Q _ => ∃ (v : V) (d : PyData) (p : Addr), vs = [v] ∧ Th K p H v d ∧ Q (.bl (isWh d)) H
theorem k_is_whole (D : Df K mg "is_whole" s_is_whole ["thing"]) : Dn P w K mg base 1 "is_whole" ["thing"] (spWhT K) := by
  refine D.ok fun f fd F => okG0 F sc_is_whole (fun vs H Q E h => ?_) (fun cdv A outer s H vs Q E hr h => ⟨_, (pss_one (ps_ret (pe_and (pe_callB (kk (K := K) (F := rIsi) (P := CallR _ _) call_isi) (by rfl) B.isinstance_ (by decide +kernel) (pa_cons (pv 0) (pa_cons (pe_bltn (v := .ty "int") (u := .type "int") (by rfl) B.int_ (by decide +kernel) rfl) pa_nil))) (pe_one (pe_not (pe_callB (kk (K := K) (F := rIsi) (P := CallR _ _) call_isi) (by rfl) B.isinstance_ (by decide +kernel) (pa_cons (pv 0) (pa_cons (pe_bltn (v := .ty "bool") (u := .type "bool") (by rfl) B.bool_ (by decide +kernel) rfl) pa_nil)))))))), ?_⟩)
  · obtain ⟨v, d, p, rfl, _⟩ := h; rfl
  · obtain ⟨v, d, p, rfl, hd, q⟩ := h
    have ty := hd.ty
    have k1 := kit_in (K := K) d
    have k2 := kit_bl (K := K) d
    rw [isWh_eq] at q
    generalize isIn d = x at k1 q
    generalize isBl d = y at k2 q
    cases x
    all_goals
      try walk_at "go"
      first | exact q | exact ifF rfl q | exact ifT rfl q
def spIsBT (K : PySem.W.Frag) : Sp := fun vs H Q _ => ∃ (v : V) (d : PyData) (p : Addr) (S : Nat), vs = [v, .int S] ∧ Th K p H v d ∧ nsz d ≤ 1000000 ∧ S ≤ 1000000 ∧ ∀ H', Same H H' → Q (.bl (isBT S d)) H'
theorem k_is_by_table (D : Df K mg "is_by_table" s_is_by_table ["thing", "states"]) (D_is_whole : Dn P w K mg base 1 "is_whole" ["thing"] (spWhT K)) : Dn P w K mg base 3 "is_by_table" ["thing", "states"] (spIsBT K) := by
  refine D.ok fun f fd F => okG0 F sc_is_by_table (fun vs H Q E h => ?_) (fun cdv A outer s H vs Q E hr h => ⟨_, (pss_cons (ps_if (PW.pt (pw_or (pt_not (pt_val (pe_callB (kk (K := K) (F := rIsi) (P := CallR _ _) call_isi) (by rfl) B.isinstance_ (by decide +kernel) (pa_cons (pv 0) (pa_cons (pe_bltn (v := .ty "tuple") (u := .type "tuple") (by rfl) B.tuple_ (by decide +kernel) rfl) pa_nil))))) (pw_or1 (pt_cmpR op_ne (pe_callB (lenK (K := K)) (by rfl) B.len_ (by decide +kernel) (pa_cons (pv 0) pa_nil)) (pv 1) (nomark _)))))
      (pss_one (ps_ret pe_bl))
      pss_nil)
    (pss_one (ps_ret (pe_callB (kk (K := K) (F := rAll) (P := CallR _ _) (cr_all rfl)) (by rfl) B.all_ (by decide +kernel) (pa_cons (pe_lc (own := [("state", 2)]) (g := gName 2) (tt := tYes) rfl sc_is_by_table.nd (kk (K := K) (F := fun K => iTup K _) (P := PI _ _ _) (pi_tup (pv 0))) (blkOk_by (own := [("state", 2)]) (N := ["thing", "states", "state"]) (sc := defScope s_is_by_table) (by decide +kernel)) (fun _ _ _ _ _ => (pg_name (i := 2) sc_is_by_table.nd rfl (Or.inl rfl))) (fun _ _ _ _ _ => pts_nil) (fun _ _ _ _ _ => (pe_and (pe_cD D_is_whole (hr.less (by decide)) rfl (pa_cons (pv 2) pa_nil)) (pe_one (pe_chain op_le op_lt pe_int (pv 2) (pv 1)))))) pa_nil))))), ?_⟩)
  · obtain ⟨v, d, p, S, rfl, _⟩ := h; rfl
  · obtain ⟨v, d, p, S, rfl, hd, hz, hS, q⟩ := h
    have ty := hd.ty
    have k1 := kit_tu (K := K) d
    cases ed : isTu d with
    | false =>
      rw [ed] at k1
      rw [isBT_no ed] at q
      try walk_at "go"
      first | exact q _ (Same.refl _) | exact ifT rfl (q _ (Same.refl _))
    | true =>
      rw [ed] at k1
      obtain ⟨ds, rfl⟩ := isTu_inv ed
      obtain ⟨a, tr, rfl, rfl, ha, htr⟩ := hd.tup_inv
      have lt : tr.length ≤ 1000000 := by
        have h1 := nszs_len (tr.map fun t => t.2)
        have h2 : 1 + nszs (tr.map fun t => t.2) ≤ 1000000 := hz
        rw [len_map2] at h1
        omega
      have eb : isBT S (.tuple (tr.map fun t => t.2)) = (decide (tr.length = S) && (tr.map fun t => t.2).all (isU S)) := by
        show (true && (decide ((tr.map fun t => t.2).length = S) && _)) = _
        rw [len_map2, Bool.true_and] <;> rfl
      rw [eb] at q
      try walk_at "go"
      by_cases cl : tr.length = S
      · rw [decide_eq_true cl, Bool.true_and] at q
        have e9 : (!decide (V.int ((tr.map fun t => t.1).length : Nat) = V.int (S : Nat))) = false := by rw [len_map1, cl, decide_eq_true rfl] <;> rfl
        refine ifF e9 ?_
        try walk_at "go"
        intro D hD
        refine lc_tup (K := K) (a := a) (xs := tr.map fun t => t.1) (fun i H' => Kept (Same H H' ∧ H' D = some (.lst (((tr.take i).map fun t => isU S t.2).map V.bl)))) ⟨same_new hD _, upd_same⟩ (fun i H' _ h => SqT.of (h.1.1 _ _ ha)) ?_ ?_
        · rintro i y H2 hi ⟨S2, hD2⟩
          rw [List.getElem?_map] at hi
          obtain ⟨t, ht, rfl⟩ := Option.map_eq_some_iff.mp hi
          have th2 := (htr t (List.mem_of_getElem? ht)).same S2
          have ln : (((tr.take i).map fun t => isU S t.2).map V.bl).length ≤ 1000000 := by rw [List.length_map, List.length_map, List.length_take]; omega
          have slz : 3000000 ≤ sizeLine := by decide
          try walk_at "go"
          cases ew : isWh t.2 with
          | false =>
            have e0 : isU S t.2 = false := isU_no ew
            try walk_at "go"
            exact ⟨⟨but_same hD S2 But.upd, by rw [upd_same, ← e0, take_snocB (isU S) ht]⟩⟩
          | true =>
            obtain ⟨v1, d1⟩ := t
            obtain ⟨i1, e1⟩ := isWh_inv ew
            replace e1 : d1 = .int i1 := e1
            subst e1
            replace th2 : Th K p H2 v1 (.int i1) := th2
            cases th2.int_inv
            have e0 : isU S (.int i1) = (decide (0 ≤ i1) && decide (i1 < (S : Int))) := rfl
            try walk_at "go"
            refine ite2 (fun c => ?_) (fun c => ?_)
            · rw [c, Bool.true_and] at e0
              try walk_at "go"
              have e9 := take_snocB (isU S) ht
              rw [show isU S (V.int i1, PyData.int i1).2 = _ from e0] at e9
              exact ⟨⟨but_same hD S2 But.upd, by rw [upd_same]; exact congrArg (fun z => some (HO.lst z)) e9⟩⟩
            · rw [Bool.eq_false_iff.mpr c, Bool.false_and] at e0
              try walk_at "go"
              have e9 := take_snocB (isU S) ht
              rw [show isU S (V.int i1, PyData.int i1).2 = _ from e0] at e9
              exact ⟨⟨but_same hD S2 But.upd, by rw [upd_same]; exact congrArg (fun z => some (HO.lst z)) e9⟩⟩
        · rintro H2 ⟨S2, hD2⟩
          try walk_at "go"
          rw [take_all]
          exact q _ S2
      · rw [decide_eq_false cl, Bool.false_and] at q
        have e9 : (!decide (V.int ((tr.map fun t => t.1).length : Nat) = V.int (S : Nat))) = true := by rw [len_map1, decide_eq_false fun z => cl (by have := V.int.inj z; omega)] <;> rfl
        refine ifT e9 ?_
        try walk_at "go"
        exact q _ (Same.refl _)
def spUs (K : PySem.W.Frag) : Sp := fun vs H Q _ => ∃ (v : V) (d : PyData) (p : Addr) (S : Nat), vs = [v, .int S] ∧ Th K p H v d ∧ nsz d ≤ 1000000 ∧ S ≤ 1000000 ∧ ∀ H', Same H H' → Q (.bl (isUs S d)) H'
theorem k_are_numbers (D : Df K mg "are_numbers" s_are_numbers ["thing", "many"]) (D_is_whole : Dn P w K mg base 1 "is_whole" ["thing"] (spWhT K)) : Dn P w K mg base 3 "are_numbers" ["thing", "many"] (spUs K) := by
  refine D.ok fun f fd F => okG0 F sc_are_numbers (fun vs H Q E h => ?_) (fun cdv A outer s H vs Q E hr h => ⟨_, (pss_one (ps_ret (pe_and (pe_callB (kk (K := K) (F := rIsi) (P := CallR _ _) call_isi) (by rfl) B.isinstance_ (by decide +kernel) (pa_cons (pv 0) (pa_cons (pe_bltn (v := .ty "tuple") (u := .type "tuple") (by rfl) B.tuple_ (by decide +kernel) rfl) pa_nil))) (pe_one (pe_callB (kk (K := K) (F := rAll) (P := CallR _ _) (cr_all rfl)) (by rfl) B.all_ (by decide +kernel) (pa_cons (pe_lc (own := [("number", 2)]) (g := gName 2) (tt := tYes) rfl sc_are_numbers.nd (kk (K := K) (F := fun K => iTup K _) (P := PI _ _ _) (pi_tup (pv 0))) (blkOk_by (own := [("number", 2)]) (N := ["thing", "many", "number"]) (sc := defScope s_are_numbers) (by decide +kernel)) (fun _ _ _ _ _ => (pg_name (i := 2) sc_are_numbers.nd rfl (Or.inl rfl))) (fun _ _ _ _ _ => pts_nil) (fun _ _ _ _ _ => (pe_and (pe_cD D_is_whole (hr.less (by decide)) rfl (pa_cons (pv 2) pa_nil)) (pe_one (pe_chain op_le op_lt pe_int (pv 2) (pv 1)))))) pa_nil)))))), ?_⟩)
  · obtain ⟨v, d, p, S, rfl, _⟩ := h; rfl
  · obtain ⟨v, d, p, S, rfl, hd, hz, hS, q⟩ := h
    have ty := hd.ty
    have k1 := kit_tu (K := K) d
    cases ed : isTu d with
    | false =>
      rw [ed] at k1
      rw [isUs_no ed] at q
      try walk_at "go"
      first | exact q _ (Same.refl _) | exact ifF rfl (q _ (Same.refl _))
    | true =>
      rw [ed] at k1
      obtain ⟨ds, rfl⟩ := isTu_inv ed
      obtain ⟨a, tr, rfl, rfl, ha, htr⟩ := hd.tup_inv
      have lt : tr.length ≤ 1000000 := by
        have h1 := nszs_len (tr.map fun t => t.2)
        have h2 : 1 + nszs (tr.map fun t => t.2) ≤ 1000000 := hz
        rw [len_map2] at h1
        omega
      replace q : ∀ H', Same H H' → Q (.bl ((tr.map fun t => t.2).all (isU S))) H' := q
      try walk_at "go"
      intro D hD
      refine lc_tup (K := K) (a := a) (xs := tr.map fun t => t.1) (fun i H' => Kept (Same H H' ∧ H' D = some (.lst (((tr.take i).map fun t => isU S t.2).map V.bl)))) ⟨same_new hD _, upd_same⟩ (fun i H' _ h => SqT.of (h.1.1 _ _ ha)) ?_ ?_
      · rintro i y H2 hi ⟨S2, hD2⟩
        rw [List.getElem?_map] at hi
        obtain ⟨t, ht, rfl⟩ := Option.map_eq_some_iff.mp hi
        have th2 := (htr t (List.mem_of_getElem? ht)).same S2
        have ln : (((tr.take i).map fun t => isU S t.2).map V.bl).length ≤ 1000000 := by rw [List.length_map, List.length_map, List.length_take]; omega
        have slz : 3000000 ≤ sizeLine := by decide
        try walk_at "go"
        cases ew : isWh t.2 with
        | false =>
          have e0 : isU S t.2 = false := isU_no ew
          try walk_at "go"
          exact ⟨⟨but_same hD S2 But.upd, by rw [upd_same, ← e0, take_snocB (isU S) ht]⟩⟩
        | true =>
          obtain ⟨v1, d1⟩ := t
          obtain ⟨i1, e1⟩ := isWh_inv ew
          replace e1 : d1 = .int i1 := e1
          subst e1
          replace th2 : Th K p H2 v1 (.int i1) := th2
          cases th2.int_inv
          have e0 : isU S (.int i1) = (decide (0 ≤ i1) && decide (i1 < (S : Int))) := rfl
          try walk_at "go"
          refine ite2 (fun c => ?_) (fun c => ?_)
          · rw [c, Bool.true_and] at e0
            try walk_at "go"
            have e9 := take_snocB (isU S) ht
            rw [show isU S (V.int i1, PyData.int i1).2 = _ from e0] at e9
            exact ⟨⟨but_same hD S2 But.upd, by rw [upd_same]; exact congrArg (fun z => some (HO.lst z)) e9⟩⟩
          · rw [Bool.eq_false_iff.mpr c, Bool.false_and] at e0
            try walk_at "go"
            have e9 := take_snocB (isU S) ht
            rw [show isU S (V.int i1, PyData.int i1).2 = _ from e0] at e9
            exact ⟨⟨but_same hD S2 But.upd, by rw [upd_same]; exact congrArg (fun z => some (HO.lst z)) e9⟩⟩
      · rintro H2 ⟨S2, hD2⟩
        try walk_at "go"
        rw [take_all]
        exact q _ S2
def spFa (K : PySem.W.Frag) : Sp := fun vs H Q _ => ∃ (v : V) (d : PyData) (p : Addr) (most : Nat), vs = [v, .int most] ∧ Th K p H v d ∧ nsz d ≤ 1000000 ∧ most ≤ 60 ∧ ∀ H', Same H H' → Q (.bl (isFa most d)) H'
theorem k_are_by_table (D : Df K mg "are_by_table" s_are_by_table ["thing", "most"]) (D_is_by_table : Dn P w K mg base 3 "is_by_table" ["thing", "states"] (spIsBT K)) : Dn P w K mg base 4 "are_by_table" ["thing", "most"] (spFa K) := by
  refine D.ok fun f fd F => okG0 F sc_are_by_table (fun vs H Q E h => ?_) (fun cdv A outer s H vs Q E hr h => ⟨_, (pss_cons (ps_if (PW.pt (pw_or (pt_not (pt_val (pe_callB (kk (K := K) (F := rIsi) (P := CallR _ _) call_isi) (by rfl) B.isinstance_ (by decide +kernel) (pa_cons (pv 0) (pa_cons (pe_bltn (v := .ty "tuple") (u := .type "tuple") (by rfl) B.tuple_ (by decide +kernel) rfl) pa_nil))))) (pw_or (pt_not (pt_chain op_le op_le pe_int (pe_callB (lenK (K := K)) (by rfl) B.len_ (by decide +kernel) (pa_cons (pv 0) pa_nil)) (pv 1))) (pw_or1 (pt_not (pt_val (pe_callB (kk (K := K) (F := rIsi) (P := CallR _ _) call_isi) (by rfl) B.isinstance_ (by decide +kernel) (pa_cons (pe_ix (kk (K := K) (F := rIxT) (P := IxR _) ix_tup) (pv 0) pe_int (fun _ _ => rfl)) (pa_cons (pe_bltn (v := .ty "tuple") (u := .type "tuple") (by rfl) B.tuple_ (by decide +kernel) rfl) pa_nil)))))))))
      (pss_one (ps_ret pe_bl))
      pss_nil)
    (pss_cons (ps_set (i := 2) sc_are_by_table.nd rfl (Or.inr rfl) (pe_callB (lenK (K := K)) (by rfl) B.len_ (by decide +kernel) (pa_cons (pe_ix (kk (K := K) (F := rIxT) (P := IxR _) ix_tup) (pv 0) pe_int (fun _ _ => rfl)) pa_nil)))
    (pss_one (ps_ret (pe_and (pe_chain op_le op_le pe_int (pv 2) (pe_glob (v := .int (5)) (u := .int (5) B.MOST_STATES_.choose) (by rfl) B.MOST_STATES_.choose_spec ⟨_, rfl⟩)) (pe_one (pe_callB (kk (K := K) (F := rAll) (P := CallR _ _) (cr_all rfl)) (by rfl) B.all_ (by decide +kernel) (pa_cons (pe_lc (own := [("deed", 3)]) (g := gName 3) (tt := tYes) rfl sc_are_by_table.nd (kk (K := K) (F := fun K => iTup K _) (P := PI _ _ _) (pi_tup (pv 0))) (blkOk_by (own := [("deed", 3)]) (N := ["thing", "most", "states", "deed"]) (sc := defScope s_are_by_table) (by decide +kernel)) (fun _ _ _ _ _ => (pg_name (i := 3) sc_are_by_table.nd rfl (Or.inl rfl))) (fun _ _ _ _ _ => pts_nil) (fun _ _ _ _ _ => (pe_cD D_is_by_table (hr.less (by decide)) rfl (pa_cons (pv 3) (pa_cons (pv 2) pa_nil))))) pa_nil)))))))), ?_⟩)
  · obtain ⟨v, d, p, most, rfl, _⟩ := h; rfl
  · obtain ⟨v, d, p, most, rfl, hd, hz, hm, q⟩ := h
    have ty := hd.ty
    have k1 := kit_tu (K := K) d
    cases ed : isTu d with
    | false =>
      rw [ed] at k1
      rw [isFa_no ed] at q
      try walk_at "go"
      first | exact q _ (Same.refl _) | exact ifT rfl (q _ (Same.refl _))
    | true =>
      rw [ed] at k1
      obtain ⟨ds, rfl⟩ := isTu_inv ed
      obtain ⟨a, tr, rfl, rfl, ha, htr⟩ := hd.tup_inv
      have lt : tr.length ≤ 1000000 := by
        have h1 := nszs_len (tr.map fun t => t.2)
        have h2 : 1 + nszs (tr.map fun t => t.2) ≤ 1000000 := hz
        rw [len_map2] at h1
        omega
      have hzm : ∀ t ∈ tr, nsz t.2 ≤ 1000000 := fun t ht => by
        have h3 := (dep_mem (List.mem_map_of_mem (f := fun t : V × PyData => t.2) ht)).2
        have h4 : 1 + nszs (tr.map fun t => t.2) ≤ 1000000 := hz
        omega
      have eb : isFa most (.tuple (tr.map fun t => t.2)) = (decide (1 ≤ tr.length) && (decide (tr.length ≤ most) && (isTu (hdD (tr.map fun t => t.2)) && (decide (1 ≤ tlen (hdD (tr.map fun t => t.2))) && (decide (tlen (hdD (tr.map fun t => t.2)) ≤ 5) && (tr.map fun t => t.2).all (isBT (tlen (hdD (tr.map fun t => t.2))))))))) := by
        show (decide (1 ≤ (tr.map fun t => t.2).length) && (decide ((tr.map fun t => t.2).length ≤ most) && _)) = _
        rw [len_map2] <;> rfl
      rw [eb] at q
      by_cases c1' : 1 ≤ tr.length
      · have e1 : decide ((1 : Int) ≤ ((tr.map fun t => t.1).length : Nat)) = true := decide_eq_true (by rw [len_map1]; omega)
        rw [decide_eq_true c1', Bool.true_and] at q
        obtain ⟨t0, h0⟩ : ∃ t0, tr[0]? = some t0 := ⟨_, List.getElem?_eq_getElem (by omega)⟩
        have hm0 := List.mem_of_getElem? h0
        have a0 : atI (tr.map fun t => t.1) 0 = some t0.1 := at_of (j := 0) rfl (by rw [List.getElem?_map, h0] <;> rfl)
        have hd0 : hdD (tr.map fun t => t.2) = t0.2 := by
          cases tr with
          | nil => cases h0
          | cons x r => cases h0; rfl
        rw [hd0] at q
        have ty0 := (htr t0 hm0).ty
        have k0 := kit_tu (K := K) t0.2
        try walk_at "go"
        refine ifT e1 ?_
        try walk_at "go"
        by_cases c2' : tr.length ≤ most
        · have e2 : decide ((((tr.map fun t => t.1).length : Nat) : Int) ≤ (most : Nat)) = true := decide_eq_true (by rw [len_map1]; omega)
          rw [decide_eq_true c2', Bool.true_and] at q
          refine ifF (by rw [e2] <;> rfl) ?_
          try walk_at "go"
          cases ed0 : isTu t0.2 with
          | false =>
            rw [ed0] at k0 q
            try walk_at "go"
            refine ifT rfl ?_
            try walk_at "go"
            exact q _ (Same.refl _)
          | true =>
            rw [ed0] at k0 q
            rw [Bool.true_and] at q
            obtain ⟨v0, d0⟩ := t0
            obtain ⟨ds0, rfl⟩ := isTu_inv (show isTu d0 = true from ed0)
            obtain ⟨b0, tr0, rfl, rfl, hb0, htr0⟩ := (show Th K p H v0 (.tuple ds0) from htr _ hm0).tup_inv
            have tl0 : tlen (V.ref b0, PyData.tuple (tr0.map fun t => t.2)).2 = tr0.length := by
              show (tr0.map fun t => t.2).length = _
              exact len_map2
            rw [tl0] at q
            have l0 : tr0.length ≤ 1000000 := by
              have h1 := nszs_len (tr0.map fun t => t.2)
              have h2 : 1 + nszs (tr0.map fun t => t.2) ≤ 1000000 := hzm _ hm0
              rw [len_map2] at h1
              omega
            have l1 : ((tr0.map fun t => t.1).length : Int) = (tr0.length : Nat) := by rw [len_map1]
            try walk_at "go"
            by_cases c3 : 1 ≤ tr0.length
            · have e3 : decide ((1 : Int) ≤ ((tr0.map fun t => t.1).length : Nat)) = true := decide_eq_true (by rw [len_map1]; omega)
              rw [decide_eq_true c3, Bool.true_and] at q
              refine ifT e3 ?_
              try walk_at "go"
              by_cases c4 : tr0.length ≤ 5
              · have e4 : decide ((((tr0.map fun t => t.1).length : Nat) : Int) ≤ 5) = true := decide_eq_true (by rw [len_map1]; omega)
                rw [decide_eq_true c4, Bool.true_and] at q
                refine ifT e4 ?_
                rw [← len_map1] at q
                generalize eS : (tr0.map fun t : V × PyData => t.1).length = S at q ⊢
                have hS : S ≤ 1000000 := by rw [← eS, len_map1]; omega
                try walk_at "go"
                intro D hD
                refine lc_tup (K := K) (a := a) (xs := tr.map fun t => t.1) (fun i H' => Kept (Same H H' ∧ H' D = some (.lst (((tr.take i).map fun t => isBT S t.2).map V.bl)))) ⟨same_new hD _, upd_same⟩ (fun i H' _ h => SqT.of (h.1.1 _ _ ha)) ?_ ?_
                · rintro i y H2 hi ⟨S2, hD2⟩
                  rw [List.getElem?_map] at hi
                  obtain ⟨t, ht, rfl⟩ := Option.map_eq_some_iff.mp hi
                  have th2 := (htr t (List.mem_of_getElem? ht)).same S2
                  have ln : (((tr.take i).map fun t => isBT S t.2).map V.bl).length ≤ 1000000 := by rw [List.length_map, List.length_map, List.length_take]; omega
                  have slz : 3000000 ≤ sizeLine := by decide
                  have hzt := hzm t (List.mem_of_getElem? ht)
                  try walk_at "go"
                  intro H3 S3
                  have hD3 := S3 _ _ hD2
                  try walk_at "go"
                  exact ⟨⟨but_same hD (S2.trans S3) But.upd, by rw [upd_same, take_snocB (isBT S) ht]⟩⟩
                · rintro H2 ⟨S2, hD2⟩
                  try walk_at "go"
                  rw [take_all]
                  exact q _ S2
              · have e4 : decide ((((tr0.map fun t => t.1).length : Nat) : Int) ≤ 5) = false := decide_eq_false (by rw [len_map1]; omega)
                rw [decide_eq_false c4, Bool.false_and] at q
                refine ifF e4 ?_
                try walk_at "go"
                first | exact q _ (Same.refl _) | (rw [e4]; exact q _ (Same.refl _))
            · have e3 : decide ((1 : Int) ≤ ((tr0.map fun t => t.1).length : Nat)) = false := decide_eq_false (by rw [len_map1]; omega)
              rw [decide_eq_false c3, Bool.false_and] at q
              refine ifF e3 ?_
              try walk_at "go"
              first | exact q _ (Same.refl _) | (rw [e3]; exact q _ (Same.refl _))
        · have e2 : decide ((((tr.map fun t => t.1).length : Nat) : Int) ≤ (most : Nat)) = false := decide_eq_false (by rw [len_map1]; omega)
          rw [decide_eq_false c2', Bool.false_and] at q
          refine ifT (by rw [e2] <;> rfl) ?_
          try walk_at "go"
          exact q _ (Same.refl _)
      · have e1 : decide ((1 : Int) ≤ ((tr.map fun t => t.1).length : Nat)) = false := decide_eq_false (by rw [len_map1]; omega)
        rw [decide_eq_false c1', Bool.false_and] at q
        try walk_at "go"
        refine ifF e1 ?_
        try walk_at "go"
        first | exact q _ (Same.refl _) | exact ifT rfl (q _ (Same.refl _))
def spWMk (K : PySem.W.Frag) (C : Addr) : Sp := fun vs H Q E => ∃ (v : V) (d : PyData) (p : Addr), vs = [v] ∧ Th K p H v d ∧ nsz d ≤ 1000000 ∧ (isFa 4 d = true → ∀ H', Same H H' → Q .non H') ∧ (isFa 4 d = false → ∀ H', Same H H' → E (.ref C) none H')
theorem k_want_makers (D : Df K mg "want_makers" s_want_makers ["deeds"]) (D_are_by_table : Dn P w K mg base 4 "are_by_table" ["thing", "most"] (spFa K)) : Dx P w K mg base 5 "want_makers" ["deeds"] (spWMk K (cAt mg "NoTable")) := by
  refine D.okX fun f fd F => okGX F sc_want_makers (fun vs H Q E h => ?_) (fun cdv A outer s H vs Q E hr h => ⟨_, (pss_one (ps_if (pt_not (pt_val (pe_cD D_are_by_table (hr.less (by decide)) rfl (pa_cons (pv 0) (pa_cons (pe_glob (v := .int (4)) (u := .int (4) B.MOST_MAKERS_.choose) (by rfl) B.MOST_MAKERS_.choose_spec ⟨_, rfl⟩) pa_nil)))))
     (pss_one (ps_raise rfl (takes_of rfl rfl rfl rfl) (pmk_own PySem.F.excBase_ValueError B.NoTable_.ex B.NoTable_.mg_ B.NoTable_.kp (raises_own B.NoTable_.bs B.NoTable_.tp) rfl)))
     pss_nil)), ?_⟩)
  · obtain ⟨v, d, p, rfl, _⟩ := h; rfl
  · obtain ⟨v, d, p, rfl, hd, hz, q1, q2⟩ := h
    try walk_at "go"
    intro H1 S1
    cases e : isFa 4 d with
    | false =>
      try walk_at "go"
      refine ifT rfl ?_
      try walk_at "go"
      exact q2 e _ S1
    | true =>
      try walk_at "go"
      first | exact q1 e _ S1 | exact ifF rfl (q1 e _ S1)
def spTb (K : PySem.W.Frag) : Sp := fun vs H Q _ => ∃ (v : V) (d : PyData) (p : Addr), vs = [v] ∧ Th K p H v d ∧ nsz d ≤ 1000000 ∧ ∀ H', Same H H' → Q (.bl (isTb d)) H'
theorem k_is_table (D : Df K mg "is_table" s_is_table ["thing"]) (D_are_numbers : Dn P w K mg base 3 "are_numbers" ["thing", "many"] (spUs K)) : Dn P w K mg base 4 "is_table" ["thing"] (spTb K) := by
  refine D.ok fun f fd F => okG0 F sc_is_table (fun vs H Q E h => ?_) (fun cdv A outer s H vs Q E hr h => ⟨_, (pss_cons (ps_if (PW.pt (pw_or (pt_not (pt_val (pe_callB (kk (K := K) (F := rIsi) (P := CallR _ _) call_isi) (by rfl) B.isinstance_ (by decide +kernel) (pa_cons (pv 0) (pa_cons (pe_bltn (v := .ty "tuple") (u := .type "tuple") (by rfl) B.tuple_ (by decide +kernel) rfl) pa_nil))))) (pw_or1 (pt_not (pt_chain op_le op_le pe_int (pe_callB (lenK (K := K)) (by rfl) B.len_ (by decide +kernel) (pa_cons (pv 0) pa_nil)) (pe_glob (v := .int (60)) (u := .int (60) B.MOST_FAMILY_.choose) (by rfl) B.MOST_FAMILY_.choose_spec ⟨_, rfl⟩))))))
      (pss_one (ps_ret pe_bl))
      pss_nil)
    (pss_one (ps_ret (pe_callB (kk (K := K) (F := rAll) (P := CallR _ _) (cr_all rfl)) (by rfl) B.all_ (by decide +kernel) (pa_cons (pe_lc (own := [("row", 1)]) (g := gName 1) (tt := tYes) rfl sc_is_table.nd (kk (K := K) (F := fun K => iTup K _) (P := PI _ _ _) (pi_tup (pv 0))) (blkOk_by (own := [("row", 1)]) (N := ["thing", "row"]) (sc := defScope s_is_table) (by decide +kernel)) (fun _ _ _ _ _ => (pg_name (i := 1) sc_is_table.nd rfl (Or.inl rfl))) (fun _ _ _ _ _ => pts_nil) (fun _ _ _ _ _ => (pe_and (pe_cD D_are_numbers (hr.less (by decide)) rfl (pa_cons (pv 1) (pa_cons (pe_callB (lenK (K := K)) (by rfl) B.len_ (by decide +kernel) (pa_cons (pv 0) pa_nil)) pa_nil))) (pe_one (pe_cmpR op_eq (pe_callB (lenK (K := K)) (by rfl) B.len_ (by decide +kernel) (pa_cons (pv 1) pa_nil)) (pe_callB (lenK (K := K)) (by rfl) B.len_ (by decide +kernel) (pa_cons (pv 0) pa_nil)) (nomark _)))))) pa_nil))))), ?_⟩)
  · obtain ⟨v, d, p, rfl, _⟩ := h; rfl
  · obtain ⟨v, d, p, rfl, hd, hz, q⟩ := h
    have ty := hd.ty
    have k1 := kit_tu (K := K) d
    cases ed : isTu d with
    | false =>
      rw [ed] at k1
      rw [isTb_no ed] at q
      try walk_at "go"
      first | exact q _ (Same.refl _) | exact ifT rfl (q _ (Same.refl _))
    | true =>
      rw [ed] at k1
      obtain ⟨ds, rfl⟩ := isTu_inv ed
      obtain ⟨a, tr, rfl, rfl, ha, htr⟩ := hd.tup_inv
      have lt : tr.length ≤ 1000000 := by
        have h1 := nszs_len (tr.map fun t => t.2)
        have h2 : 1 + nszs (tr.map fun t => t.2) ≤ 1000000 := hz
        rw [len_map2] at h1
        omega
      have hzm : ∀ t ∈ tr, nsz t.2 ≤ 1000000 := fun t ht => by
        have h3 := (dep_mem (List.mem_map_of_mem (f := fun t : V × PyData => t.2) ht)).2
        have h4 : 1 + nszs (tr.map fun t => t.2) ≤ 1000000 := hz
        omega
      have eb : isTb (.tuple (tr.map fun t => t.2)) = (decide (1 ≤ tr.length) && (decide (tr.length ≤ 60) && (tr.map fun t => t.2).all (isBT tr.length))) := by
        show (decide (1 ≤ (tr.map fun t => t.2).length) && (decide ((tr.map fun t => t.2).length ≤ 60) && _)) = _
        rw [len_map2] <;> rfl
      rw [eb] at q
      by_cases c1' : 1 ≤ tr.length
      · have e1 : decide ((1 : Int) ≤ ((tr.map fun t => t.1).length : Nat)) = true := decide_eq_true (by rw [len_map1]; omega)
        rw [decide_eq_true c1', Bool.true_and] at q
        try walk_at "go"
        refine ifT e1 ?_
        try walk_at "go"
        by_cases c2' : tr.length ≤ 60
        · have e2 : decide ((((tr.map fun t => t.1).length : Nat) : Int) ≤ 60) = true := decide_eq_true (by rw [len_map1]; omega)
          rw [decide_eq_true c2', Bool.true_and] at q
          refine ifF (by rw [e2] <;> rfl) ?_
          try walk_at "go"
          intro D hD
          refine lc_tup (K := K) (a := a) (xs := tr.map fun t => t.1) (fun i H' => Kept (Same H H' ∧ H' D = some (.lst (((tr.take i).map fun t => isBT tr.length t.2).map V.bl)))) ⟨same_new hD _, upd_same⟩ (fun i H' _ h => SqT.of (h.1.1 _ _ ha)) ?_ ?_
          · rintro i y H2 hi ⟨S2, hD2⟩
            rw [List.getElem?_map] at hi
            obtain ⟨t, ht, rfl⟩ := Option.map_eq_some_iff.mp hi
            have th2 := (htr t (List.mem_of_getElem? ht)).same S2
            have ln : (((tr.take i).map fun t => isBT tr.length t.2).map V.bl).length ≤ 1000000 := by rw [List.length_map, List.length_map, List.length_take]; omega
            have slz : 3000000 ≤ sizeLine := by decide
            have hzt := hzm t (List.mem_of_getElem? ht)
            have ha2 := S2 _ _ ha
            have kt := kit_tu (K := K) t.2
            try walk_at "go"
            rw [len_map1]
            try walk_at "go"
            intro H3 S3
            have hD3 := S3 _ _ hD2
            have e0 := isBT_us (m := tr.length) (d := t.2)
            cases e1 : isUs tr.length t.2 with
            | false =>
              rw [e1, Bool.false_and] at e0
              try walk_at "go"
              exact ⟨⟨but_same hD (S2.trans S3) But.upd, by rw [upd_same, ← e0, take_snocB (isBT tr.length) ht]⟩⟩
            | true =>
              rw [e1, Bool.true_and] at e0
              obtain ⟨v1, d1⟩ := t
              obtain ⟨b1, xs, b2, b3, b4, b5⟩ := us_of th2 e1
              replace b2 : v1 = .ref b1 := b2
              subst b2
              have b6 := S3 _ _ b3
              have ha3 := S3 _ _ ha2
              have e2 : decide (V.int (((iN xs).map V.int).length : Nat) = V.int ((tr.map fun t => t.1).length : Nat)) = isBT tr.length d1 := by
                rw [show isBT tr.length d1 = _ from e0, iN_len, len_map1, show tlen d1 = xs.length from b5.symm]
                by_cases c : xs.length = tr.length
                · rw [decide_eq_true (by rw [c]), decide_eq_true c]
                · rw [decide_eq_false fun z => c (by have := V.int.inj z; omega), decide_eq_false c]
              try walk_at "go"
              have e9 := take_snocB (isBT tr.length) ht
              rw [show isBT tr.length (V.ref b1, d1).2 = _ from e2.symm] at e9
              exact ⟨⟨but_same hD (S2.trans S3) But.upd, by rw [upd_same]; exact congrArg (fun z => some (HO.lst z)) e9⟩⟩
          · rintro H2 ⟨S2, hD2⟩
            try walk_at "go"
            rw [take_all]
            exact q _ S2
        · have e2 : decide ((((tr.map fun t => t.1).length : Nat) : Int) ≤ 60) = false := decide_eq_false (by rw [len_map1]; omega)
          rw [decide_eq_false c2', Bool.false_and] at q
          refine ifT (by rw [e2] <;> rfl) ?_
          try walk_at "go"
          exact q _ (Same.refl _)
      · have e1 : decide ((1 : Int) ≤ ((tr.map fun t => t.1).length : Nat)) = false := decide_eq_false (by rw [len_map1]; omega)
        rw [decide_eq_false c1', Bool.false_and] at q
        try walk_at "go"
        refine ifF e1 ?_
        try walk_at "go"
        first | exact q _ (Same.refl _) | exact ifT rfl (q _ (Same.refl _))
def spWTb (K : PySem.W.Frag) (C : Addr) : Sp := fun vs H Q E => ∃ (v : V) (d : PyData) (p : Addr), vs = [v] ∧ Th K p H v d ∧ nsz d ≤ 1000000 ∧ (isTb d = true → ∀ H', Same H H' → Q .non H') ∧ (isTb d = false → ∀ H', Same H H' → E (.ref C) none H')
theorem k_want_table (D : Df K mg "want_table" s_want_table ["table"]) (D_is_table : Dn P w K mg base 4 "is_table" ["thing"] (spTb K)) : Dx P w K mg base 5 "want_table" ["table"] (spWTb K (cAt mg "NoTable")) := by
  refine D.okX fun f fd F => okGX F sc_want_table (fun vs H Q E h => ?_) (fun cdv A outer s H vs Q E hr h => ⟨_, (pss_one (ps_if (pt_not (pt_val (pe_cD D_is_table (hr.less (by decide)) rfl (pa_cons (pv 0) pa_nil))))
     (pss_one (ps_raise rfl (takes_of rfl rfl rfl rfl) (pmk_own PySem.F.excBase_ValueError B.NoTable_.ex B.NoTable_.mg_ B.NoTable_.kp (raises_own B.NoTable_.bs B.NoTable_.tp) rfl)))
     pss_nil)), ?_⟩)
  · obtain ⟨v, d, p, rfl, _⟩ := h; rfl
  · obtain ⟨v, d, p, rfl, hd, hz, q1, q2⟩ := h
    try walk_at "go"
    intro H1 S1
    cases e : isTb d with
    | false =>
      try walk_at "go"
      refine ifT rfl ?_
      try walk_at "go"
      exact q2 e _ S1
    | true =>
      try walk_at "go"
      first | exact q1 e _ S1 | exact ifF rfl (q1 e _ S1)
def isBy (d dt : PyData) : Bool := isTb dt && (isFa 60 d && decide (tlen d = tlen dt))
def spWBy (K : PySem.W.Frag) (C : Addr) : Sp := fun vs H Q E => ∃ (v w : V) (d dt : PyData) (p : Addr), vs = [v, w] ∧ Th K p H v d ∧ Th K p H w dt ∧ nsz d ≤ 1000000 ∧ nsz dt ≤ 1000000 ∧ (isBy d dt = true → ∀ H', Same H H' → Q .non H') ∧ (isBy d dt = false → ∀ H', Same H H' → E (.ref C) none H')
theorem k_want_by_table (D : Df K mg "want_by_table" s_want_by_table ["deeds", "table"]) (D_want_table : Dx P w K mg base 5 "want_table" ["table"] (spWTb K (cAt mg "NoTable"))) (D_are_by_table : Dn P w K mg base 4 "are_by_table" ["thing", "most"] (spFa K)) : Dx P w K mg base 6 "want_by_table" ["deeds", "table"] (spWBy K (cAt mg "NoTable")) := by
  refine D.okX fun f fd F => okGX F sc_want_by_table (fun vs H Q E h => ?_) (fun cdv A outer s H vs Q E hr h => ⟨_, (pss_cons (ps_expr (pe_cW D_want_table (hr.less (by decide)) (takes_of rfl rfl rfl rfl) rfl (pa_cons (pv 1) pa_nil)))
    (pss_one (ps_if (PW.pt (pw_or (pt_not (pt_val (pe_cD D_are_by_table (hr.less (by decide)) rfl (pa_cons (pv 0) (pa_cons (pe_glob (v := .int (60)) (u := .int (60) B.MOST_FAMILY_.choose) (by rfl) B.MOST_FAMILY_.choose_spec ⟨_, rfl⟩) pa_nil))))) (pw_or1 (pt_cmpR op_ne (pe_callB (lenK (K := K)) (by rfl) B.len_ (by decide +kernel) (pa_cons (pv 0) pa_nil)) (pe_callB (lenK (K := K)) (by rfl) B.len_ (by decide +kernel) (pa_cons (pv 1) pa_nil)) (nomark _)))))
     (pss_one (ps_raise rfl (takes_of rfl rfl rfl rfl) (pmk_own PySem.F.excBase_ValueError B.NoTable_.ex B.NoTable_.mg_ B.NoTable_.kp (raises_own B.NoTable_.bs B.NoTable_.tp) rfl)))
     pss_nil))), ?_⟩)
  · obtain ⟨v, w, d, dt, p, rfl, _⟩ := h; rfl
  · obtain ⟨v, w, d, dt, p, rfl, hd, ht, hz, hzt, q1, q2⟩ := h
    try walk_at "go"
    refine ⟨fun et H1 S1 => ?_, fun e H1 S1 => q2 (by unfold isBy; rw [e] <;> rfl) H1 S1⟩
    have eb : isBy d dt = (isFa 60 d && decide (tlen d = tlen dt)) := by unfold isBy; rw [et, Bool.true_and]
    rw [eb] at q1 q2
    clear eb
    have hd1 := hd.same S1
    try walk_at "go"
    intro H2 S2
    have S12 := S1.trans S2
    cases e : isFa 60 d with
    | false =>
      rw [e, Bool.false_and] at q2
      try walk_at "go"
      refine ifT rfl ?_
      try walk_at "go"
      exact q2 rfl _ S12
    | true =>
      rw [e, Bool.true_and] at q1 q2
      obtain ⟨D, qs, S, rfl, g, _, _, _, _, l1, _⟩ := fa_of hd e
      obtain ⟨T, rs, rfl, g2, _, _, l2⟩ := tb_of ht et
      have gt := S12 _ _ g.top
      have gt2 := S12 _ _ g2.top
      rw [← l1, ← l2] at q1 q2
      have e9 : decide (V.int ((qs.map fun x => V.ref x.1).length : Nat) = V.int ((rs.map fun x => V.ref x.1).length : Nat)) = decide (qs.length = rs.length) := by
        rw [List.length_map, List.length_map]
        by_cases c : qs.length = rs.length
        · rw [decide_eq_true (by rw [c]), decide_eq_true c]
        · rw [decide_eq_false fun z => c (by have := V.int.inj z; omega), decide_eq_false c]
      try walk_at "go"
      cases c : decide (qs.length = rs.length) with
      | true =>
        refine ifF (by rw [e9, c] <;> rfl) ?_
        exact q1 c _ S12
      | false =>
        refine ifT (by rw [e9, c] <;> rfl) ?_
        try walk_at "go"
        exact q2 c _ S12
def isNb (n : Nat) (d : PyData) : Bool := isUs n d && (decide (1 ≤ tlen d) && decide (tlen d ≤ 40))
def spWNb (K : PySem.W.Frag) (C : Addr) : Sp := fun vs H Q E => ∃ (T : Addr) (xs : List V) (w : V) (d : PyData) (p : Addr), vs = [.ref T, w] ∧ H T = some (.tup xs) ∧ xs.length ≤ 100 ∧ Th K p H w d ∧ nsz d ≤ 1000000 ∧ (isNb xs.length d = true → ∀ H', Same H H' → Q .non H') ∧ (isNb xs.length d = false → ∀ H', Same H H' → E (.ref C) none H')
theorem k_want_numbers (D : Df K mg "want_numbers" s_want_numbers ["table", "numbers"]) (D_are_numbers : Dn P w K mg base 3 "are_numbers" ["thing", "many"] (spUs K)) : Dx P w K mg base 6 "want_numbers" ["table", "numbers"] (spWNb K (cAt mg "NoNumber")) := by
  refine D.okX fun f fd F => okGX F sc_want_numbers (fun vs H Q E h => ?_) (fun cdv A outer s H vs Q E hr h => ⟨_, (pss_one (ps_if (PW.pt (pw_or (pt_not (pt_val (pe_cD D_are_numbers (hr.less (by decide)) rfl (pa_cons (pv 1) (pa_cons (pe_callB (lenK (K := K)) (by rfl) B.len_ (by decide +kernel) (pa_cons (pv 0) pa_nil)) pa_nil))))) (pw_or1 (pt_not (pt_chain op_le op_le pe_int (pe_callB (lenK (K := K)) (by rfl) B.len_ (by decide +kernel) (pa_cons (pv 1) pa_nil)) (pe_glob (v := .int (40)) (u := .int (40) B.MOST_NUMBERS_.choose) (by rfl) B.MOST_NUMBERS_.choose_spec ⟨_, rfl⟩))))))
     (pss_one (ps_raise rfl (takes_of rfl rfl rfl rfl) (pmk_own PySem.F.excBase_ValueError B.NoNumber_.ex B.NoNumber_.mg_ B.NoNumber_.kp (raises_own B.NoNumber_.bs B.NoNumber_.tp) rfl)))
     pss_nil)), ?_⟩)
  · obtain ⟨T, xs, w, d, p, rfl, _⟩ := h; rfl
  · obtain ⟨T, xs, w, d, p, rfl, hT, lx, hd, hz, q1, q2⟩ := h
    try walk_at "go"
    intro H1 S1
    cases e : isUs xs.length d with
    | false =>
      have e0 : isNb xs.length d = false := by unfold isNb; rw [e] <;> rfl
      try walk_at "go"
      refine ifT rfl ?_
      try walk_at "go"
      exact q2 e0 _ S1
    | true =>
      obtain ⟨U, ns, rfl, hU, _, l1⟩ := us_of hd e
      have hU1 := S1 _ _ hU
      have e0 : isNb xs.length d = (decide (1 ≤ ns.length) && decide (ns.length ≤ 40)) := by unfold isNb; rw [e, Bool.true_and, l1]
      rw [e0] at q1 q2
      try walk_at "go"
      by_cases c1 : 1 ≤ ns.length
      · have e1 : decide ((1 : Int) ≤ (((iN ns).map V.int).length : Nat)) = true := decide_eq_true (by rw [iN_len]; omega)
        rw [decide_eq_true c1, Bool.true_and] at q1 q2
        refine ifT e1 ?_
        try walk_at "go"
        by_cases c2 : ns.length ≤ 40
        · have e2 : decide (((((iN ns).map V.int).length : Nat) : Int) ≤ 40) = true := decide_eq_true (by rw [iN_len]; omega)
          refine ifF (by rw [e2] <;> rfl) ?_
          exact q1 (decide_eq_true c2) _ S1
        · have e2 : decide (((((iN ns).map V.int).length : Nat) : Int) ≤ 40) = false := decide_eq_false (by rw [iN_len]; omega)
          refine ifT (by rw [e2] <;> rfl) ?_
          try walk_at "go"
          exact q2 (decide_eq_false c2) _ S1
      · have e1 : decide ((1 : Int) ≤ (((iN ns).map V.int).length : Nat)) = false := decide_eq_false (by rw [iN_len]; omega)
        rw [decide_eq_false c1, Bool.false_and] at q1 q2
        refine ifF e1 ?_
        try walk_at "go"
        first | exact q2 rfl _ S1 | (refine ifT rfl ?_)
        try walk_at "go"
        first | done | exact q2 rfl _ S1
/-! SPLIT -/
def spInT (K : PySem.W.Frag) : Sp := fun vs H Q _ => ∃ (v : V) (d : PyData) (p : Addr) (a b : Int), vs = [v, .int a, .int b] ∧ Th K p H v d ∧ Q (.bl (isR d a b)) H
theorem k_is_within (D : Df K mg "is_within" s_is_within ["thing", "least", "most"]) (D_is_whole : Dn P w K mg base 1 "is_whole" ["thing"] (spWhT K)) : Dn P w K mg base 2 "is_within" ["thing", "least", "most"] (spInT K) := by
  refine D.ok fun f fd F => okG0 F sc_is_within (fun vs H Q E h => ?_) (fun cdv A outer s H vs Q E hr h => ⟨_, (pss_one (ps_ret (pe_and (pe_cD D_is_whole (hr.less (by decide)) rfl (pa_cons (pv 0) pa_nil)) (pe_one (pe_chain op_le op_le (pv 1) (pv 0) (pv 2)))))), ?_⟩)
  · obtain ⟨v, d, p, a, b, rfl, _⟩ := h; rfl
  · obtain ⟨v, d, p, a, b, rfl, hd, q⟩ := h
    try walk_at "go"
    cases e : isWh d with
    | false =>
      rw [isR_no e] at q
      try walk_at "go"
      exact q
    | true =>
      obtain ⟨i, rfl⟩ := isWh_inv e
      cases hd.int_inv
      replace q : Q (.bl (decide (a ≤ i) && decide (i ≤ b))) H := q
      try walk_at "go"
      refine ite2 (fun c => ?_) (fun c => ?_)
      · rw [c, Bool.true_and] at q
        try walk_at "go"
        exact q
      · rw [Bool.eq_false_iff.mpr c, Bool.false_and] at q
        try walk_at "go"
        exact q
def spWI24 (K : PySem.W.Frag) (C : Addr) : Sp := fun vs H Q E => ∃ (v : V) (d : PyData) (p : Addr) (a b : Int), vs = [v, .int a, .int b] ∧ Th K p H v d ∧ (isR d a b = true → Q .non H) ∧ (isR d a b = false → E (.ref C) none H)
theorem k_want_within (D : Df K mg "want_within" s_want_within ["thing", "least", "most"]) (D_is_within : Dn P w K mg base 2 "is_within" ["thing", "least", "most"] (spInT K)) : Dx P w K mg base 3 "want_within" ["thing", "least", "most"] (spWI24 K (cAt mg "NoNumber")) := by
  refine D.okX fun f fd F => okGX F sc_want_within (fun vs H Q E h => ?_) (fun cdv A outer s H vs Q E hr h => ⟨_, (pss_one (ps_if (pt_not (pt_val (pe_cD D_is_within (hr.less (by decide)) rfl (pa_cons (pv 0) (pa_cons (pv 1) (pa_cons (pv 2) pa_nil))))))
     (pss_one (ps_raise rfl (takes_of rfl rfl rfl rfl) (pmk_own PySem.F.excBase_ValueError B.NoNumber_.ex B.NoNumber_.mg_ B.NoNumber_.kp (raises_own B.NoNumber_.bs B.NoNumber_.tp) rfl)))
     pss_nil)), ?_⟩)
  · obtain ⟨v, d, p, a, b, rfl, _⟩ := h; rfl
  · obtain ⟨v, d, p, a, b, rfl, hd, q1, q2⟩ := h
    try walk_at "go"
    cases e : isR d a b with
    | true =>
      refine ifF rfl ?_
      try walk_at "go"
      exact q1 e
    | false =>
      refine ifT rfl ?_
      exact q2 e
def spWM24 (K : PySem.W.Frag) (C : Addr) : Sp := fun vs H Q E => ∃ (v : V) (d : PyData) (p : Addr), vs = [v] ∧ Th K p H v d ∧ (isR d 1 40 = true → Q .non H) ∧ (isR d 1 40 = false → E (.ref C) none H)
theorem k_want_many (D : Df K mg "want_many" s_want_many ["many"]) (D_want_within : Dx P w K mg base 3 "want_within" ["thing", "least", "most"] (spWI24 K (cAt mg "NoNumber"))) : Dx P w K mg base 4 "want_many" ["many"] (spWM24 K (cAt mg "NoNumber")) := by
  refine D.okX fun f fd F => okGX F sc_want_many (fun vs H Q E h => ?_) (fun cdv A outer s H vs Q E hr h => ⟨_, (pss_one (ps_expr (pe_cW D_want_within (hr.less (by decide)) (takes_of rfl rfl rfl rfl) rfl (pa_cons (pv 0) (pa_cons pe_int (pa_cons (pe_glob (v := .int (40)) (u := .int (40) B.MOST_DEEDS_.choose) (by rfl) B.MOST_DEEDS_.choose_spec ⟨_, rfl⟩) pa_nil)))))), ?_⟩)
  · obtain ⟨v, d, p, rfl, _⟩ := h; rfl
  · obtain ⟨v, d, p, rfl, hd, q1, q2⟩ := h
    try walk_at "go"
    exact fun e => q2 e
def spIsT24 (K : PySem.W.Frag) (C : Addr) : Sp := fun vs H Q E => ∃ (v w : V) (d m0 : PyData) (p : Addr), vs = [v, w] ∧ Th K p H v d ∧ Th K p H w m0 ∧ nsz d ≤ 10000000 ∧ (∀ m : Nat, m0 = .int m → 1 ≤ m → m ≤ 40 → ∀ H', Same H H' → Q (.bl (isT d m)) H') ∧ (isR m0 1 40 = false → ∀ H', Same H H' → E (.ref C) none H')
def ItT (K : PySem.W.Frag) (p : Addr) (H0 : Hp) (v : V) (d : PyData) (m : Nat) (L : Addr) (k : Nat) (σ : L2.St) (H : Hp) : Prop := ∃ (ts : List (V × PyData)) (c : Nat) (w4 : Option V), σ = [some v, some (.int m), some (.ref L), some (.int c), w4] ∧ Same H0 H ∧ H L = some (.lst (ts.reverse.map fun t => t.1)) ∧ (∀ t ∈ ts, Th K p H0 t.1 t.2) ∧ lv d = ris c ++ (ts.map fun t => t.2).flatMap lv ∧ k = szV ts ∧ szV ts ≤ nsz d
theorem k_is_tree (D : Df K mg "is_tree" s_is_tree ["thing", "many"]) (D_want_many : Dx P w K mg base 4 "want_many" ["many"] (spWM24 K (cAt mg "NoNumber"))) (D_is_whole : Dn P w K mg base 1 "is_whole" ["thing"] (spWhT K)) : Dx P w K mg base 5 "is_tree" ["thing", "many"] (spIsT24 K (cAt mg "NoNumber")) := by
  refine D.okX fun f fd F => okGX F sc_is_tree (fun vs H Q E h => ?_) (fun cdv A outer s H vs Q E hr h => ⟨_, (pss_cons (ps_expr (pe_cW D_want_many (hr.less (by decide)) (takes_of rfl rfl rfl rfl) rfl (pa_cons (pv 1) pa_nil)))
    (pss_cons (ps_set (i := 2) sc_is_tree.nd rfl (Or.inl rfl) (pe_lst (pa_cons (pv 0) pa_nil)))
    (pss_cons (ps_set (i := 3) sc_is_tree.nd rfl (Or.inl rfl) pe_int)
    (pss_cons (ps_while (passes_of rfl) (pt_cmpR (kk (K := K) (F := rNeNil) (P := OpR _ _) (op_neNil hr.units)) (pv 2) (pe_lst pa_nil) (nomark _))
      (pss_cons (ps_set (i := 4) sc_is_tree.nd rfl (Or.inl rfl) (kk (K := K) (F := fun K => tBM0 K "list" _ _) (P := PE _ _) (pe_bm0 PySem.F.plainAttrs_list PySem.F.slot_list_pop PySem.F.type_list_pop mt_pop (pv 2))))
      (pss_one (ps_if (pt_val (pe_callB (kk (K := K) (F := rIsi) (P := CallR _ _) call_isi) (by rfl) B.isinstance_ (by decide +kernel) (pa_cons (pv 4) (pa_cons (pe_bltn (v := .ty "tuple") (u := .type "tuple") (by rfl) B.tuple_ (by decide +kernel) rfl) pa_nil))))
       (pss_cons (ps_if (pt_cmpR op_ne (pe_callB (lenK (K := K)) (by rfl) B.len_ (by decide +kernel) (pa_cons (pv 4) pa_nil)) pe_int (nomark _))
         (pss_one (ps_ret pe_bl))
         pss_nil)
       (pss_one (ps_expr (kk (K := K) (F := fun K => tBM K "list" _ _ _) (P := PE _ _) (pe_bm PySem.F.plainAttrs_list PySem.F.slot_list_extend PySem.F.type_list_extend mt_extend (pv 2) (pa_cons (pe_lst (pa_cons (pe_ix (kk (K := K) (F := rIxT) (P := IxR _) ix_tup) (pv 4) pe_int (fun _ _ => rfl)) (pa_cons (pe_ix (kk (K := K) (F := rIxT) (P := IxR _) ix_tup) (pv 4) pe_int (fun _ _ => rfl)) pa_nil))) pa_nil))))))
       (pss_one (ps_if (PW.pt (pw_or (pt_not (pt_val (pe_cD D_is_whole (hr.less (by decide)) rfl (pa_cons (pv 4) pa_nil)))) (pw_or1 (pt_cmpR op_ne (pv 4) (pv 3) (nomark _)))))
        (pss_one (ps_ret pe_bl))
        (pss_one (ps_set (i := 3) sc_is_tree.nd rfl (Or.inl rfl) (pe_op op_add (pv 3) pe_int)))))))))
    (pss_one (ps_ret (pe_cmpR op_eq (pv 3) (pv 1) (nomark _)))))))), ?_⟩)
  · obtain ⟨v, w, d, m0, p, rfl, _⟩ := h; rfl
  · obtain ⟨v, w, d, m0, p, rfl, hd, hm0, hsz, q1, q2⟩ := h
    try walk_at "go"
    refine ⟨fun e0 => ?_, fun e0 => q2 e0 H (Same.refl _)⟩
    obtain ⟨i, rfl, i1, i2⟩ := isR_inv e0
    obtain ⟨m, rfl⟩ : ∃ m : Nat, i = (m : Int) := ⟨i.toNat, by omega⟩
    have m1 : 1 ≤ m := by omega
    have m40 : m ≤ 40 := by omega
    cases hm0.int_inv
    have q := q1 m rfl m1 m40
    try walk_at "go"
    intro L hL
    generalize eH1 : upd _ L _ = H1
    have SH1 := newS eH1 hL
    have oL := newO eH1
    try walk_at "go"
    refine ⟨ItT K p H v d m L, ⟨_, [(v, d)], 0, _, rfl, SH1, oL, fun t ht => by cases List.mem_singleton.mp ht; exact hd, by show lv d = [] ++ (lv d ++ []); rw [List.nil_append, List.append_nil], rfl, by show nsz d + 0 ≤ nsz d; omega⟩, ?_⟩
    rintro k σ H2 ⟨ts, c, w4, rfl, S2, hL2, hts, hlv, rfl, hle⟩
    try walk_at "go"
    intro Z hZ
    generalize eH3 : upd _ Z _ = H3
    have SH3 := newS eH3 hZ
    have oZ := newO eH3
    have hL3 := SH3 _ _ hL2
    try walk_at "go"
    cases ts with
    | nil =>
      try walk_at "go"
      have e1 : decide (V.int ↑c = V.int ↑m) = isT d m := by
        rw [isT_end (c := c) (by rw [hlv]; exact List.append_nil _)]
        by_cases e : c = m
        · subst e
          rw [decide_eq_true rfl, decide_eq_true rfl]
        · rw [decide_eq_false e, decide_eq_false fun z => e (by injection z with z; omega)]
      show Q (V.bl (decide (V.int ↑c = V.int ↑m))) H3
      rw [e1]
      exact q _ (S2.trans SH3)
    | cons x r =>
      obtain ⟨xv, xd⟩ := x
      have S3 := S2.trans SH3
      have e1 : ((List.map (fun t : V × PyData => t.fst) ((xv, xd) :: r).reverse)) = (r.reverse.map fun t => t.1) ++ [xv] := by rw [List.reverse_cons, List.map_append] <;> rfl
      have e3 : (!((r.reverse.map fun t : V × PyData => t.1) ++ [xv]).isEmpty) = true := by cases (r.reverse.map fun t : V × PyData => t.1) <;> rfl
      have e4 : ((r.reverse.map fun t : V × PyData => t.1) ++ [xv])[((r.reverse.map fun t : V × PyData => t.1) ++ [xv]).length - 1]? = some xv := by rw [List.length_append, List.getElem?_append_right (by show _ ≤ _ + 1 - 1; omega)]; show [xv][_ + 1 - 1 - _]? = _; rw [Nat.add_sub_cancel, Nat.sub_self] <;> rfl
      have e5 : ((r.reverse.map fun t : V × PyData => t.1) ++ [xv]).dropLast = r.reverse.map fun t => t.1 := List.dropLast_concat
      rw [e1] at hL3 ⊢
      have hx : Th K p H xv xd := hts _ List.mem_cons_self
      have hr0 : ∀ t ∈ r, Th K p H t.1 t.2 := fun t ht => hts t (List.mem_cons_of_mem _ ht)
      have hlv2 : lv d = ris c ++ (lv xd ++ (r.map fun t => t.2).flatMap lv) := hlv
      have hle2 : nsz xd + szV r ≤ nsz d := hle
      obtain ⟨N, hN1, hN2⟩ : ∃ N : L2.St → Hp → Prop, (∀ σ' H', N σ' H' → ∃ m', m' < nsz xd + szV r ∧ ItT K p H v d m L m' σ' H') ∧ (∀ σ' H', (∃ m', m' < nsz xd + szV r ∧ ItT K p H v d m L m' σ' H') → N σ' H') := ⟨_, fun _ _ h => h, fun _ _ h => h⟩
      refine ifT e3 ⟨N, hN1, ?_⟩
      refine ⟨_, rfl, .inl ⟨rfl, _, SqL.of hL3⟩, L, _, xv, rfl, rfl, hL3, e4, ?_⟩
      rw [e5]
      generalize eH4 : upd H3 L (HO.lst (r.reverse.map fun t => t.1)) = H4
      have BH4 : But L H3 H4 := eH4 ▸ But.upd
      have oH4 : H4 L = some (HO.lst (r.reverse.map fun t => t.1)) := eH4 ▸ upd_same
      have S4 : Same H H4 := but_same hL S3 BH4
      have hx4 := hx.same S4
      have ty := hx4.ty
      have k1 := kit_tu (K := K) xd
      cases e : isTu xd with
      | false =>
        rw [e] at k1
        rw [lv_leaf e] at hlv2
        cases ew : isWh xd with
        | false =>
          try walk_at "go"
          rw [ew]
          refine ifT rfl (ifT rfl ?_)
          show Q (.bl false) H4
          rw [← isT_no (m := m) hlv2 (.inl ew)]
          exact q _ S4
        | true =>
          obtain ⟨i, rfl⟩ := isWh_inv ew
          have ev := hx.int_inv
          subst ev
          try walk_at "go"
          refine ite2 (fun cw => ?_) (fun cw => ?_)
          · show Q (.bl false) H4
            have ne : i ≠ (c : Int) := fun z => by subst z; rw [decide_eq_true rfl] at cw; cases cw
            rw [← isT_no (m := m) hlv2 (.inr ne)]
            exact q _ S4
          · have ei : i = (c : Int) := Decidable.byContradiction fun z => cw (by rw [decide_eq_false fun y => z (by injection y)] <;> rfl)
            subst ei
            try walk_at "go"
            refine hN2 _ _ ⟨szV r, by show szV r < 1 + szV r; omega, r, c + 1, _, rfl, S4, oH4, hr0, ?_, rfl, by show szV r ≤ _; have : nsz (.int (c : Nat)) = 1 := rfl; omega⟩
            rw [hlv2, ris_succ, List.append_assoc] <;> rfl
      | true =>
        rw [e] at k1
        obtain ⟨ds, rfl⟩ := isTu_inv e
        obtain ⟨a, tr, rfl, rfl, ha, htr⟩ := hx.tup_inv
        have ha4 := S4 _ _ ha
        have lm : (tr.map fun t => t.1).length = tr.length := List.length_map _
        try walk_at "go"
        refine ite2 (fun cw => ?_) (fun cw => ?_)
        · show Q (.bl false) H4
          have ne : tr.length ≠ 2 := fun z => by rw [lm, z] at cw; cases cw
          rw [lv_not (by rw [List.length_map]; exact ne)] at hlv2
          rw [← isT_no (m := m) hlv2 (.inl rfl)]
          exact q _ S4
        · have l2 : tr.length = 2 := Decidable.byContradiction fun z => cw (by rw [lm, decide_eq_false fun y => z (by injection y with y; omega)] <;> rfl)
          obtain ⟨x, y, rfl⟩ : ∃ x y, tr = [x, y] := by
            match tr, l2 with
            | [x, y], _ => exact ⟨x, y, rfl⟩
          have ha5 : H4 a = some (.tup [x.1, y.1]) := ha4
          clear ha4
          have i1 : atI [x.1, y.1] 1 = some y.1 := rfl
          have i0 : atI [x.1, y.1] 0 = some x.1 := rfl
          try walk_at "go"
          intro E hE
          generalize eH5 : upd _ E _ = H5
          have SH5 := newS eH5 hE
          have oE := newO eH5
          have oH5 := SH5 _ _ oH4
          have lr : r.length ≤ szV r := by
            have := nszs_len (r.map fun t => t.2)
            rw [List.length_map] at this
            exact this
          have lr2 : (List.map (fun t : V × PyData => t.1) r.reverse).length = r.length := by rw [List.length_map, List.length_reverse]
          try walk_at "go"
          have hle3 : (1 + (nsz x.2 + (nsz y.2 + 0))) + szV r ≤ nsz d := hle2
          have nx := nsz_pos x.2
          have ny := nsz_pos y.2
          refine ⟨by rw [lr2]; show r.length + 2 ≤ _; exact Nat.le_trans (show r.length + 2 ≤ 10000000 by omega) (by decide), ?_⟩
          generalize eH6 : upd H5 L (HO.lst ((r.reverse.map fun t => t.1) ++ [y.1, x.1])) = H6
          have BH6 : But L H5 H6 := eH6 ▸ But.upd
          have oH6 : H6 L = some (HO.lst ((r.reverse.map fun t => t.1) ++ [y.1, x.1])) := eH6 ▸ upd_same
          refine hN2 _ _ ⟨nsz x.2 + (nsz y.2 + szV r), by show _ < (1 + (nsz x.2 + (nsz y.2 + 0))) + szV r; omega, x :: y :: r, c, _, rfl, but_same hL (S4.trans SH5) BH6, ?_, ?_, ?_, rfl, by show nsz x.2 + (nsz y.2 + szV r) ≤ _; omega⟩
          · rw [oH6, List.reverse_cons, List.reverse_cons, List.append_assoc, List.map_append] <;> rfl
          · intro t ht
            rcases List.mem_cons.mp ht with rfl | ht
            · exact htr _ List.mem_cons_self
            rcases List.mem_cons.mp ht with rfl | ht
            · exact htr _ (List.mem_cons_of_mem _ List.mem_cons_self)
            · exact hr0 t ht
          · rw [hlv2]
            show ris c ++ (lv (.tuple [x.2, y.2]) ++ _) = ris c ++ (lv x.2 ++ (lv y.2 ++ _))
            rw [lv_two, List.append_assoc] <;> rfl
def spWGr (K : PySem.W.Frag) (C : Addr) : Sp := fun vs H Q E => ∃ (U : Addr) (xs : List V) (v : V) (d : PyData) (p : Addr), vs = [.ref U, v] ∧ H U = some (.tup xs) ∧ 1 ≤ xs.length ∧ xs.length ≤ 40 ∧ Th K p H v d ∧ nsz d ≤ 1000000 ∧ (isT d xs.length = true → ∀ H', Same H H' → Q .non H') ∧ (isT d xs.length = false → ∀ H', Same H H' → E (.ref C) none H')
theorem k_want_grouped (D : Df K mg "want_grouped" s_want_grouped ["numbers", "tree"]) (D_is_tree : Dx P w K mg base 5 "is_tree" ["thing", "many"] (spIsT24 K (cAt mg "NoNumber"))) : Dx P w K mg base 15 "want_grouped" ["numbers", "tree"] (spWGr K (cAt mg "NoTree")) := by
  refine D.okX fun f fd F => okGX F sc_want_grouped (fun vs H Q E h => ?_) (fun cdv A outer s H vs Q E hr h => ⟨_, (pss_one (ps_if (pt_not (pt_val (pe_cW D_is_tree (hr.less (by decide)) (takes_of rfl rfl rfl rfl) rfl (pa_cons (pv 1) (pa_cons (pe_callB (lenK (K := K)) (by rfl) B.len_ (by decide +kernel) (pa_cons (pv 0) pa_nil)) pa_nil)))))
     (pss_one (ps_raise rfl (takes_of rfl rfl rfl rfl) (pmk_own PySem.F.excBase_ValueError B.NoTree_.ex B.NoTree_.mg_ B.NoTree_.kp (raises_own B.NoTree_.bs B.NoTree_.tp) rfl)))
     pss_nil)), ?_⟩)
  · obtain ⟨U, xs, v, d, p, rfl, _⟩ := h; rfl
  · obtain ⟨U, xs, v, d, p, rfl, hU, l1, l40, hd, hz, q1, q2⟩ := h
    have hm : Th K p H (.int (xs.length : Nat)) (.int (xs.length : Nat)) := .int _
    have hz2 : nsz d ≤ 10000000 := by omega
    try walk_at "go"
    refine ⟨fun m em m1 m2 H1 S1 => ?_, fun e => ?_⟩
    · obtain rfl : m = xs.length := by have := PyData.int.inj em; omega
      cases e : isT d xs.length with
      | false =>
        try walk_at "go"
        refine ifT rfl ?_
        try walk_at "go"
        exact q2 e _ S1
      | true =>
        try walk_at "go"
        first | exact q1 e _ S1 | exact ifF rfl (q1 e _ S1)
    · exfalso
      rw [isR_mk (show (1 : Int) ≤ (xs.length : Nat) by omega) (show ((xs.length : Nat) : Int) ≤ 40 by omega)] at e
      cases e
/-! SPLIT -/
def spLNum (K : PySem.W.Frag) : Sp := fun vs H Q _ => ∃ (v : V) (d : PyData) (p : Addr) (S : Nat), vs = [v, .int S] ∧ Th K p H v d ∧ Q (.bl (isU S d)) H
theorem k__law_is_number (D : Df K mg "_law_is_number" s__law_is_number ["_law_thing", "_law_many"]) : Dn P w K mg base 1 "_law_is_number" ["_law_thing", "_law_many"] (spLNum K) := by
  refine D.ok fun f fd F => okG0 F sc__law_is_number (fun vs H Q E h => ?_) (fun cdv A outer s H vs Q E hr h => ⟨_, (pss_one (ps_ret (pe_and (pe_callB (kk (K := K) (F := rIsi) (P := CallR _ _) call_isi) (by rfl) B.isinstance_ (by decide +kernel) (pa_cons (pv 0) (pa_cons (pe_bltn (v := .ty "int") (u := .type "int") (by rfl) B.int_ (by decide +kernel) rfl) pa_nil))) (pe_and (pe_not (pe_callB (kk (K := K) (F := rIsi) (P := CallR _ _) call_isi) (by rfl) B.isinstance_ (by decide +kernel) (pa_cons (pv 0) (pa_cons (pe_bltn (v := .ty "bool") (u := .type "bool") (by rfl) B.bool_ (by decide +kernel) rfl) pa_nil)))) (pe_one (pe_chain op_le op_lt pe_int (pv 0) (pv 1))))))), ?_⟩)
  · obtain ⟨v, d, p, S, rfl, _⟩ := h; rfl
  · obtain ⟨v, d, p, S, rfl, hd, q⟩ := h
    have ty := hd.ty
    have k1 := kit_in (K := K) d
    have k2 := kit_bl (K := K) d
    cases e : isWh d with
    | false =>
      rw [isU_no e] at q
      rw [isWh_eq] at e
      generalize isIn d = x at k1 e
      generalize isBl d = y at k2 e
      cases x
      · try walk_at "go"
        first | exact q | exact ifF rfl q
      · cases y
        · cases e
        · try walk_at "go"
          first | exact q | exact ifF rfl q
    | true =>
      obtain ⟨i, rfl⟩ := isWh_inv e
      cases hd.int_inv
      replace q : Q (.bl (decide (0 ≤ i) && decide (i < (S : Int)))) H := q
      try walk_at "go"
      refine ite2 (fun c => ?_) (fun c => ?_)
      · rw [c, Bool.true_and] at q
        try walk_at "go"
        exact q
      · rw [Bool.eq_false_iff.mpr c, Bool.false_and] at q
        try walk_at "go"
        exact q
def spLUs (K : PySem.W.Frag) : Sp := fun vs H Q _ => ∃ (v : V) (d : PyData) (p : Addr) (S : Nat), vs = [v, .int S] ∧ Th K p H v d ∧ nsz d ≤ 1000000 ∧ S ≤ 1000000 ∧ ∀ H', Same H H' → Q (.bl (isUs S d)) H'
theorem k__law_are_numbers (D : Df K mg "_law_are_numbers" s__law_are_numbers ["_law_thing", "_law_many"]) (D__law_is_number : Dn P w K mg base 1 "_law_is_number" ["_law_thing", "_law_many"] (spLNum K)) : Dn P w K mg base 2 "_law_are_numbers" ["_law_thing", "_law_many"] (spLUs K) := by
  refine D.ok fun f fd F => okG0 F sc__law_are_numbers (fun vs H Q E h => ?_) (fun cdv A outer s H vs Q E hr h => ⟨_, (pss_one (ps_ret (pe_and (pe_callB (kk (K := K) (F := rIsi) (P := CallR _ _) call_isi) (by rfl) B.isinstance_ (by decide +kernel) (pa_cons (pv 0) (pa_cons (pe_bltn (v := .ty "tuple") (u := .type "tuple") (by rfl) B.tuple_ (by decide +kernel) rfl) pa_nil))) (pe_one (pe_callB (kk (K := K) (F := rAll) (P := CallR _ _) (cr_all rfl)) (by rfl) B.all_ (by decide +kernel) (pa_cons (pe_lc (own := [("_law_one", 2)]) (g := gName 2) (tt := tYes) rfl sc__law_are_numbers.nd (kk (K := K) (F := fun K => iTup K _) (P := PI _ _ _) (pi_tup (pv 0))) (blkOk_by (own := [("_law_one", 2)]) (N := ["_law_thing", "_law_many", "_law_one"]) (sc := defScope s__law_are_numbers) (by decide +kernel)) (fun _ _ _ _ _ => (pg_name (i := 2) sc__law_are_numbers.nd rfl (Or.inl rfl))) (fun _ _ _ _ _ => pts_nil) (fun _ _ _ _ _ => (pe_cD D__law_is_number (hr.less (by decide)) rfl (pa_cons (pv 2) (pa_cons (pv 1) pa_nil))))) pa_nil)))))), ?_⟩)
  · obtain ⟨v, d, p, S, rfl, _⟩ := h; rfl
  · obtain ⟨v, d, p, S, rfl, hd, hz, hS, q⟩ := h
    have ty := hd.ty
    have k1 := kit_tu (K := K) d
    cases ed : isTu d with
    | false =>
      rw [ed] at k1
      rw [isUs_no ed] at q
      try walk_at "go"
      first | exact q _ (Same.refl _) | exact ifF rfl (q _ (Same.refl _))
    | true =>
      rw [ed] at k1
      obtain ⟨ds, rfl⟩ := isTu_inv ed
      obtain ⟨a, tr, rfl, rfl, ha, htr⟩ := hd.tup_inv
      have lt : tr.length ≤ 1000000 := by
        have h1 := nszs_len (tr.map fun t => t.2)
        have h2 : 1 + nszs (tr.map fun t => t.2) ≤ 1000000 := hz
        rw [len_map2] at h1
        omega
      replace q : ∀ H', Same H H' → Q (.bl ((tr.map fun t => t.2).all (isU S))) H' := q
      try walk_at "go"
      intro D hD
      refine lc_tup (K := K) (a := a) (xs := tr.map fun t => t.1) (fun i H' => Kept (Same H H' ∧ H' D = some (.lst (((tr.take i).map fun t => isU S t.2).map V.bl)))) ⟨same_new hD _, upd_same⟩ (fun i H' _ h => SqT.of (h.1.1 _ _ ha)) ?_ ?_
      · rintro i y H2 hi ⟨S2, hD2⟩
        rw [List.getElem?_map] at hi
        obtain ⟨t, ht, rfl⟩ := Option.map_eq_some_iff.mp hi
        have th2 := (htr t (List.mem_of_getElem? ht)).same S2
        have ln : (((tr.take i).map fun t => isU S t.2).map V.bl).length ≤ 1000000 := by rw [List.length_map, List.length_map, List.length_take]; omega
        have slz : 3000000 ≤ sizeLine := by decide
        try walk_at "go"
        exact ⟨⟨but_same hD S2 But.upd, by rw [upd_same, take_snocB (isU S) ht]⟩⟩
      · rintro H2 ⟨S2, hD2⟩
        try walk_at "go"
        rw [take_all]
        exact q _ S2
def spLTb (K : PySem.W.Frag) : Sp := fun vs H Q _ => ∃ (v : V) (d : PyData) (p : Addr), vs = [v] ∧ Th K p H v d ∧ nsz d ≤ 1000000 ∧ ∀ H', Same H H' → Q (.bl (isTb d)) H'
theorem k__law_is_table (D : Df K mg "_law_is_table" s__law_is_table ["_law_thing"]) (D__law_are_numbers : Dn P w K mg base 2 "_law_are_numbers" ["_law_thing", "_law_many"] (spLUs K)) : Dn P w K mg base 3 "_law_is_table" ["_law_thing"] (spLTb K) := by
  refine D.ok fun f fd F => okG0 F sc__law_is_table (fun vs H Q E h => ?_) (fun cdv A outer s H vs Q E hr h => ⟨_, (pss_cons (ps_if (PW.pt (pw_or (pt_not (pt_val (pe_callB (kk (K := K) (F := rIsi) (P := CallR _ _) call_isi) (by rfl) B.isinstance_ (by decide +kernel) (pa_cons (pv 0) (pa_cons (pe_bltn (v := .ty "tuple") (u := .type "tuple") (by rfl) B.tuple_ (by decide +kernel) rfl) pa_nil))))) (pw_or1 (pt_not (pt_chain op_le op_le pe_int (pe_callB (lenK (K := K)) (by rfl) B.len_ (by decide +kernel) (pa_cons (pv 0) pa_nil)) pe_int)))))
      (pss_one (ps_ret pe_bl))
      pss_nil)
    (pss_one (ps_ret (pe_callB (kk (K := K) (F := rAll) (P := CallR _ _) (cr_all rfl)) (by rfl) B.all_ (by decide +kernel) (pa_cons (pe_lc (own := [("_law_row", 1)]) (g := gName 1) (tt := tYes) rfl sc__law_is_table.nd (kk (K := K) (F := fun K => iTup K _) (P := PI _ _ _) (pi_tup (pv 0))) (blkOk_by (own := [("_law_row", 1)]) (N := ["_law_thing", "_law_row"]) (sc := defScope s__law_is_table) (by decide +kernel)) (fun _ _ _ _ _ => (pg_name (i := 1) sc__law_is_table.nd rfl (Or.inl rfl))) (fun _ _ _ _ _ => pts_nil) (fun _ _ _ _ _ => (pe_and (pe_cD D__law_are_numbers (hr.less (by decide)) rfl (pa_cons (pv 1) (pa_cons (pe_callB (lenK (K := K)) (by rfl) B.len_ (by decide +kernel) (pa_cons (pv 0) pa_nil)) pa_nil))) (pe_one (pe_cmpR op_eq (pe_callB (lenK (K := K)) (by rfl) B.len_ (by decide +kernel) (pa_cons (pv 1) pa_nil)) (pe_callB (lenK (K := K)) (by rfl) B.len_ (by decide +kernel) (pa_cons (pv 0) pa_nil)) (nomark _)))))) pa_nil))))), ?_⟩)
  · obtain ⟨v, d, p, rfl, _⟩ := h; rfl
  · obtain ⟨v, d, p, rfl, hd, hz, q⟩ := h
    have ty := hd.ty
    have k1 := kit_tu (K := K) d
    cases ed : isTu d with
    | false =>
      rw [ed] at k1
      rw [isTb_no ed] at q
      try walk_at "go"
      first | exact q _ (Same.refl _) | exact ifT rfl (q _ (Same.refl _))
    | true =>
      rw [ed] at k1
      obtain ⟨ds, rfl⟩ := isTu_inv ed
      obtain ⟨a, tr, rfl, rfl, ha, htr⟩ := hd.tup_inv
      have lt : tr.length ≤ 1000000 := by
        have h1 := nszs_len (tr.map fun t => t.2)
        have h2 : 1 + nszs (tr.map fun t => t.2) ≤ 1000000 := hz
        rw [len_map2] at h1
        omega
      have hzm : ∀ t ∈ tr, nsz t.2 ≤ 1000000 := fun t ht => by
        have h3 := (dep_mem (List.mem_map_of_mem (f := fun t : V × PyData => t.2) ht)).2
        have h4 : 1 + nszs (tr.map fun t => t.2) ≤ 1000000 := hz
        omega
      have eb : isTb (.tuple (tr.map fun t => t.2)) = (decide (1 ≤ tr.length) && (decide (tr.length ≤ 60) && (tr.map fun t => t.2).all (isBT tr.length))) := by
        show (decide (1 ≤ (tr.map fun t => t.2).length) && (decide ((tr.map fun t => t.2).length ≤ 60) && _)) = _
        rw [len_map2] <;> rfl
      rw [eb] at q
      by_cases c1' : 1 ≤ tr.length
      · have e1 : decide ((1 : Int) ≤ ((tr.map fun t => t.1).length : Nat)) = true := decide_eq_true (by rw [len_map1]; omega)
        rw [decide_eq_true c1', Bool.true_and] at q
        try walk_at "go"
        refine ifT e1 ?_
        try walk_at "go"
        by_cases c2' : tr.length ≤ 60
        · have e2 : decide ((((tr.map fun t => t.1).length : Nat) : Int) ≤ 60) = true := decide_eq_true (by rw [len_map1]; omega)
          rw [decide_eq_true c2', Bool.true_and] at q
          refine ifF (by rw [e2] <;> rfl) ?_
          try walk_at "go"
          intro D hD
          refine lc_tup (K := K) (a := a) (xs := tr.map fun t => t.1) (fun i H' => Kept (Same H H' ∧ H' D = some (.lst (((tr.take i).map fun t => isBT tr.length t.2).map V.bl)))) ⟨same_new hD _, upd_same⟩ (fun i H' _ h => SqT.of (h.1.1 _ _ ha)) ?_ ?_
          · rintro i y H2 hi ⟨S2, hD2⟩
            rw [List.getElem?_map] at hi
            obtain ⟨t, ht, rfl⟩ := Option.map_eq_some_iff.mp hi
            have th2 := (htr t (List.mem_of_getElem? ht)).same S2
            have ln : (((tr.take i).map fun t => isBT tr.length t.2).map V.bl).length ≤ 1000000 := by rw [List.length_map, List.length_map, List.length_take]; omega
            have slz : 3000000 ≤ sizeLine := by decide
            have hzt := hzm t (List.mem_of_getElem? ht)
            have ha2 := S2 _ _ ha
            have kt := kit_tu (K := K) t.2
            try walk_at "go"
            rw [len_map1]
            try walk_at "go"
            intro H3 S3
            have hD3 := S3 _ _ hD2
            have e0 := isBT_us (m := tr.length) (d := t.2)
            cases e1 : isUs tr.length t.2 with
            | false =>
              rw [e1, Bool.false_and] at e0
              try walk_at "go"
              exact ⟨⟨but_same hD (S2.trans S3) But.upd, by rw [upd_same, ← e0, take_snocB (isBT tr.length) ht]⟩⟩
            | true =>
              rw [e1, Bool.true_and] at e0
              obtain ⟨v1, d1⟩ := t
              obtain ⟨b1, xs, b2, b3, b4, b5⟩ := us_of th2 e1
              replace b2 : v1 = .ref b1 := b2
              subst b2
              have b6 := S3 _ _ b3
              have ha3 := S3 _ _ ha2
              have e2 : decide (V.int (((iN xs).map V.int).length : Nat) = V.int ((tr.map fun t => t.1).length : Nat)) = isBT tr.length d1 := by
                rw [show isBT tr.length d1 = _ from e0, iN_len, len_map1, show tlen d1 = xs.length from b5.symm]
                by_cases c : xs.length = tr.length
                · rw [decide_eq_true (by rw [c]), decide_eq_true c]
                · rw [decide_eq_false fun z => c (by have := V.int.inj z; omega), decide_eq_false c]
              try walk_at "go"
              have e9 := take_snocB (isBT tr.length) ht
              rw [show isBT tr.length (V.ref b1, d1).2 = _ from e2.symm] at e9
              exact ⟨⟨but_same hD (S2.trans S3) But.upd, by rw [upd_same]; exact congrArg (fun z => some (HO.lst z)) e9⟩⟩
          · rintro H2 ⟨S2, hD2⟩
            try walk_at "go"
            rw [take_all]
            exact q _ S2
        · have e2 : decide ((((tr.map fun t => t.1).length : Nat) : Int) ≤ 60) = false := decide_eq_false (by rw [len_map1]; omega)
          rw [decide_eq_false c2', Bool.false_and] at q
          refine ifT (by rw [e2] <;> rfl) ?_
          try walk_at "go"
          exact q _ (Same.refl _)
      · have e1 : decide ((1 : Int) ≤ ((tr.map fun t => t.1).length : Nat)) = false := decide_eq_false (by rw [len_map1]; omega)
        rw [decide_eq_false c1', Bool.false_and] at q
        try walk_at "go"
        refine ifF e1 ?_
        try walk_at "go"
        first | exact q _ (Same.refl _) | exact ifT rfl (q _ (Same.refl _))
def spLFa (K : PySem.W.Frag) : Sp := fun vs H Q _ => ∃ (v : V) (d : PyData) (p : Addr) (most : Nat), vs = [v, .int most] ∧ Th K p H v d ∧ nsz d ≤ 1000000 ∧ most ≤ 60 ∧ ∀ H', Same H H' → Q (.bl (isFa most d)) H'
theorem k__law_are_deeds (D : Df K mg "_law_are_deeds" s__law_are_deeds ["_law_thing", "_law_most"]) (D__law_are_numbers : Dn P w K mg base 2 "_law_are_numbers" ["_law_thing", "_law_many"] (spLUs K)) : Dn P w K mg base 4 "_law_are_deeds" ["_law_thing", "_law_most"] (spLFa K) := by
  refine D.ok fun f fd F => okG0 F sc__law_are_deeds (fun vs H Q E h => ?_) (fun cdv A outer s H vs Q E hr h => ⟨_, (pss_cons (ps_if (PW.pt (pw_or (pt_not (pt_val (pe_callB (kk (K := K) (F := rIsi) (P := CallR _ _) call_isi) (by rfl) B.isinstance_ (by decide +kernel) (pa_cons (pv 0) (pa_cons (pe_bltn (v := .ty "tuple") (u := .type "tuple") (by rfl) B.tuple_ (by decide +kernel) rfl) pa_nil))))) (pw_or (pt_not (pt_chain op_le op_le pe_int (pe_callB (lenK (K := K)) (by rfl) B.len_ (by decide +kernel) (pa_cons (pv 0) pa_nil)) (pv 1))) (pw_or1 (pt_not (pt_val (pe_callB (kk (K := K) (F := rIsi) (P := CallR _ _) call_isi) (by rfl) B.isinstance_ (by decide +kernel) (pa_cons (pe_ix (kk (K := K) (F := rIxT) (P := IxR _) ix_tup) (pv 0) pe_int (fun _ _ => rfl)) (pa_cons (pe_bltn (v := .ty "tuple") (u := .type "tuple") (by rfl) B.tuple_ (by decide +kernel) rfl) pa_nil)))))))))
      (pss_one (ps_ret pe_bl))
      pss_nil)
    (pss_cons (ps_set (i := 2) sc__law_are_deeds.nd rfl (Or.inr rfl) (pe_callB (lenK (K := K)) (by rfl) B.len_ (by decide +kernel) (pa_cons (pe_ix (kk (K := K) (F := rIxT) (P := IxR _) ix_tup) (pv 0) pe_int (fun _ _ => rfl)) pa_nil)))
    (pss_cons (ps_if (PW.pt (pw_or (pt_not (pt_chain op_le op_le pe_int (pv 2) pe_int)) (pw_or1 (pt_not (pt_val (pe_callB (kk (K := K) (F := rAll) (P := CallR _ _) (cr_all rfl)) (by rfl) B.all_ (by decide +kernel) (pa_cons (pe_lc (own := [("_law_one", 3)]) (g := gName 3) (tt := tYes) rfl sc__law_are_deeds.nd (kk (K := K) (F := fun K => iTup K _) (P := PI _ _ _) (pi_tup (pv 0))) (blkOk_by (own := [("_law_one", 3)]) (N := ["_law_thing", "_law_most", "_law_many", "_law_one"]) (sc := defScope s__law_are_deeds) (by decide +kernel)) (fun _ _ _ _ _ => (pg_name (i := 3) sc__law_are_deeds.nd rfl (Or.inl rfl))) (fun _ _ _ _ _ => pts_nil) (fun _ _ _ _ _ => (pe_cD D__law_are_numbers (hr.less (by decide)) rfl (pa_cons (pv 3) (pa_cons (pv 2) pa_nil))))) pa_nil)))))))
      (pss_one (ps_ret pe_bl))
      pss_nil)
    (pss_one (ps_ret (pe_cmpR (kk (K := K) (F := rEqD) (P := OpR _ _) (op_eqD hr.units)) (pe_lc (own := [("_law_one", 3)]) (g := gName 3) (tt := tYes) rfl sc__law_are_deeds.nd (kk (K := K) (F := fun K => iTup K _) (P := PI _ _ _) (pi_tup (pv 0))) (blkOk_by (own := [("_law_one", 3)]) (N := ["_law_thing", "_law_most", "_law_many", "_law_one"]) (sc := defScope s__law_are_deeds) (by decide +kernel)) (fun _ _ _ _ _ => (pg_name (i := 3) sc__law_are_deeds.nd rfl (Or.inl rfl))) (fun _ _ _ _ _ => pts_nil) (fun _ _ _ _ _ => (pe_callB (lenK (K := K)) (by rfl) B.len_ (by decide +kernel) (pa_cons (pv 3) pa_nil)))) (pe_op op_rep (pe_lst (pa_cons (pv 2) pa_nil)) (pe_callB (lenK (K := K)) (by rfl) B.len_ (by decide +kernel) (pa_cons (pv 0) pa_nil))) (nomark _))))))), ?_⟩)
  · obtain ⟨v, d, p, most, rfl, _⟩ := h; rfl
  · obtain ⟨v, d, p, most, rfl, hd, hz, hm, q⟩ := h
    have ty := hd.ty
    have k1 := kit_tu (K := K) d
    cases ed : isTu d with
    | false =>
      rw [ed] at k1
      rw [isFa_no ed] at q
      try walk_at "go"
      first | exact q _ (Same.refl _) | exact ifT rfl (q _ (Same.refl _))
    | true =>
      rw [ed] at k1
      obtain ⟨ds, rfl⟩ := isTu_inv ed
      obtain ⟨a, tr, rfl, rfl, ha, htr⟩ := hd.tup_inv
      have lt : tr.length ≤ 1000000 := by
        have h1 := nszs_len (tr.map fun t => t.2)
        have h2 : 1 + nszs (tr.map fun t => t.2) ≤ 1000000 := hz
        rw [len_map2] at h1
        omega
      have hzm : ∀ t ∈ tr, nsz t.2 ≤ 1000000 := fun t ht => by
        have h3 := (dep_mem (List.mem_map_of_mem (f := fun t : V × PyData => t.2) ht)).2
        have h4 : 1 + nszs (tr.map fun t => t.2) ≤ 1000000 := hz
        omega
      have eb : isFa most (.tuple (tr.map fun t => t.2)) = (decide (1 ≤ tr.length) && (decide (tr.length ≤ most) && (isTu (hdD (tr.map fun t => t.2)) && (decide (1 ≤ tlen (hdD (tr.map fun t => t.2))) && (decide (tlen (hdD (tr.map fun t => t.2)) ≤ 5) && (tr.map fun t => t.2).all (isBT (tlen (hdD (tr.map fun t => t.2))))))))) := by
        show (decide (1 ≤ (tr.map fun t => t.2).length) && (decide ((tr.map fun t => t.2).length ≤ most) && _)) = _
        rw [len_map2] <;> rfl
      rw [eb] at q
      by_cases c1' : 1 ≤ tr.length
      · have e1 : decide ((1 : Int) ≤ ((tr.map fun t => t.1).length : Nat)) = true := decide_eq_true (by rw [len_map1]; omega)
        rw [decide_eq_true c1', Bool.true_and] at q
        obtain ⟨t0, h0⟩ : ∃ t0, tr[0]? = some t0 := ⟨_, List.getElem?_eq_getElem (by omega)⟩
        have hm0 := List.mem_of_getElem? h0
        have a0 : atI (tr.map fun t => t.1) 0 = some t0.1 := at_of (j := 0) rfl (by rw [List.getElem?_map, h0] <;> rfl)
        have hd0 : hdD (tr.map fun t => t.2) = t0.2 := by
          cases tr with
          | nil => cases h0
          | cons x r => cases h0; rfl
        rw [hd0] at q
        have ty0 := (htr t0 hm0).ty
        have k0 := kit_tu (K := K) t0.2
        try walk_at "go"
        refine ifT e1 ?_
        try walk_at "go"
        by_cases c2' : tr.length ≤ most
        · have e2 : decide ((((tr.map fun t => t.1).length : Nat) : Int) ≤ (most : Nat)) = true := decide_eq_true (by rw [len_map1]; omega)
          rw [decide_eq_true c2', Bool.true_and] at q
          refine ifF (by rw [e2] <;> rfl) ?_
          try walk_at "go"
          cases ed0 : isTu t0.2 with
          | false =>
            rw [ed0] at k0 q
            try walk_at "go"
            refine ifT rfl ?_
            try walk_at "go"
            exact q _ (Same.refl _)
          | true =>
            rw [ed0] at k0 q
            rw [Bool.true_and] at q
            obtain ⟨v0, d0⟩ := t0
            obtain ⟨ds0, rfl⟩ := isTu_inv (show isTu d0 = true from ed0)
            obtain ⟨b0, tr0, rfl, rfl, hb0, htr0⟩ := (show Th K p H v0 (.tuple ds0) from htr _ hm0).tup_inv
            have tl0 : tlen (V.ref b0, PyData.tuple (tr0.map fun t => t.2)).2 = tr0.length := by
              show (tr0.map fun t => t.2).length = _
              exact len_map2
            rw [tl0] at q
            have l0 : tr0.length ≤ 1000000 := by
              have h1 := nszs_len (tr0.map fun t => t.2)
              have h2 : 1 + nszs (tr0.map fun t => t.2) ≤ 1000000 := hzm _ hm0
              rw [len_map2] at h1
              omega
            have l1 : ((tr0.map fun t => t.1).length : Int) = (tr0.length : Nat) := by rw [len_map1]
            try walk_at "go"
            by_cases c3 : 1 ≤ tr0.length
            · have e3 : decide ((1 : Int) ≤ ((tr0.map fun t => t.1).length : Nat)) = true := decide_eq_true (by rw [len_map1]; omega)
              rw [decide_eq_true c3, Bool.true_and] at q
              refine ifT e3 ?_
              try walk_at "go"
              by_cases c4 : tr0.length ≤ 5
              · have e4 : decide ((((tr0.map fun t => t.1).length : Nat) : Int) ≤ 5) = true := decide_eq_true (by rw [len_map1]; omega)
                rw [decide_eq_true c4, Bool.true_and] at q
                refine ifF (by rw [e4] <;> rfl) ?_
                rw [← len_map1] at q
                generalize eS : (tr0.map fun t : V × PyData => t.1).length = S at q ⊢
                have hS : S ≤ 1000000 := by rw [← eS, len_map1]; omega
                try walk_at "go"
                intro D hD
                refine lc_tup (K := K) (a := a) (xs := tr.map fun t => t.1) (fun i H' => Kept (Same H H' ∧ H' D = some (.lst (((tr.take i).map fun t => isUs S t.2).map V.bl)))) ⟨same_new hD _, upd_same⟩ (fun i H' _ h => SqT.of (h.1.1 _ _ ha)) ?_ ?_
                · rintro i y H2 hi ⟨S2, hD2⟩
                  rw [List.getElem?_map] at hi
                  obtain ⟨t, ht, rfl⟩ := Option.map_eq_some_iff.mp hi
                  have th2 := (htr t (List.mem_of_getElem? ht)).same S2
                  have ln : (((tr.take i).map fun t => isUs S t.2).map V.bl).length ≤ 1000000 := by rw [List.length_map, List.length_map, List.length_take]; omega
                  have slz : 3000000 ≤ sizeLine := by decide
                  have hzt := hzm t (List.mem_of_getElem? ht)
                  try walk_at "go"
                  intro H3 S3
                  have hD3 := S3 _ _ hD2
                  try walk_at "go"
                  exact ⟨⟨but_same hD (S2.trans S3) But.upd, by rw [upd_same, take_snocB (isUs S) ht]⟩⟩
                · rintro H2 ⟨S2, hD2⟩
                  try walk_at "go"
                  rw [take_all]
                  cases ea : (tr.map fun t => t.2).all (isUs S) with
                  | false =>
                    have e8 : (tr.map fun t => t.2).all (isBT S) = false := by
                      rw [Bool.eq_false_iff]
                      intro z
                      rw [Bool.eq_false_iff] at ea
                      refine ea ?_
                      rw [List.all_eq_true] at z ⊢
                      intro x hx
                      have := z x hx
                      rw [isBT_us, Bool.and_eq_true] at this
                      exact this.1
                    rw [e8] at q
                    refine ifT rfl ?_
                    try walk_at "go"
                    exact q _ S2
                  | true =>
                    refine ifF rfl ?_
                    have hus : ∀ t ∈ tr, isUs S t.2 = true := fun t ht => List.all_eq_true.mp ea _ (List.mem_map_of_mem ht)
                    have ha2 := S2 _ _ ha
                    try walk_at "go"
                    intro D3 hD3
                    refine lc_tup (K := K) (a := a) (xs := tr.map fun t => t.1) (fun i H' => Kept (Same H2 H' ∧ H' D3 = some (.lst (((tr.take i).map fun t => (tlen t.2 : Int)).map V.int)))) ⟨same_new hD3 _, upd_same⟩ (fun i H' _ h => SqT.of (h.1.1 _ _ ha2)) ?_ ?_
                    · rintro i y H4 hi ⟨S4, hD4⟩
                      rw [List.getElem?_map] at hi
                      obtain ⟨t, ht, rfl⟩ := Option.map_eq_some_iff.mp hi
                      have hm := List.mem_of_getElem? ht
                      have th4 := ((htr t hm).same S2).same S4
                      have ln : (((tr.take i).map fun t => (tlen t.2 : Int)).map V.int).length ≤ 1000000 := by rw [List.length_map, List.length_map, List.length_take]; omega
                      have slz : 3000000 ≤ sizeLine := by decide
                      obtain ⟨v1, d1⟩ := t
                      obtain ⟨b1, xs, b2, b3, b4, b5⟩ := us_of th4 (hus _ hm)
                      replace b2 : v1 = .ref b1 := b2
                      subst b2
                      try walk_at "go"
                      refine ⟨⟨but_same hD3 S4 But.upd, ?_⟩⟩
                      rw [upd_same, List.take_succ, ht, List.map_append, List.map_append]
                      show _ = some (HO.lst (_ ++ [V.int (tlen d1 : Nat)]))
                      rw [iN_len, b5]
                    · rintro H4 ⟨S4, hD4⟩
                      rw [len_map1, List.take_length] at hD4
                      have ha4 := S4 _ _ ha2
                      have lt1 : (tr.map fun t => t.1).length = tr.length := len_map1
                      try walk_at "go"
                      intro M hM
                      generalize eH5 : upd _ M _ = H5
                      have SH5 := newS eH5 hM
                      have oM := newO eH5
                      have ha5 := SH5 _ _ ha4
                      have hD5 := SH5 _ _ hD4
                      try walk_at "go"
                      intro R hR
                      generalize eH6 : upd _ R _ = H6
                      have SH6 := newS eH6 hR
                      have oR := newO eH6
                      rw [lt1, Int.toNat_natCast, rep_flatI] at oR
                      have hD6 := SH6 _ _ hD5
                      try walk_at "go"
                      show Q (.bl (PyData.eqvAll ((tr.map fun t => (tlen t.2 : Int)).map PyData.int) ((List.replicate tr.length (S : Int)).map PyData.int))) H6
                      rw [PySem.W.ked_eqvAll, lens_eq tr hus]
                      exact q _ (S2.trans (S4.trans (SH5.trans SH6)))
              · have e4 : decide ((((tr0.map fun t => t.1).length : Nat) : Int) ≤ 5) = false := decide_eq_false (by rw [len_map1]; omega)
                rw [decide_eq_false c4, Bool.false_and] at q
                refine ifT (by rw [e4] <;> rfl) ?_
                try walk_at "go"
                exact q _ (Same.refl _)
            · have e3 : decide ((1 : Int) ≤ ((tr0.map fun t => t.1).length : Nat)) = false := decide_eq_false (by rw [len_map1]; omega)
              rw [decide_eq_false c3, Bool.false_and] at q
              refine ifF e3 ?_
              try walk_at "go"
              first | exact q _ (Same.refl _) | (refine ifT rfl ?_)
              try walk_at "go"
              first | done | exact q _ (Same.refl _)
        · have e2 : decide ((((tr.map fun t => t.1).length : Nat) : Int) ≤ (most : Nat)) = false := decide_eq_false (by rw [len_map1]; omega)
          rw [decide_eq_false c2', Bool.false_and] at q
          refine ifT (by rw [e2] <;> rfl) ?_
          try walk_at "go"
          exact q _ (Same.refl _)
      · have e1 : decide ((1 : Int) ≤ ((tr.map fun t => t.1).length : Nat)) = false := decide_eq_false (by rw [len_map1]; omega)
        rw [decide_eq_false c1', Bool.false_and] at q
        try walk_at "go"
        refine ifF e1 ?_
        try walk_at "go"
        first | exact q _ (Same.refl _) | exact ifT rfl (q _ (Same.refl _))
def Tr.ex (x y : Nat) : Tr → Tr
  | .leaf n => .leaf (if n = x then y else if n = y then x else n)
  | .node l r => .node (l.ex x y) (r.ex x y)
omit B in
theorem Tr.ex_cnt (x y : Nat) : ∀ t : Tr, (t.ex x y).cnt = t.cnt
  | .leaf _ => rfl
  | .node l r => by show (l.ex x y).cnt + (r.ex x y).cnt = l.cnt + r.cnt; rw [l.ex_cnt, r.ex_cnt]
omit B in
theorem Tr.ex_h (x y : Nat) : ∀ t : Tr, (t.ex x y).h = t.h
  | .leaf _ => rfl
  | .node l r => by show max (l.ex x y).h (r.ex x y).h + 1 = max l.h r.h + 1; rw [l.ex_h, r.ex_h]
omit B in
theorem Tr.ex_big {x y b : Nat} (hx : x ≤ b) (hy : y ≤ b) : ∀ t : Tr, t.big ≤ b → (t.ex x y).big ≤ b
  | .leaf n, h => by
    have h : n ≤ b := h
    show (if n = x then y else if n = y then x else n) ≤ b
    split
    · exact hy
    · split
      · exact hx
      · exact h
  | .node l r, h => by
    have h : max l.big r.big ≤ b := h
    have h1 := Tr.ex_big hx hy l (by omega)
    have h2 := Tr.ex_big hx hy r (by omega)
    show max (l.ex x y).big (r.ex x y).big ≤ b
    omega
def inW (w n : Nat) : Bool := match w with
  | 0 => decide (n = 0)
  | 1 => decide (n = 1)
  | _ => decide (n = 0) || decide (n = 1)
def rowW (w : Nat) : List V := match w with
  | 0 => [.int 0]
  | 1 => [.int 1]
  | _ => [.int 0, .int 1]
omit B in
theorem in_w {w m : Nat} : inV (.int (m : Int)) (rowW w) = inW w m := by
  match w with
  | 0 =>
    show ((0 : Int) == (m : Int) || false) = decide (m = 0)
    rw [Bool.or_false, Bool.eq_iff_iff, beq_iff_eq, decide_eq_true_iff]
    omega
  | 1 =>
    show ((1 : Int) == (m : Int) || false) = decide (m = 1)
    rw [Bool.or_false, Bool.eq_iff_iff, beq_iff_eq, decide_eq_true_iff]
    omega
  | n + 2 =>
    show ((0 : Int) == (m : Int) || ((1 : Int) == (m : Int) || false)) = (decide (m = 0) || decide (m = 1))
    rw [Bool.or_false, Bool.eq_iff_iff, Bool.or_eq_true, Bool.or_eq_true, beq_iff_eq, beq_iff_eq, decide_eq_true_iff, decide_eq_true_iff]
    omega
omit B in
theorem rg_natL {m : Nat} : rgV 0 (m : Int) = ((List.range m).map fun i : Nat => (i : Int)).map V.int := by
  unfold rgV
  rw [List.map_map, Int.sub_zero, Int.toNat_natCast]
  refine List.map_congr_left fun i _ => ?_
  show V.int (0 + (i : Int)) = V.int (i : Int)
  rw [Int.zero_add]
omit B in
theorem eqv1 {m : Nat} : (PyData.int (m : Int)).eqv (PyData.int 1) = decide (m = 1) := by
  show ((m : Int) == 1) = _
  rw [Bool.eq_iff_iff, beq_iff_eq, decide_eq_true_iff]
  omega
def Tr.bt (w : Nat) : Tr → PyData
  | .leaf n => if inW w n then .bool (decide (n = 1)) else .int n
  | .node l r => .tuple [l.bt w, r.bt w]
def TgAt (f : Nat → V) (H : Hp) : V → Tr → Prop
  | v, .leaf n => v = f n
  | v, .node l r => ∃ a x y, v = .ref a ∧ H a = some (.tup [x, y]) ∧ TgAt f H x l ∧ TgAt f H y r
omit B in
theorem TgAt.same {f : Nat → V} {H H' : Hp} (e : Same H H') : ∀ {t : Tr} {v : V}, TgAt f H v t → TgAt f H' v t
  | .leaf _, _, h => h
  | .node l r, _, ⟨a, x, y, h1, h2, h3, h4⟩ => ⟨a, x, y, h1, e _ _ h2, TgAt.same e h3, TgAt.same e h4⟩
omit B in
theorem TgAt.but {f : Nat → V} {p : Addr} {ys : List V} {H H' : Hp} (e : But p H H') (hp : H p = some (.lst ys)) : ∀ {t : Tr} {v : V}, TgAt f H v t → TgAt f H' v t
  | .leaf _, _, h => h
  | .node l r, _, ⟨a, x, y, h1, h2, h3, h4⟩ => ⟨a, x, y, h1, e _ _ (ne_of h2 hp (by intro z; cases z)) h2, TgAt.but e hp h3, TgAt.but e hp h4⟩
def fB (w n : Nat) : V := if inW w n then .bl (decide (n = 1)) else .int n
omit B in
theorem TgAt.th {K : PySem.W.Frag} {p : Addr} {H : Hp} {w : Nat} : ∀ {t : Tr} {v : V}, TgAt (fB w) H v t → Th K p H v (t.bt w)
  | .leaf n, _, h => by
    cases (show _ = fB w n from h)
    show Th K p H (if inW w n then .bl (decide (n = 1)) else .int n) (if inW w n then .bool (decide (n = 1)) else .int n)
    cases inW w n with
    | true => exact .bl _
    | false => exact .int _
  | .node l r, _, ⟨a, x, y, h1, h2, h3, h4⟩ => by
    cases h1
    refine Th.tup (tr := [(x, l.bt w), (y, r.bt w)]) h2 fun t ht => ?_
    simp only [List.mem_cons, List.not_mem_nil, or_false] at ht
    rcases ht with rfl | rfl
    · exact h3.th
    · exact h4.th
omit B in
theorem Tr.bt_sz (w : Nat) : ∀ t : Tr, (t.bt w).depth + 1 ≤ t.h ∧ nsz (t.bt w) ≤ 2 * t.cnt - 1
  | .leaf n => by
    show (if inW w n then PyData.bool (decide (n = 1)) else .int n).depth + 1 ≤ 1 ∧ nsz (if inW w n then PyData.bool (decide (n = 1)) else .int n) ≤ 1
    split
    · exact ⟨Nat.le_refl _, Nat.le_refl _⟩
    · exact ⟨Nat.le_refl _, Nat.le_refl _⟩
  | .node l r => by
    obtain ⟨h1, h2⟩ := l.bt_sz w
    obtain ⟨h3, h4⟩ := r.bt_sz w
    have := l.cnt_pos
    have := r.cnt_pos
    refine ⟨?_, ?_⟩
    · show max (l.bt w).depth (max (r.bt w).depth 0) + 1 + 1 ≤ max l.h r.h + 1
      omega
    · show 1 + (nsz (l.bt w) + (nsz (r.bt w) + 0)) ≤ 2 * (l.cnt + r.cnt) - 1
      omega
omit B in
theorem all_wh {ds : List PyData} (h : ds.all isWh = true) : ∃ is : List Int, ds = is.map PyData.int ∧ ds.map wv = is := by
  induction ds with
  | nil => exact ⟨[], rfl, rfl⟩
  | cons d r ih =>
    rw [List.all_cons, Bool.and_eq_true] at h
    obtain ⟨i, rfl⟩ := isWh_inv h.1
    obtain ⟨is, rfl, e⟩ := ih h.2
    exact ⟨i :: is, rfl, congrArg (i :: ·) e⟩
/-! SPLIT -/
def spLeaves6 (K : PySem.W.Frag) (n : Nat) : Sp := fun vs H Q _ => ∃ (v : V) (d : PyData) (p : Addr), vs = [v] ∧ Th K p H v d ∧ d.depth + 1 ≤ n ∧ nsz d ≤ 1000000 ∧ ∀ (L : Addr) (tr : List (V × PyData)) H', Same H H' → H' L = some (.lst (tr.map fun t => t.1)) → (∀ t ∈ tr, Th K p H' t.1 t.2) → (tr.map fun t => cl t.2) = lv d → Q (.ref L) H'
theorem _law_leaves_z (vs : List V) (H : Hp) (Q : VK) (E : XK) : ¬ spLeaves6 K 0 vs H Q E := by
  rintro ⟨v, d, p, _, _, h, _⟩
  omega
theorem k__law_leaves_rec (D : Df K mg "_law_leaves" s__law_leaves ["_law_thing"]) : ∀ n : Nat, Dn P w K mg base (2 + n) "_law_leaves" ["_law_thing"] ((spLeaves6 K) n) := by
  intro n
  induction n with
  | zero => exact D.ok fun f fd F => ⟨fun vs H Q E h => (_law_leaves_z B vs H Q E h).elim, fun _ _ _ _ h => (_law_leaves_z B _ _ _ _ h).elim⟩
  | succ n D__law_leaves =>
    refine D.ok fun f fd F => okG0 (k := 2 + n) F sc__law_leaves (fun vs H Q E h => ?_) (fun cdv A outer s H vs Q E hr h => ⟨_, (pss_cons (ps_if (PW.pt (pw_and (pt_val (pe_callB (kk (K := K) (F := rIsi) (P := CallR _ _) call_isi) (by rfl) B.isinstance_ (by decide +kernel) (pa_cons (pv 0) (pa_cons (pe_bltn (v := .ty "tuple") (u := .type "tuple") (by rfl) B.tuple_ (by decide +kernel) rfl) pa_nil)))) (pw_and1 (pt_cmpR op_eq (pe_callB (lenK (K := K)) (by rfl) B.len_ (by decide +kernel) (pa_cons (pv 0) pa_nil)) pe_int (nomark _)))))
      (pss_one (ps_ret (pe_op op_cat (pe_cD D__law_leaves (hr.less (by omega)) rfl (pa_cons (pe_ix (kk (K := K) (F := rIxT) (P := IxR _) ix_tup) (pv 0) pe_int (fun _ _ => rfl)) pa_nil)) (pe_cD D__law_leaves (hr.less (by omega)) rfl (pa_cons (pe_ix (kk (K := K) (F := rIxT) (P := IxR _) ix_tup) (pv 0) pe_int (fun _ _ => rfl)) pa_nil)))))
      pss_nil)
    (pss_one (ps_ret (pe_lst (pa_cons (pv 0) pa_nil))))), ?_⟩)
    · obtain ⟨v, d, p, rfl, _⟩ := h; rfl
    · obtain ⟨v, d, p, rfl, hd, hn, hz, q⟩ := h
      have ty := hd.ty
      have k1 := kit_tu (K := K) d
      cases ed : isTu d with
      | false =>
        rw [ed] at k1
        try walk_at "go"
        intro L hL
        generalize eH1 : upd _ L _ = H1
        have SH1 := newS eH1 hL
        have oL := newO eH1
        refine q L [(v, d)] H1 SH1 oL (fun t ht => ?_) ?_
        · cases List.mem_singleton.mp ht
          exact hd.same SH1
        · show [cl d] = lv d
          rw [lv_leaf ed, show cl d = d by unfold cl; rw [ed] <;> rfl]
      | true =>
        rw [ed] at k1
        obtain ⟨ds, rfl⟩ := isTu_inv ed
        obtain ⟨a, tr, rfl, rfl, ha, htr⟩ := hd.tup_inv
        have lm : (tr.map fun t => t.1).length = tr.length := List.length_map _
        try walk_at "go"
        refine ite2 (fun cw => ?_) (fun cw => ?_)
        · have l2 : tr.length = 2 := by have z := of_decide_eq_true cw; have := V.int.inj z; omega
          obtain ⟨x, y, rfl⟩ : ∃ x y, tr = [x, y] := by
            match tr, l2 with
            | [x, y], _ => exact ⟨x, y, rfl⟩
          have ha5 : H a = some (.tup [x.1, y.1]) := ha
          clear ha
          have i1 : atI [x.1, y.1] 1 = some y.1 := rfl
          have i0 : atI [x.1, y.1] 0 = some x.1 := rfl
          have hn' : max x.2.depth (max y.2.depth 0) + 1 + 1 ≤ n + 1 := hn
          have hz' : 1 + (nsz x.2 + (nsz y.2 + 0)) ≤ 1000000 := hz
          have hx := htr x List.mem_cons_self
          have hy := htr y (List.mem_cons_of_mem _ List.mem_cons_self)
          try walk_at "go"
          intro L1 t1 H1 S1 hL1 th1 lv1
          have hy1 := hy.same S1
          have a1 := S1 _ _ ha5
          try walk_at "go"
          intro L2 t2 H2 S2 hL2 th2 lv2
          have hL12 := S2 _ _ hL1
          have lz1 := lv_nsz x.2
          have lz2 := lv_nsz y.2
          rw [← lv1, List.length_map] at lz1
          rw [← lv2, List.length_map] at lz2
          have ll1 : (t1.map fun t => t.1).length = t1.length := List.length_map _
          have ll2 : (t2.map fun t => t.1).length = t2.length := List.length_map _
          have slz : 3000000 ≤ sizeLine := by decide
          try walk_at "go"
          intro L3 hL3
          generalize eH3 : upd _ L3 _ = H3
          have SH3 := newS eH3 hL3
          have oL3 := newO eH3
          refine q L3 (t1 ++ t2) H3 (S1.trans (S2.trans SH3)) (by rw [oL3, List.map_append]) (fun t ht => ?_) (by rw [List.map_append, lv1, lv2] <;> rfl)
          rcases List.mem_append.mp ht with ht | ht
          · exact (th1 t ht).same (S2.trans SH3)
          · exact (th2 t ht).same SH3
        · have ne : tr.length ≠ 2 := fun z => by rw [lm, z] at cw; exact cw rfl
          try walk_at "go"
          intro L hL
          generalize eH1 : upd _ L _ = H1
          have SH1 := newS eH1 hL
          have oL := newO eH1
          refine q L [(.ref a, .tuple (tr.map fun t => t.2))] H1 SH1 oL (fun t ht => ?_) (lv_not (by rw [List.length_map]; exact ne)).symm
          cases List.mem_singleton.mp ht
          exact hd.same SH1
theorem k__law_leaves (D : Df K mg "_law_leaves" s__law_leaves ["_law_thing"]) : Dn P w K mg base 62 "_law_leaves" ["_law_thing"] ((spLeaves6 K) 60) := k__law_leaves_rec B D  60
def spLIsT6 (K : PySem.W.Frag) : Sp := fun vs H Q _ => ∃ (v : V) (d : PyData) (m : Nat) (p : Addr), vs = [v, .int m] ∧ Th K p H v d ∧ m ≤ 40 ∧ d.depth ≤ 50 ∧ nsz d ≤ 1000000 ∧ ∀ H', Same H H' → Q (.bl (isT d m)) H'
theorem k__law_is_tree (D : Df K mg "_law_is_tree" s__law_is_tree ["_law_thing", "_law_many"]) (D__law_leaves : Dn P w K mg base 62 "_law_leaves" ["_law_thing"] ((spLeaves6 K) 60)) (D__law_is_number : Dn P w K mg base 1 "_law_is_number" ["_law_thing", "_law_many"] (spLNum K)) : Dn P w K mg base 63 "_law_is_tree" ["_law_thing", "_law_many"] (spLIsT6 K) := by
  refine D.ok fun f fd F => okG0 F sc__law_is_tree (fun vs H Q E h => ?_) (fun cdv A outer s H vs Q E hr h => ⟨_, (pss_cons (ps_set (i := 2) sc__law_is_tree.nd rfl (Or.inl rfl) (pe_cD D__law_leaves (hr.less (by decide)) rfl (pa_cons (pv 0) pa_nil)))
    (pss_one (ps_ret (pe_and (pe_callB (kk (K := K) (F := rAll) (P := CallR _ _) (cr_all rfl)) (by rfl) B.all_ (by decide +kernel) (pa_cons (pe_lc (own := [("_law_one", 3)]) (g := gName 3) (tt := tYes) rfl sc__law_is_tree.nd (kk (K := K) (F := fun K => iList K _) (P := PI _ _ _) (pi_list (pv 2))) (blkOk_by (own := [("_law_one", 3)]) (N := ["_law_thing", "_law_many", "_law_found", "_law_one"]) (sc := defScope s__law_is_tree) (by decide +kernel)) (fun _ _ _ _ _ => (pg_name (i := 3) sc__law_is_tree.nd rfl (Or.inl rfl))) (fun _ _ _ _ _ => pts_nil) (fun _ _ _ _ _ => (pe_cD D__law_is_number (hr.less (by decide)) rfl (pa_cons (pv 3) (pa_cons (pv 1) pa_nil))))) pa_nil)) (pe_one (pe_cmpR (kk (K := K) (F := rEqD) (P := OpR _ _) (op_eqD hr.units)) (pv 2) (pe_listRg rfl (by rfl) B.list_ (prg_1 rfl B.range_ (pv 1))) (nomark _))))))), ?_⟩)
  · obtain ⟨v, d, m, p, rfl, _⟩ := h; rfl
  · obtain ⟨v, d, m, p, rfl, hd, m40, hdep, hz, q⟩ := h
    try walk_at "go"
    intro L tr H1 S1 hL htr hlv
    have lm : (tr.map fun t => t.1).length = tr.length := List.length_map _
    have ll : tr.length ≤ 1000000 := by
      have := lv_nsz d
      rw [← hlv, List.length_map] at this
      omega
    try walk_at "go"
    intro D hD
    refine lc_list (K := K) (a := L) (xs := tr.map fun t => t.1) (fun i H' => Kept (Same H1 H' ∧ H' D = some (.lst (((tr.take i).map fun t => isU m t.2).map V.bl)))) ⟨same_new hD _, upd_same⟩ (fun i H' _ h => SqL.of (h.1.1 _ _ hL)) ?_ ?_
    · rintro i y H2 hi ⟨S2, hD2⟩
      rw [List.getElem?_map] at hi
      obtain ⟨t, ht, rfl⟩ := Option.map_eq_some_iff.mp hi
      have th2 := (htr t (List.mem_of_getElem? ht)).same S2
      have ln : (List.map V.bl (List.map (fun t => isU m t.snd) (List.take i tr))).length ≤ 1000000 := by rw [List.length_map, List.length_map, List.length_take]; omega
      have slz : 3000000 ≤ sizeLine := by decide
      try walk_at "go"
      exact ⟨⟨but_same hD S2 But.upd, by rw [upd_same, List.take_succ, ht, List.map_append, List.map_append] <;> rfl⟩⟩
    · rintro H2 ⟨S2, hD2⟩
      have ea : (tr.map fun t => isU m t.2).all id = (lv d).all (isU m) := by
        rw [← hlv, List.all_map, List.all_map]
        exact congrArg (fun f => tr.all f) (funext fun t => isU_cl.symm)
      rw [lm, List.take_length] at hD2
      try walk_at "go"
      rw [ea]
      cases ew : (lv d).all (isU m) with
      | false =>
        refine ifF rfl ?_
        have e0 : isT d m = false := by
          rw [Bool.eq_false_iff]
          intro z
          rw [isT_u z] at ew
          cases ew
        rw [e0] at q
        exact q _ (S1.trans S2)
      | true =>
        refine ifT rfl ?_
        have ew2 := u_wh ew
        obtain ⟨is, e1, e2⟩ := all_wh ew2
        have e3 : tr.map (fun t => t.1) = is.map V.int := by
          have e4 := hlv.trans e1
          clear hL hD2 ll lm ea e1 e2 ew ew2 hlv
          induction tr generalizing is with
          | nil => cases is with
            | nil => rfl
            | cons _ _ => cases e4
          | cons t r ih => cases is with
            | nil => cases e4
            | cons i is =>
              injection e4 with g1 g2
              have th := htr t List.mem_cons_self
              have g1 : t.2 = PyData.int i := cl_int g1
              rw [g1] at th
              rw [List.map_cons, List.map_cons, th.int_inv, ih (fun x hx => htr x (List.mem_cons_of_mem _ hx)) is g2]
        rw [e3] at hL
        have hL2 := S2 _ _ hL
        try walk_at "go"
        intro R hR
        generalize eH3 : upd _ R _ = H3
        have SH3 := newS eH3 hR
        have oR := newO eH3
        rw [rg_natL] at oR
        have hL3 := SH3 _ _ hL2
        try walk_at "go"
        show Q (.bl (PyData.eqvAll (is.map PyData.int) (((List.range m).map fun i : Nat => (i : Int)).map PyData.int))) H3
        rw [PySem.W.ked_eqvAll, show decide (is = (List.range m).map fun i : Nat => (i : Int)) = isT d m by unfold isT; rw [ew2, e2, Bool.true_and]]
        exact q _ (S1.trans (S2.trans SH3))
/-! SPLIT -/
/-! ### the law's families (k62 to k65, k69) -/
def kN (d : List Nat) : List Key := d.map fun n : Nat => Sum.inl (n : Int)
omit B in
theorem kN_kV {d : List Nat} : (kN d).map kV = (iN d).map V.int := by unfold kN iN; rw [List.map_map, List.map_map] <;> rfl
omit B in
theorem kN_inj {a b : List Nat} (h : kN a = kN b) : a = b := (List.map_inj_right fun x y e => Int.ofNat.inj (Sum.inl.inj e)).mp h
def ks (fs : List (List Nat × Addr)) : List (List Nat) := fs.map fun x => x.1
/-- a dict from deeds to their words -/
structure FdAt (H : Hp) (D : Addr) (fs : List (List Nat × Addr)) : Prop where
  top : H D = some (.dT (fs.map fun x => (kN x.1, V.ref x.2)))
  wd : ∀ x ∈ fs, ∃ w : List Nat, H x.2 = some (.tup ((iN w).map V.int)) ∧ w.length ≤ fs.length
omit B in
theorem FdAt.same {H H' : Hp} {D : Addr} {fs : List (List Nat × Addr)} (a : FdAt H D fs) (e : Same H H') : FdAt H' D fs := ⟨e _ _ a.top, fun x hx => by
  obtain ⟨w, h1, h2⟩ := a.wd x hx
  exact ⟨w, e _ _ h1, h2⟩⟩
omit B in
theorem fd_none {fs : List (List Nat × Addr)} {d : List Nat} (h : d ∉ ks fs) : valV (fs.map fun x => (kN x.1, V.ref x.2)) (kN d) = none := by
  induction fs with
  | nil => rfl
  | cons x fs ih =>
    rw [List.map_cons, valV_neg fun e => h (by rw [← kN_inj e]; exact List.mem_cons_self)]
    exact ih fun m => h (List.mem_cons_of_mem _ m)
omit B in
theorem fd_some {fs : List (List Nat × Addr)} {d : List Nat} (h : d ∈ ks fs) : ∃ x ∈ fs, x.1 = d ∧ valV (fs.map fun x => (kN x.1, V.ref x.2)) (kN d) = some (V.ref x.2) := by
  induction fs with
  | nil => exact absurd h List.not_mem_nil
  | cons x fs ih =>
    by_cases e : x.1 = d
    · exact ⟨x, List.mem_cons_self, e, by rw [List.map_cons, valV_pos (by rw [e])]⟩
    · have h2 : d ∈ ks fs := by
        rcases List.mem_cons.mp h with z | z
        · exact absurd z.symm e
        · exact z
      obtain ⟨y, hy, e1, e2⟩ := ih h2
      exact ⟨y, List.mem_cons_of_mem _ hy, e1, by rw [List.map_cons, valV_neg fun z => e (kN_inj z)]; exact e2⟩
omit B in
theorem ks_snoc {fs : List (List Nat × Addr)} {x : List Nat × Addr} : ks (fs ++ [x]) = ks fs ++ [x.1] := by unfold ks; rw [List.map_append] <;> rfl
omit B in
theorem ks_len {fs : List (List Nat × Addr)} : (ks fs).length = fs.length := by unfold ks; rw [List.length_map]
/-- closed but for some -/
def Ce (M K X : List (List Nat)) : Prop := ∀ d ∈ K, d ∈ X ∨ ∀ m ∈ M, thn d m ∈ K
omit B in
theorem Ce.mono {M K K' X X' : List (List Nat)} (c : Ce M K X) (hk : ∀ d ∈ K, d ∈ K') (hx : ∀ d ∈ X, d ∈ X') (hn : ∀ d ∈ K', d ∈ K ∨ d ∈ X') : Ce M K' X' := fun d hd => by
  rcases hn d hd with a | a
  · rcases c d a with b | b
    · exact .inl (hx d b)
    · exact .inr fun m hm => hk _ (b m hm)
  · exact .inl a
/-- rows that stand -/
def RsAt (H : Hp) (ls : List (Addr × List Nat)) : Prop := ∀ x ∈ ls, H x.1 = some (.tup ((iN x.2).map V.int))
omit B in
theorem RsAt.same {H H' : Hp} {ls : List (Addr × List Nat)} (a : RsAt H ls) (e : Same H H') : RsAt H' ls := fun x hx => e _ _ (a x hx)
omit B in
theorem GridAt.rs {H : Hp} {T : Addr} {rs : List (Addr × List Nat)} {M B : Nat} (g : GridAt H T rs M B) : RsAt H rs := fun x hx => (g.rows x hx).1
omit B in
theorem GridAt.dts {H : Hp} {T : Addr} {rs : List (Addr × List Nat)} {S : Nat} (g : GridAt H T rs S S) : ∀ m ∈ gr rs, Dt S m := fun m hm => by
  obtain ⟨x, hx, rfl⟩ := List.mem_map.mp hm
  exact (g.rows x hx).2
/-- the state of the making of a family -/
structure FmI (S : Nat) (M : List (List Nat)) (H0 H : Hp) (D : Addr) (fs : List (List Nat × Addr)) (X : List (List Nat)) : Prop where
  sm : Same H0 H
  at_ : FdAt H D fs
  nd : (ks fs).Nodup
  rc : ∀ d ∈ ks fs, Rch S M d
  ce : Ce M (ks fs) X
  one : List.range S ∈ ks fs
omit B in
theorem rg_iN {m : Nat} : rgV 0 (m : Int) = (iN (List.range m)).map V.int := by
  unfold rgV iN
  rw [List.map_map, Int.sub_zero, Int.toNat_natCast]
  refine List.map_congr_left fun i _ => ?_
  show V.int (0 + (i : Int)) = V.int (i : Int)
  rw [Int.zero_add]
def lsD (ls : List (Addr × List Nat)) : PyData := .list (ls.map fun x => .tuple ((iN x.2).map PyData.int))
omit B in
theorem lsD_ly {ls : List (Addr × List Nat)} : Ly 2 (lsD ls) := .lst fun d hd => by
  obtain ⟨x, _, rfl⟩ := List.mem_map.mp hd
  exact .tupI
omit B in
theorem lsD_dp {K : PySem.W.Frag} {H : Hp} {L : Addr} {ls : List (Addr × List Nat)} (h : H L = some (.lst (ls.map fun x => V.ref x.1))) (r : RsAt H ls) : Dp K H (.ref L) (lsD ls) := by
  refine .lst (SqL.of h) (dpAll_of (by rw [List.length_map, List.length_map]) fun i x d hx hd => ?_)
  rw [List.getElem?_map] at hx hd
  obtain ⟨y, hy, rfl⟩ := Option.map_eq_some_iff.mp hx
  rw [hy] at hd
  cases (Option.some.inj hd)
  exact tupI_dp (SqT.of (r y (List.mem_of_getElem? hy)))
/-- the big loop -/
def FmW (S : Nat) (M : List (List Nat)) (T F D : Addr) (H0 : Hp) (m : Nat) (σ : L2.St) (H : Hp) : Prop := ∃ (fs : List (List Nat × Addr)) (ls : List (Addr × List Nat)) (L : Addr) (w4 w5 w6 w7 w8 : Option V),
  σ = [some (.ref T), some (.ref F), some (.ref D), some (.ref L), w4, w5, w6, w7, w8] ∧ FmI S M H0 H D fs (ls.map fun x => x.2) ∧ H L = some (.lst (ls.map fun x => V.ref x.1)) ∧ RsAt H ls ∧ (∀ x ∈ ls, x.2 ∈ ks fs) ∧ fs.length ≤ 300 ∧ ls.length ≤ fs.length ∧ m = (if ls = [] then 0 else 400 - fs.length) ∧ H0 L = none ∧ ∃ n, ks fs = kf (gp S M n) ∧ ls.map (fun x => x.2) = (ks fs).drop n ∧ n + ls.length = fs.length ∧ ∀ k, k < n → k < (gp S M k).length
/-- within a turn of the big loop -/
structure FmB (S : Nat) (M : List (List Nat)) (H0 H : Hp) (D L Mo : Addr) (fs0 fs : List (List Nat × Addr)) (ls ms : List (Addr × List Nat)) (X : List (List Nat)) (cap : Nat) : Prop where
  I : FmI S M H0 H D fs (X ++ ms.map fun x => x.2)
  hL : H L = some (.lst (ls.map fun x => V.ref x.1))
  hM : H Mo = some (.lst (ms.map fun x => V.ref x.1))
  hR : RsAt H ls
  hm : RsAt H ms
  min : ∀ x ∈ ms, x.2 ∈ ks fs
  up : ∀ d ∈ ks fs0, d ∈ ks fs
  len : fs.length = fs0.length + ms.length
  cap : ms.length ≤ cap
omit B in
theorem FmB.same {S : Nat} {M : List (List Nat)} {H0 H H' : Hp} {D L Mo : Addr} {fs0 fs : List (List Nat × Addr)} {ls ms : List (Addr × List Nat)} {X : List (List Nat)} {cap : Nat} (b : FmB S M H0 H D L Mo fs0 fs ls ms X cap) (e : Same H H') : FmB S M H0 H' D L Mo fs0 fs ls ms X cap :=
  ⟨⟨b.I.sm.trans e, b.I.at_.same e, b.I.nd, b.I.rc, b.I.ce, b.I.one⟩, e _ _ b.hL, e _ _ b.hM, b.hR.same e, b.hm.same e, b.min, b.up, b.len, b.cap⟩
omit B in
/-- a new deed: the dict has it, and the row of the new ones -/
theorem FmB.add {S : Nat} {M : List (List Nat)} {H0 H H1 H2 : Hp} {D L Mo U W : Addr} {fs0 fs : List (List Nat × Addr)} {ls ms : List (Addr × List Nat)} {X : List (List Nat)} {cap : Nat} {d w : List Nat} (b : FmB S M H0 H D L Mo fs0 fs ls ms X cap)
    (hd : d ∉ ks fs) (r : Rch S M d) (hU : H U = some (.tup ((iN d).map V.int))) (hW : H W = some (.tup ((iN w).map V.int))) (hw : w.length ≤ fs.length + 1) (hDn : H0 D = none) (hMn : H0 Mo = none) (nDM : D ≠ Mo) (nDL : D ≠ L) (nLM : L ≠ Mo)
    (b1 : But D H H1) (o1 : H1 D = some (.dT ((fs.map fun x => (kN x.1, V.ref x.2)) ++ [(kN d, .ref W)]))) (b2 : But Mo H1 H2) (o2 : H2 Mo = some (.lst (ms.map (fun x => V.ref x.1) ++ [.ref U]))) : FmB S M H0 H2 D L Mo fs0 (fs ++ [(d, W)]) ls (ms ++ [(U, d)]) X (cap + 1) := by
  have tk : ∀ p xs, H p = some (.tup xs) → H2 p = some (.tup xs) := fun p xs e => b2 _ _ (ne_of (b1 _ _ (ne_of e b.I.at_.top (by intro z; cases z)) e) (b1 _ _ (Ne.symm nDM) b.hM) (by intro z; cases z)) (b1 _ _ (ne_of e b.I.at_.top (by intro z; cases z)) e)
  refine ⟨⟨fun c o h => b2 _ _ (ne_of_none h hMn) (b1 _ _ (ne_of_none h hDn) (b.I.sm _ _ h)), ⟨?_, fun x hx => ?_⟩, ?_, fun y hy => ?_, ?_, ?_⟩, b2 _ _ nLM (b1 _ _ (Ne.symm nDL) b.hL), ?_, fun x hx => tk _ _ (b.hR x hx), fun x hx => ?_, fun x hx => ?_, fun y hy => ?_, ?_, ?_⟩
  · rw [b2 _ _ nDM o1, List.map_append] <;> rfl
  · rcases List.mem_append.mp hx with h | h
    · obtain ⟨w', h1, h2⟩ := b.I.at_.wd x h
      exact ⟨w', tk _ _ h1, by rw [List.length_append]; omega⟩
    · cases List.mem_singleton.mp h
      exact ⟨w, tk _ _ hW, by rw [List.length_append]; exact hw⟩
  · rw [ks_snoc, List.nodup_append]
    refine ⟨b.I.nd, by simp, fun a ha c hc z => ?_⟩
    cases List.mem_singleton.mp hc
    have z2 : a = d := z
    subst z2
    exact hd ha
  · rw [ks_snoc] at hy
    rcases List.mem_append.mp hy with h | h
    · exact b.I.rc y h
    · cases List.mem_singleton.mp h
      exact r
  · refine b.I.ce.mono (fun y hy => by rw [ks_snoc]; exact List.mem_append_left _ hy) (fun y hy => ?_) (fun y hy => ?_)
    · rw [List.map_append, ← List.append_assoc]
      exact List.mem_append_left _ hy
    · rw [ks_snoc] at hy
      rcases List.mem_append.mp hy with h | h
      · exact .inl h
      · cases List.mem_singleton.mp h
        exact .inr (by rw [List.map_append, ← List.append_assoc]; exact List.mem_append_right _ (by simp))
  · rw [ks_snoc]
    exact List.mem_append_left _ b.I.one
  · rw [o2, List.map_append] <;> rfl
  · rcases List.mem_append.mp hx with h | h
    · exact tk _ _ (b.hm x h)
    · cases List.mem_singleton.mp h
      exact tk _ _ hU
  · rw [ks_snoc]
    rcases List.mem_append.mp hx with h | h
    · exact List.mem_append_left _ (b.min x h)
    · cases List.mem_singleton.mp h
      exact List.mem_append_right _ (by simp)
  · rw [ks_snoc]
    exact List.mem_append_left _ (b.up y hy)
  · rw [List.length_append, List.length_append, b.len]
    show _ + 1 = _ + (_ + 1)
    omega
  · rw [List.length_append]
    have := b.cap
    show _ + 1 ≤ _
    omega
omit B in
theorem fam_of {S : Nat} {M K : List (List Nat)} (nd : K.Nodup) (rc : ∀ d ∈ K, Rch S M d) (ce : Ce M K []) (one : List.range S ∈ K) : Fam S M K := ⟨one, fun d hd m hm => by
  rcases ce d hd with h | h
  · exact absurd h List.not_mem_nil
  · exact h m hm, rc, nd⟩
def spThen6 : Sp := fun vs H Q _ => ∃ (A B : Addr) (xs ys : List Nat), vs = [.ref A, .ref B] ∧ H A = some (.tup ((iN xs).map V.int)) ∧ H B = some (.tup ((iN ys).map V.int)) ∧ Bel xs ys.length ∧ xs.length ≤ 100 ∧ ∀ T H', Same H H' → H T = none → H' T = some (.tup ((iN (thn xs ys)).map V.int)) → Q (.ref T) H'
theorem k_one_then (D : Df K mg "one_then" s_one_then ["one", "other"]) : Dn P w K mg base 1 "one_then" ["one", "other"] spThen6 := by
  refine D.ok fun f fd F => okG0 F sc_one_then (fun vs H Q E h => ?_) (fun cdv A outer s H vs Q E hr h => ⟨_, (pss_one (ps_ret (pe_callTy (tupOfK (K := K)) (by rfl) B.tuple_ (by decide +kernel) (pa_cons (pe_lc (own := [("state", 2)]) (g := gName 2) (tt := tYes) rfl sc_one_then.nd (kk (K := K) (F := fun K => iTup K _) (P := PI _ _ _) (pi_tup (pv 0))) (blkOk_by (own := [("state", 2)]) (N := ["one", "other", "state"]) (sc := defScope s_one_then) (by decide +kernel)) (fun _ _ _ _ _ => (pg_name (i := 2) sc_one_then.nd rfl (Or.inl rfl))) (fun _ _ _ _ _ => pts_nil) (fun _ _ _ _ _ => (pe_ix (kk (K := K) (F := rIxT) (P := IxR _) ix_tup) (pv 1) (pv 2) (fun _ _ => rfl)))) pa_nil)))), ?_⟩)
  · obtain ⟨A, B, xs, ys, rfl, _⟩ := h; rfl
  · obtain ⟨A, B', xs, ys, rfl, hA, hB, hb, hl, q⟩ := h
    try walk_at "go"
    intro D hD
    refine lc_tup (K := K) (a := A) (xs := (iN xs).map V.int) (fun i H' => Kept (Same H H' ∧ H' D = some (.lst ((iN (thn (xs.take i) ys)).map V.int)))) ⟨same_new hD _, upd_same⟩ (fun i H' _ h => SqT.of (h.ex.1 _ _ hA)) ?_ ?_
    · rintro i x H' hx ⟨S1, hD1⟩
      obtain ⟨n, rfl, hn⟩ := iN_mem hx
      have hB1 := S1 _ _ hB
      have hi : i < 100 := by have := (List.getElem?_eq_some_iff.mp hn).1; omega
      have an : atI ((iN ys).map V.int) (n : Int) = some (.int (ys.getD n 0 : Nat)) := atI_nat (iN_at (getD_at (hb n (List.mem_of_getElem? hn))))
      have ul : ((iN (thn (xs.take i) ys)).map V.int).length ≤ 200 := by rw [iN_len]; unfold thn; rw [List.length_map, List.length_take]; omega
      try walk_at "go"
      refine ⟨⟨but_same hD S1 But.upd, ?_⟩⟩
      rw [upd_same, iN_snoc, List.take_succ, hn] <;> (unfold thn; rw [List.map_append] <;> rfl)
    · rintro H2 ⟨S2, hD2⟩
      rw [iN_len, List.take_length] at hD2
      try walk_at "go"
      intro U hU
      generalize eH3 : upd _ U _ = H3
      have SH3 := newS eH3 hU
      have oU := newO eH3
      exact q U _ (S2.trans SH3) (none_back S2 hU) oU
/-! dicts from deeds to numbers -/
omit B in
theorem puts_none {k : List Key} : ∀ {rows : List (List Key × Addr × V)} {acc : List (List Key × V)}, (∀ r ∈ rows, r.1 ≠ k) → valV (putsK acc rows) k = valV acc k
  | [], _, _ => rfl
  | r :: rows, acc, h => by
    show valV (putsK (putK acc r.1 r.2.2) rows) k = _
    rw [puts_none fun x hx => h x (List.mem_cons_of_mem _ hx), valV_put, if_neg (fun e => h r List.mem_cons_self e.symm)]
omit B in
theorem puts_some {k : List Key} : ∀ {rows : List (List Key × Addr × V)} {acc : List (List Key × V)}, (∃ r ∈ rows, r.1 = k) → ∃ r ∈ rows, r.1 = k ∧ valV (putsK acc rows) k = some r.2.2
  | [], _, ⟨_, h, _⟩ => absurd h List.not_mem_nil
  | r :: rows, acc, h => by
    by_cases c : ∃ x ∈ rows, x.1 = k
    · obtain ⟨x, hx, e1, e2⟩ := puts_some (acc := putK acc r.1 r.2.2) c
      exact ⟨x, List.mem_cons_of_mem _ hx, e1, e2⟩
    · have hn : ∀ x ∈ rows, x.1 ≠ k := fun x hx e => c ⟨x, hx, e⟩
      have e : r.1 = k := by
        obtain ⟨x, hx, e⟩ := h
        rcases List.mem_cons.mp hx with rfl | hx
        · exact e
        · exact absurd e (hn x hx)
      refine ⟨r, List.mem_cons_self, e, ?_⟩
      show valV (putsK (putK acc r.1 r.2.2) rows) k = _
      rw [puts_none hn, valV_put, if_pos e.symm]
/-- the numbers of deeds -/
def nrows (ls : List (Addr × List Nat)) : List (List Key × Addr × V) := ls.zipIdx.map fun x => (kN x.1.2, x.1.1, V.int (x.2 : Nat))
omit B in
theorem nrows_at {ls : List (Addr × List Nat)} {j : Nat} {q : List Key × Addr × V} (h : (nrows ls)[j]? = some q) : ∃ x, ls[j]? = some x ∧ q = (kN x.2, x.1, V.int (j : Nat)) := by
  unfold nrows at h
  rw [List.getElem?_map, List.getElem?_zipIdx, Nat.zero_add] at h
  cases hx : ls[j]? with
  | none => rw [hx] at h; cases h
  | some x => rw [hx] at h; exact ⟨x, rfl, (Option.some.inj h).symm⟩
omit B in
theorem nrows_len {ls : List (Addr × List Nat)} : (nrows ls).length = ls.length := by unfold nrows; rw [List.length_map, List.length_zipIdx]
omit B in
theorem nrows_val {ls : List (Addr × List Nat)} {d : List Nat} (h : d ∈ ls.map fun x => x.2) : ∃ j x, ls[j]? = some x ∧ x.2 = d ∧ valV (putsK [] (nrows ls)) (kN d) = some (V.int (j : Nat)) := by
  obtain ⟨x, hx, e⟩ := List.mem_map.mp h
  obtain ⟨j, hj, ej⟩ := List.getElem_of_mem hx
  have hm : ∃ r ∈ nrows ls, r.1 = kN d := by
    refine ⟨(kN x.2, x.1, V.int (j : Nat)), ?_, by rw [e]⟩
    have e2 : (nrows ls)[j]? = some (kN x.2, x.1, V.int (j : Nat)) := by
      unfold nrows
      rw [List.getElem?_map, List.getElem?_zipIdx, Nat.zero_add, List.getElem?_eq_getElem hj, ej] <;> rfl
    exact List.mem_of_getElem? e2
  obtain ⟨r, hr, e1, e2⟩ := puts_some (acc := []) hm
  obtain ⟨i, hi, ei⟩ := List.getElem_of_mem hr
  obtain ⟨y, hy, ey⟩ := nrows_at (by rw [List.getElem?_eq_getElem hi, ei] : (nrows ls)[i]? = some r)
  subst ey
  exact ⟨i, y, hy, kN_inj e1, e2⟩
omit B in
theorem getD_appO {α : Type} {xs ys : List α} {i : Nat} {z : α} (h : i < xs.length) : (xs ++ ys).getD i z = xs.getD i z := by
  rw [List.getD_eq_getElem?_getD, List.getElem?_append_left h, ← List.getD_eq_getElem?_getD]
omit B in
theorem getD_last {α : Type} {xs : List α} {y z : α} {i : Nat} (h : i = xs.length) : (xs ++ [y]).getD i z = y := by
  subst h
  rw [List.getD_eq_getElem?_getD, List.getElem?_append_right (Nat.le_refl _), Nat.sub_self] <;> rfl
/-! ### the program's families -/
def fq (fs : List ((List Nat × List Nat) × Addr)) : List (List Nat × Addr) := fs.map fun x => (x.1.1, x.2)
def fpf (fs : List ((List Nat × List Nat) × Addr)) : PF := fs.map fun x => x.1
structure FpAt (H : Hp) (D : Addr) (fs : List ((List Nat × List Nat) × Addr)) : Prop where
  top : H D = some (.dT ((fq fs).map fun x => (kN x.1, V.ref x.2)))
  wd : ∀ x ∈ fs, H x.2 = some (.tup ((iN x.1.2).map V.int))
omit B in
theorem FpAt.same {H H' : Hp} {D : Addr} {fs : List ((List Nat × List Nat) × Addr)} (a : FpAt H D fs) (e : Same H H') : FpAt H' D fs := ⟨e _ _ a.top, fun x hx => e _ _ (a.wd x hx)⟩
omit B in
theorem fq_ks {fs : List ((List Nat × List Nat) × Addr)} : ks (fq fs) = kf (fpf fs) := by unfold ks fq kf fpf; rw [List.map_map, List.map_map] <;> rfl
omit B in
theorem fq_len {fs : List ((List Nat × List Nat) × Addr)} : (fq fs).length = fs.length := by unfold fq; rw [List.length_map]
omit B in
theorem fpf_len {fs : List ((List Nat × List Nat) × Addr)} : (fpf fs).length = fs.length := by unfold fpf; rw [List.length_map]
omit B in
theorem fpf_snoc {fs : List ((List Nat × List Nat) × Addr)} {x : (List Nat × List Nat) × Addr} : fpf (fs ++ [x]) = fpf fs ++ [x.1] := by unfold fpf; rw [List.map_append] <;> rfl
omit B in
theorem kf_uniq {F : PF} {d w w' : List Nat} (nd : (kf F).Nodup) (h : (d, w) ∈ F) (h' : (d, w') ∈ F) : w = w' := by
  induction F with
  | nil => exact absurd h List.not_mem_nil
  | cons x F ih =>
    have nd2 : x.1 ∉ kf F ∧ (kf F).Nodup := List.nodup_cons.mp nd
    rcases List.mem_cons.mp h with e | e <;> rcases List.mem_cons.mp h' with e' | e'
    · rw [← e] at e'
      exact (Prod.mk.inj e').2.symm
    · exact absurd (List.mem_map.mpr ⟨_, e', rfl⟩) (by rw [← e] at nd2; exact nd2.1)
    · exact absurd (List.mem_map.mpr ⟨_, e, rfl⟩) (by rw [← e'] at nd2; exact nd2.1)
    · exact ih nd2.2 e e'
/-- the loop over those that wait -/
def GrW (S : Nat) (M : List (List Nat)) (T D : Addr) (H0 : Hp) (m : Nat) (σ : L2.St) (H : Hp) : Prop := ∃ (fs : List ((List Nat × List Nat) × Addr)) (ls : List (Addr × List Nat)) (L : Addr) (n : Nat) (w3 w4 w5 w6 : Option V),
  σ = [some (.ref T), some (.ref D), some (.ref L), w3, w4, w5, w6] ∧ Same H0 H ∧ FpAt H D fs ∧ fpf fs = gp S M n ∧ fs.length ≤ 60 ∧ H L = some (.lst (ls.map fun x => V.ref x.1)) ∧ RsAt H ls ∧ ls.map (fun x => x.2) = (kf (gp S M n)).drop n ∧ n ≤ fs.length ∧ (∀ k, k < n → k < (gp S M k).length) ∧ m = 61 - n ∧ H0 L = none
omit B in
theorem keys_rows2 {H : Hp} {fs : List (List Nat × Addr)} {bs : List Addr} (h : IsKeys H (fs.map fun x => (kN x.1, V.ref x.2)) bs) : ∃ ls : List (Addr × List Nat), bs = ls.map (fun x => x.1) ∧ ls.map (fun x => x.2) = ks fs ∧ RsAt H ls := by
  induction fs generalizing bs with
  | nil =>
    cases h
    exact ⟨[], rfl, rfl, fun x hx => absurd hx List.not_mem_nil⟩
  | cons x fs ih =>
    cases h with
    | @cons _ b _ bs' h1 h2 =>
      obtain ⟨ls, e1, e2, e3⟩ := ih h2
      refine ⟨(b, x.1) :: ls, by rw [e1] <;> rfl, by rw [List.map_cons, e2] <;> rfl, fun y hy => ?_⟩
      rcases List.mem_cons.mp hy with rfl | hy
      · have h3 : H b = some (.tup ((kN x.1).map kV)) := h1
        rw [h3, kN_kV]
      · exact e3 y hy
def spGrownE (K : PySem.W.Frag) (C : Addr) : Sp := fun vs H Q E => ∃ (T : Addr) (rs : List (Addr × List Nat)) (S : Nat), vs = [.ref T] ∧ GridAt H T rs S S ∧ 1 ≤ rs.length ∧ rs.length ≤ 4 ∧ 1 ≤ S ∧ S ≤ 5 ∧
  (∀ ks : List (List Nat), ks.Nodup → (∀ d ∈ ks, Rch S (gr rs) d) → 60 < ks.length → ∀ H', Same H H' → E (.ref C) none H') ∧
  ∀ D fs n H', Same H H' → H D = none → FpAt H' D fs → fpf fs = gp S (gr rs) n → Fin' S (gr rs) n → fs.length ≤ 60 → Q (.ref D) H'
theorem k_grown (D : Df K mg "grown" s_grown ["deeds"]) (D_one_then : Dn P w K mg base 1 "one_then" ["one", "other"] spThen6) : Dx P w K mg base 2 "grown" ["deeds"] (spGrownE K (cAt mg "TooMany")) := by
  refine D.okX fun f fd F => okGX F sc_grown (fun vs H Q E h => ?_) (fun cdv A outer s H vs Q E hr h => ⟨_, (pss_cons (ps_set (i := 1) sc_grown.nd rfl (Or.inl rfl) (pe_dispT hr.u1 (pe_tupRg rfl (by rfl) B.tuple_ (prg_1 rfl B.range_ (pe_callB (lenK (K := K)) (by rfl) B.len_ (by decide +kernel) (pa_cons (pe_ix (kk (K := K) (F := rIxT) (P := IxR _) ix_tup) (pv 0) pe_int (fun _ _ => rfl)) pa_nil)))) (pe_tup pa_nil)))
    (pss_cons (ps_set (i := 2) sc_grown.nd rfl (Or.inl rfl) (pe_callTy (call_list_dT rfl) (by rfl) B.list_ (by decide +kernel) (pa_cons (pv 1) pa_nil)))
    (pss_cons (ps_while (passes_of rfl) (pt_cmpR (kk (K := K) (F := rNeD) (P := OpR _ _) (op_neD hr.units)) (pv 2) (pe_lst pa_nil) (nomark _))
      (pss_cons (ps_set (i := 3) sc_grown.nd rfl (Or.inl rfl) (kk (K := K) (F := fun K => tBM K "list" _ _ _) (P := PE _ _) (pe_bm PySem.F.plainAttrs_list PySem.F.slot_list_pop PySem.F.type_list_pop mt_popAt (pv 2) (pa_cons pe_int pa_nil))))
      (pss_one (ps_for (passes_of rfl) rfl (kk (K := K) (F := fun K => iEnumT K _) (P := PI _ _ _) (pi_enumT (by rfl) B.enumerate_ (pa_cons (pv 0) pa_nil))) (kk (K := K) (F := fun K => gTup K 2 _) (P := PG _ _) (pg_tup rfl (pgs_cons (pg_name (i := 4) sc_grown.nd rfl (Or.inl rfl)) (pgs_cons (pg_name (i := 5) sc_grown.nd rfl (Or.inl rfl)) pgs_nil))))
       (pss_cons (ps_set (i := 6) sc_grown.nd rfl (Or.inl rfl) (pe_cD D_one_then (hr.less (by decide)) rfl (pa_cons (pv 3) (pa_cons (pv 5) pa_nil))))
       (pss_one (ps_if (pt_cmp (pc_dnotin hr.u1 (pv 6) (pv 1)) rfl)
        (pss_cons (ps_if (pt_cmpR op_eq (pe_callB call_len_dT (by rfl) B.len_ (by decide +kernel) (pa_cons (pv 1) pa_nil)) (pe_glob (v := .int (60)) (u := .int (60) B.MOST_FAMILY_.choose) (by rfl) B.MOST_FAMILY_.choose_spec ⟨_, rfl⟩) (nomark _))
          (pss_one (ps_raise rfl (takes_of rfl rfl rfl rfl) (pmk_own PySem.F.excBase_ValueError B.TooMany_.ex B.TooMany_.mg_ B.TooMany_.kp (raises_own B.TooMany_.bs B.TooMany_.tp) rfl)))
          pss_nil)
        (pss_cons (ps_dput hr.u1 (pv 1) (pv 6) (pe_op op_catU (pe_dget hr.u1 (pv 1) (pv 3) (fun _ _ => rfl)) (pe_tup (pa_cons (pv 4) pa_nil))) rfl)
        (pss_one (ps_expr (kk (K := K) (F := fun K => tBM K "list" _ _ _) (P := PE _ _) (pe_bm PySem.F.plainAttrs_list PySem.F.slot_list_append PySem.F.type_list_append mt_append (pv 2) (pa_cons (pv 6) pa_nil)))))))
        pss_nil)))))))
    (pss_one (ps_ret (pv 1)))))), ?_⟩)
  · obtain ⟨T, rs, S, rfl, _⟩ := h; rfl
  · obtain ⟨T, rs, S, rfl, g, r1, r4, s1, s5, qe, q⟩ := h
    have hT := g.top
    have a0 : atI (rs.map fun x => V.ref x.1) 0 = some (.ref rs[0].1) := at_of (j := 0) rfl (refs_at (by omega))
    obtain ⟨k1, k2, k3⟩ := g.rows rs[0] (List.getElem_mem (by omega))
    have hl0 : ((iN rs[0].2).map V.int).length = S := by rw [iN_len, k2]
    have dts := g.dts
    have ml : (gr rs).length = rs.length := by unfold gr; rw [List.length_map]
    try walk_at "go"
    intro D hD
    generalize eH1 : upd _ D _ = H1
    have SH1 := newS eH1 hD
    have oD := newO eH1
    have hT1 := SH1 _ _ hT
    have k11 := SH1 _ _ k1
    try walk_at "go"
    intro F hF
    generalize eH2 : upd _ F _ = H2
    have SH2 := newS eH2 hF
    have oF := newO eH2
    rw [hl0, rg_iN] at oF
    try walk_at "go"
    intro E hE
    generalize eH3 : upd _ E _ = H3
    have SH3 := newS eH3 hE
    have oE := newO eH3
    have oD3 := SH3 _ _ (SH2 _ _ oD)
    have oF3 : H3 F = some (.tup ((kN (List.range S)).map kV)) := by rw [kN_kV]; exact SH3 _ _ oF
    try walk_at "go"
    generalize eH4 : upd H3 D (HO.dT [(kN (List.range S), .ref E)]) = H4
    have BH4 : But D H3 H4 := eH4 ▸ But.upd
    have oH4 : H4 D = some (HO.dT [(kN (List.range S), .ref E)]) := eH4 ▸ upd_same
    have S4 : Same H H4 := but_same hD (SH1.trans (SH2.trans SH3)) BH4
    have nED : E ≠ D := fun z => by rw [z, SH2 _ _ oD] at hE; cases hE
    have oE4 : H4 E = some (.tup []) := BH4 _ _ nED oE
    have rdD : Rd H4 D (.dT ((fq [((List.range S, []), E)]).map fun x => (kN x.1, V.ref x.2))) := .inl oH4
    try walk_at "go"
    intro L bs hLn0 hkeys
    obtain ⟨ls0, rfl, e2, hr0⟩ := keys_rows2 (fs := fq [((List.range S, []), E)]) hkeys
    rw [List.map_map]
    generalize eH5 : upd H4 L (HO.lst (ls0.map (V.ref ∘ fun x => x.1))) = H5
    have SH5 := newS eH5 hLn0
    have oL : H5 L = some (.lst (ls0.map fun x => V.ref x.1)) := newO eH5
    clear eH5
    have hLn : H L = none := none_back S4 hLn0
    try walk_at "go"
    refine ⟨GrW S (gr rs) T D H, ⟨_, [((List.range S, []), E)], ls0, L, 0, _, _, _, _, rfl, S4.trans SH5, ⟨SH5 _ _ oH4, fun x hx => ?_⟩, rfl, by show 1 ≤ 60; decide, oL, hr0.same SH5, e2, Nat.zero_le _, fun k h => absurd h (Nat.not_lt_zero _), rfl, hLn⟩, ?_⟩
    · cases List.mem_singleton.mp hx
      exact SH5 _ _ oE4
    rintro m σ H6 ⟨fs, ls, L, n, w3, w4, w5, w6, rfl, S6, F6, eF, f60, hL6, hR6, els, nf, bel, rfl, hLn⟩
    try walk_at "go"
    intro Z hZ
    generalize eH7 : upd _ Z _ = H7
    have SH7 := newS eH7 hZ
    have oZ := newO eH7
    have F7 := F6.same SH7
    have F7t := F7.top
    have hL7 := SH7 _ _ hL6
    have dL : Dp K H7 (.ref L) (lsD ls) := lsD_dp hL7 (hR6.same SH7)
    have shL : SeqAt.shaped (lsD ls) = true := lsD_ly.sh
    have lenF : fs.length = (gp S (gr rs) n).length := by rw [← eF, fpf_len]
    have lenL : ls.length = fs.length - n := by rw [← List.length_map (f := fun x : Addr × List Nat => x.2), els, List.length_drop, kf_len, lenF]
    try walk_at "go"
    by_cases hne : ls = []
    · have e0 : (!PyData.eqv (lsD ls) (.list [])) = false := by subst hne; rfl
      refine ifF e0 ?_
      try walk_at "go"
      have : n = fs.length := by rw [hne] at lenL; have z : ([] : List (Addr × List Nat)).length = 0 := rfl; omega
      exact q D fs n H7 (S6.trans SH7) hD F7 eF ⟨by omega, bel⟩ f60
    have e1 : (!PyData.eqv (lsD ls) (.list [])) = true := by
      cases ls with
      | nil => exact absurd rfl hne
      | cons a b => rfl
    refine ifT e1 ?_
    obtain ⟨⟨a, d⟩, ls', rfl⟩ : ∃ x l', ls = x :: l' := by
      cases ls with
      | nil => exact absurd rfl hne
      | cons a b => exact ⟨a, b, rfl⟩
    have ll' : ((a, d) :: ls').length = ls'.length + 1 := rfl
    have nlt : n < (gp S (gr rs) n).length := by omega
    obtain ⟨w, ew⟩ : ∃ w, (gp S (gr rs) n)[n]? = some (d, w) := by
      have e3 : ((kf (gp S (gr rs) n)).drop n)[0]? = some d := by rw [← els] <;> rfl
      rw [List.getElem?_drop, Nat.add_zero] at e3
      unfold kf at e3
      rw [List.getElem?_map] at e3
      obtain ⟨⟨d', w'⟩, h1, h2⟩ := Option.map_eq_some_iff.mp e3
      have : d' = d := h2
      subst this
      exact ⟨w', h1⟩
    have dwm := List.mem_of_getElem? ew
    have gq0 := gp_gq (S := S) (M := gr rs) n
    have dkf : d ∈ kf (gp S (gr rs) n) := List.mem_map.mpr ⟨_, dwm, rfl⟩
    have dd : Dt S d := (gq0.rc d dkf).dt dts
    have hdl := dd.1
    refine ⟨fun σ' H' => Kept (∃ m', m' < 61 - n ∧ GrW S (gr rs) T D H m' σ' H'), fun _ _ h => h.ex, ?_⟩
    have nDL : D ≠ L := ne_of F7t hL7 (by intro z; cases z)
    have hsx : seqIndex? (0 : Int) (((a, d) :: ls').map fun x => V.ref x.1).length = some 0 := (ixN_seq (ixn (n := (((a, d) :: ls').map fun x => V.ref x.1).length) (j := 0) (by rw [List.length_map]; omega))).1
    have hxe : (((a, d) :: ls').map fun x => V.ref x.1)[0]? = some (.ref a) := rfl
    try walk_at "go"
    generalize eH8 : upd H7 L (HO.lst ((((a, d) :: ls').map fun x => V.ref x.1).eraseIdx 0)) = H8
    have BH8 : But L H7 H8 := eH8 ▸ But.upd
    have oH8 : H8 L = some (HO.lst ((((a, d) :: ls').map fun x => V.ref x.1).eraseIdx 0)) := eH8 ▸ upd_same
    have oL8 : H8 L = some (.lst (ls'.map fun x => V.ref x.1)) := oH8
    have tk8 : ∀ t xs, H7 t = some (.tup xs) → H8 t = some (.tup xs) := fun t xs z => BH8 _ _ (ne_of z hL7 (by intro z; cases z)) z
    have S8 : Same H H8 := fun b o z => BH8 _ _ (ne_of_none z hLn) (SH7 _ _ (S6 _ _ z))
    have F8 : FpAt H8 D fs := ⟨BH8 _ _ nDL F7t, fun x hx => tk8 _ _ (F7.wd x hx)⟩
    have hR8 : RsAt H8 ls' := fun x hx => tk8 _ _ (SH7 _ _ (hR6 x (List.mem_cons_of_mem _ hx)))
    have had8 : H8 a = some (.tup ((iN d).map V.int)) := tk8 _ _ (SH7 _ _ (hR6 (a, d) List.mem_cons_self))
    have els8 : ls'.map (fun x => x.2) = (kf (gp S (gr rs) n)).drop (n + 1) := by
      have : ((a, d) :: ls').map (fun x => x.2) = d :: ls'.map (fun x => x.2) := rfl
      rw [this] at els
      rw [← List.drop_drop, ← els] <;> rfl
    have hT8 := S8 _ _ hT
    try walk_at "go"
    refine for_enumT (K := K) (a := T) (xs := rs.map fun x => V.ref x.1) (fun j σ H' => Kept (∃ fs' ls' w4 w5 w6, σ = [some (.ref T), some (.ref D), some (.ref L), some (.ref a), w4, w5, w6] ∧ Same H H' ∧ FpAt H' D fs' ∧ fpf fs' = apn (gr rs) d w j (gp S (gr rs) n) ∧ fs'.length ≤ 60 ∧ H' L = some (.lst (ls'.map fun x : Addr × List Nat => V.ref x.1)) ∧ RsAt H' ls' ∧ ls'.map (fun x => x.2) = (kf (apn (gr rs) d w j (gp S (gr rs) n))).drop (n + 1) ∧ H' a = some (.tup ((iN d).map V.int)))) ⟨fs, ls', _, _, _, rfl, S8, F8, eF, f60, oL8, hR8, els8, had8⟩ (fun j σ H' _ h => by obtain ⟨_, _, _, _, _, _, S, _⟩ := h.ex; exact SqT.of (S _ _ hT)) ?_ ?_
    · rintro j y P σ H9 hy ⟨fs', ls'', w4, w5, w6, rfl, S9, F9, eF9, f9, hL9, hR9, els9, had9⟩ hP
      rw [List.getElem?_map] at hy
      obtain ⟨⟨b, m⟩, hb, rfl⟩ := Option.map_eq_some_iff.mp hy
      have hjr : j < rs.length := (List.getElem?_eq_some_iff.mp hb).1
      have hm : (gr rs).getD j [] = m := by
        have := gr_at (rs := rs) hjr
        rw [this, (List.getElem?_eq_some_iff.mp hb).2]
      obtain ⟨g1, g2, g3⟩ := g.rows _ (List.mem_of_getElem? hb)
      generalize eH10 : upd _ P (HO.tup [.int (j : Nat), .ref b]) = H10
      have SH10 := newS eH10 hP
      have oP := newO eH10
      have hb10 := SH10 _ _ (S9 _ _ g1)
      have ha10 := SH10 _ _ had9
      have hbel : Bel d m.length := by rw [g2]; exact dd.2
      have hd100 : d.length ≤ 100 := by omega
      try walk_at "go"
      intro U H11 S11 hUn hU
      have F11 := (F9.same SH10).same S11
      have F11t := F11.top
      have S911 := SH10.trans S11
      have gqj := gq0.apn dwm j (by omega)
      have gqj1 := gq0.apn dwm (j + 1) (by omega)
      have nxt : apn (gr rs) d w (j + 1) (gp S (gr rs) n) = ap1 (apn (gr rs) d w j (gp S (gr rs) n)) (thn d m, w ++ [j]) := by rw [← hm] <;> rfl
      have dwj : (d, w) ∈ apn (gr rs) d w j (gp S (gr rs) n) := (apn_pre j _).subset dwm
      have lp := (apn_pre (M := gr rs) (d := d) (w := w) j (gp S (gr rs) n)).length_le
      generalize apn (gr rs) d w j (gp S (gr rs) n) = F at eF9 els9 gqj nxt dwj lp
      have hUk : H11 U = some (.tup ((kN (thn d m)).map kV)) := by rw [kN_kV]; exact hU
      have gU := DGet.t F11t hUk
      have lenF9 : fs'.length = F.length := by rw [← eF9, fpf_len]
      by_cases cin : thn d m ∈ kf F
      · have cin2 : thn d m ∈ ks (fq fs') := by rw [fq_ks, eF9]; exact cin
        obtain ⟨x, _, _, e2⟩ := fd_some cin2
        rw [e2] at gU
        have e3 : ap1 F (thn d m, w ++ [j]) = F := by unfold ap1; rw [if_pos cin]
        rw [e3] at nxt
        try walk_at "go"
        refine ifF rfl ?_
        exact ⟨⟨fs', ls'', _, _, _, rfl, S9.trans S911, F11, by rw [nxt]; exact eF9, f9, S911 _ _ hL9, hR9.same S911, by rw [nxt]; exact els9, S911 _ _ had9⟩⟩
      · have cin2 : thn d m ∉ ks (fq fs') := by rw [fq_ks, eF9]; exact cin
        rw [fd_none cin2] at gU
        have e3 : ap1 F (thn d m, w ++ [j]) = F ++ [(thn d m, w ++ [j])] := by unfold ap1; rw [if_neg cin]
        rw [e3] at nxt
        by_cases c60 : fs'.length + 1 ≤ 60
        · have c61 : (F ++ [(thn d m, w ++ [j])]).length ≤ 60 := by rw [List.length_append, ← lenF9]; exact c60
          have dk : d ∈ ks (fq fs') := by rw [fq_ks, eF9]; exact List.mem_map.mpr ⟨_, dwj, rfl⟩
          obtain ⟨x0, hx0, e0, ev⟩ := fd_some dk
          obtain ⟨y0, hy0, ey0⟩ := List.mem_map.mp hx0
          have hw := F11.wd y0 hy0
          have ew0 : y0.1.2 = w := by
            refine kf_uniq (F := F) (d := d) gqj.nd ?_ dwj
            rw [← eF9]
            refine List.mem_map.mpr ⟨y0, hy0, ?_⟩
            have : y0.1.1 = d := by rw [← e0, ← ey0]
            rw [← this]
          rw [ew0, show y0.2 = x0.2 by rw [← ey0]] at hw
          have hak : H11 a = some (.tup ((kN d).map kV)) := by rw [kN_kV]; exact S911 _ _ had9
          have gd := DGet.t F11t hak
          rw [ev] at gd
          have wlen : w.length < 60 := by have := gqj.wl _ dwj; have e5 : (d, w).2.length = w.length := rfl; omega
          have n60 : decide (V.int (((fq fs').map fun x => (kN x.1, V.ref x.2)).length : Nat) = V.int 60) = false := decide_eq_false fun z => by
            have := V.int.inj z
            rw [List.length_map, fq_len] at this
            omega
          try walk_at "go"
          refine ifF n60 ?_
          try walk_at "go"
          intro N hN
          generalize eH12 : upd _ N _ = H12
          have SH12 := newS eH12 hN
          have oN := newO eH12
          have hw12 := SH12 _ _ hw
          have hcat : ((iN w).map V.int).length + [V.int (j : Nat)].length ≤ sizeLine := small (by rw [iN_len]; show w.length + 1 ≤ 1000; omega)
          try walk_at "go"
          intro W H13 S13 hW
          rw [iN_snoc] at hW
          have S1113 := SH12.trans S13
          have F13 := F11.same S1113
          have F13t := F13.top
          have hUk13 := S1113 _ _ hUk
          have put := DPut.t (v := .ref W) F13t hUk13 (small1000 (by rw [List.length_map, fq_len]; omega))
          rw [putK_new _ (fd_none cin2)] at put
          have hL13 := S1113 _ _ (S911 _ _ hL9)
          have ul : (ls''.map fun x => V.ref x.1).length ≤ 100 := by
            have e7 := congrArg List.length els9
            rw [List.length_map, List.length_drop, kf_len] at e7
            rw [List.length_map]
            omega
          try walk_at "go"
          generalize eH14 : upd H13 D (HO.dT (((fq fs').map fun x => (kN x.1, V.ref x.2)) ++ [(kN (thn d m), .ref W)])) = H14
          have BH14 : But D H13 H14 := eH14 ▸ But.upd
          have oH14 : H14 D = some (HO.dT (((fq fs').map fun x => (kN x.1, V.ref x.2)) ++ [(kN (thn d m), .ref W)])) := eH14 ▸ upd_same
          have hL14 := BH14 _ _ (Ne.symm nDL) hL13
          try walk_at "go"
          generalize eH15 : upd H14 L (HO.lst (ls''.map (fun x => V.ref x.1) ++ [.ref U])) = H15
          have BH15 : But L H14 H15 := eH15 ▸ But.upd
          have oH15 : H15 L = some (HO.lst (ls''.map (fun x => V.ref x.1) ++ [.ref U])) := eH15 ▸ upd_same
          have tk : ∀ t xs, H13 t = some (.tup xs) → H15 t = some (.tup xs) := fun t xs z => by
            have z2 := BH14 _ _ (ne_of z F13t (by intro z; cases z)) z
            exact BH15 _ _ (ne_of z2 hL14 (by intro z; cases z)) z2
          have S1313 : Same H H13 := S9.trans (S911.trans S1113)
          refine ⟨⟨fs' ++ [((thn d m, w ++ [j]), W)], ls'' ++ [(U, thn d m)], _, _, _, rfl, fun b o z => ?_, ⟨?_, fun x hx => ?_⟩, by rw [nxt, fpf_snoc, eF9], by rw [List.length_append]; exact c60, by rw [oH15, List.map_append] <;> rfl, fun x hx => ?_, ?_, tk _ _ (S1113 _ _ (S911 _ _ had9))⟩⟩
          · exact BH15 _ _ (ne_of_none z hLn) (BH14 _ _ (ne_of_none z hD) (S1313 _ _ z))
          · rw [BH15 _ _ nDL oH14]
            unfold fq
            rw [List.map_append, List.map_append] <;> rfl
          · rcases List.mem_append.mp hx with z | z
            · exact tk _ _ (F13.wd x z)
            · cases List.mem_singleton.mp z
              exact tk _ _ hW
          · rcases List.mem_append.mp hx with z | z
            · exact tk _ _ (S1113 _ _ (S911 _ _ (hR9 x z)))
            · cases List.mem_singleton.mp z
              exact tk _ _ (S1113 _ _ hU)
          · rw [nxt, kf_snoc, List.map_append, els9, List.drop_append_of_le_length (by rw [kf_len]; omega)] <;> rfl
        · have n60 : decide (V.int (((fq fs').map fun x => (kN x.1, V.ref x.2)).length : Nat) = V.int 60) = true := decide_eq_true (by
            rw [List.length_map, fq_len]
            exact congrArg V.int (by omega))
          try walk_at "go"
          refine ifT n60 ?_
          try walk_at "go"
          have g2 := gqj1
          rw [nxt] at g2
          exact qe _ g2.nd g2.rc (by rw [kf_len, List.length_append]; show 60 < F.length + 1; omega) _ (S9.trans S911)
    · rintro σ H9 ⟨fs', ls'', w4, w5, w6, rfl, S9, F9, eF9, f9, hL9, hR9, els9, had9⟩
      rw [List.length_map, ← ml, ← gp_next ew] at eF9 els9
      have l9 : fs'.length = (gp S (gr rs) (n + 1)).length := by rw [← eF9, fpf_len]
      have pl := (gp_pre1 (S := S) (M := gr rs) n).length_le
      refine ⟨⟨_, ?_, fs', ls'', L, n + 1, _, _, _, _, rfl, S9, F9, eF9, f9, hL9, hR9, els9, by omega, fun k hk => ?_, rfl, hLn⟩⟩
      · omega
      · rcases Nat.lt_or_ge k n with c | c
        · exact bel k c
        · obtain rfl : k = n := by omega
          exact nlt
/-- a family, told -/
structure FaAt (S : Nat) (M : List (List Nat)) (H : Hp) (T : Addr) (ls : List (Addr × List Nat)) (n : Nat) : Prop where
  top : H T = some (.tup (ls.map fun x => V.ref x.1))
  rs : RsAt H ls
  eq : ls.map (fun x => x.2) = kf (gp S M n)
  fin : Fin' S M n
  n60 : ls.length ≤ 60
omit B in
theorem FaAt.same {S : Nat} {M : List (List Nat)} {H H' : Hp} {T : Addr} {ls : List (Addr × List Nat)} {n : Nat} (a : FaAt S M H T ls n) (e : Same H H') : FaAt S M H' T ls n := ⟨e _ _ a.top, a.rs.same e, a.eq, a.fin, a.n60⟩
omit B in
theorem FaAt.keep {S : Nat} {M : List (List Nat)} {H H' : Hp} {T : Addr} {ls : List (Addr × List Nat)} {n : Nat} (a : FaAt S M H T ls n) (e : ∀ t xs, H t = some (.tup xs) → H' t = some (.tup xs)) : FaAt S M H' T ls n := ⟨e _ _ a.top, fun x hx => e _ _ (a.rs x hx), a.eq, a.fin, a.n60⟩
omit B in
theorem FaAt.fam {S : Nat} {M : List (List Nat)} {H : Hp} {T : Addr} {ls : List (Addr × List Nat)} {n : Nat} (a : FaAt S M H T ls n) : Fam S M (gr ls) := by
  have : gr ls = kf (gp S M n) := a.eq
  rw [this]
  exact a.fin.fam
omit B in
theorem FaAt.grid {S : Nat} {M : List (List Nat)} {H : Hp} {T : Addr} {ls : List (Addr × List Nat)} {n : Nat} (a : FaAt S M H T ls n) (hM : ∀ m ∈ M, Dt S m) : GridAt H T ls S S := ⟨a.top, fun x hx => ⟨a.rs x hx, (a.fam.rch _ (List.mem_map.mpr ⟨x, hx, rfl⟩)).dt hM⟩⟩
omit B in
theorem FaAt.n1 {S : Nat} {M : List (List Nat)} {H : Hp} {T : Addr} {ls : List (Addr × List Nat)} {n : Nat} (a : FaAt S M H T ls n) : 1 ≤ ls.length := by
  have := List.length_pos_of_mem a.fam.one
  unfold gr at this
  rwa [List.length_map] at this
def spFamilyE (K : PySem.W.Frag) (C M : Addr) : Sp := fun vs H Q E => ∃ (v : V) (d : PyData) (p : Addr), vs = [v] ∧ Th K p H v d ∧ nsz d ≤ 1000000 ∧ (isFa 4 d = true → ∀ T rs S U ls n H', v = .ref T → GridAt H T rs S S → 1 ≤ S → S ≤ 5 → Same H H' → FaAt S (gr rs) H' U ls n → Q (.ref U) H') ∧ (isFa 4 d = true → ∀ (T : Addr) (rs : List (Addr × List Nat)) (S : Nat) (ks : List (List Nat)), v = .ref T → GridAt H T rs S S → ks.Nodup → (∀ d ∈ ks, Rch S (gr rs) d) → 60 < ks.length → ∀ H', Same H H' → E (.ref M) none H') ∧ (isFa 4 d = false → ∀ H', Same H H' → E (.ref C) none H')
theorem k_family (D : Df K mg "family" s_family ["deeds"]) (D_want_makers : Dx P w K mg base 5 "want_makers" ["deeds"] (spWMk K (cAt mg "NoTable"))) (D_grown : Dx P w K mg base 2 "grown" ["deeds"] (spGrownE K (cAt mg "TooMany"))) : Dx P w K mg base 7 "family" ["deeds"] (spFamilyE K (cAt mg "NoTable") (cAt mg "TooMany")) := by
  refine D.okX fun f fd F => okGX F sc_family (fun vs H Q E h => ?_) (fun cdv A outer s H vs Q E hr h => ⟨_, (pss_cons (ps_expr (pe_cW D_want_makers (hr.less (by decide)) (takes_of rfl rfl rfl rfl) rfl (pa_cons (pv 0) pa_nil)))
    (pss_one (ps_ret (pe_callTy (call_tup_dT rfl) (by rfl) B.tuple_ (by decide +kernel) (pa_cons (pe_cW D_grown (hr.less (by decide)) (takes_of rfl rfl rfl rfl) rfl (pa_cons (pv 0) pa_nil)) pa_nil))))), ?_⟩)
  · obtain ⟨v, d, p, rfl, _⟩ := h; rfl
  · obtain ⟨v, d, p, rfl, hd, hz, q1, q2, q3⟩ := h
    try walk_at "go"
    refine ⟨fun e H1 S1 => ?_, fun e => q3 e⟩
    obtain ⟨T, rs, S, rfl, g, r1, r4, s1, s5, _, _⟩ := fa_of hd e
    have g1 := g.same S1
    try walk_at "go"
    refine ⟨fun ks k1 k2 k3 H2 S2 => q2 e T rs S ks rfl g k1 k2 k3 _ (S1.trans S2), ?_⟩
    intro D fs n H2 S2 hDn F2 eF fin f60
    have F2t := F2.top
    try walk_at "go"
    intro U bs hU hkeys
    obtain ⟨ls0, rfl, e2, hr0⟩ := keys_rows2 hkeys
    rw [List.map_map]
    generalize eH3 : upd H2 U (HO.tup (ls0.map (V.ref ∘ fun x => x.1))) = H3
    have SH3 := newS eH3 hU
    have oU : H3 U = some (.tup (ls0.map fun x => V.ref x.1)) := newO eH3
    clear eH3
    have e3 : ls0.map (fun x => x.2) = kf (gp S (gr rs) n) := by rw [e2, fq_ks, eF]
    exact q1 e T rs S U ls0 n H3 rfl g s1 s5 (S1.trans (S2.trans SH3)) ⟨oU, hr0.same SH3, e3, fin, by rw [← List.length_map (f := fun x : Addr × List Nat => x.2), e2, ks_len, fq_len]; exact f60⟩
def spOwnE (K : PySem.W.Frag) (C M : Addr) : Sp := fun vs H Q E => ∃ (v : V) (d : PyData) (p : Addr), vs = [v] ∧ Th K p H v d ∧ nsz d ≤ 1000000 ∧ (isFa 4 d = true → ∀ x H', Same H H' → Q x H') ∧ (isFa 4 d = true → ∀ H', Same H H' → E (.ref M) none H') ∧ (isFa 4 d = false → ∀ H', Same H H' → E (.ref C) none H')
theorem k_own_table (D : Df K mg "own_table" s_own_table ["deeds"]) (D_family : Dx P w K mg base 7 "family" ["deeds"] (spFamilyE K (cAt mg "NoTable") (cAt mg "TooMany"))) (D_one_then : Dn P w K mg base 1 "one_then" ["one", "other"] spThen6) : Dx P w K mg base 8 "own_table" ["deeds"] (spOwnE K (cAt mg "NoTable") (cAt mg "TooMany")) := by
  refine D.okX fun f fd F => okGX F sc_own_table (fun vs H Q E h => ?_) (fun cdv A outer s H vs Q E hr h => ⟨_, (pss_cons (ps_set (i := 1) sc_own_table.nd rfl (Or.inr rfl) (pe_cW D_family (hr.less (by decide)) (takes_of rfl rfl rfl rfl) rfl (pa_cons (pv 0) pa_nil)))
    (pss_cons (ps_set (i := 2) sc_own_table.nd rfl (Or.inr rfl) (pe_callTy (call_dictPT rfl hr.u2) (by rfl) B.dict_ (by decide +kernel) (pa_cons (pe_lc (own := [("number", 3), ("deed", 4)]) (tt := tYes) rfl sc_own_table.nd (kk (K := K) (F := fun K => iEnumT K _) (P := PI _ _ _) (pi_enumT (by rfl) B.enumerate_ (pa_cons (pv 1) pa_nil))) (blkOk_by (own := [("number", 3), ("deed", 4)]) (N := ["deeds", "some", "number_of", "number", "deed", "one", "other"]) (sc := defScope s_own_table) (by decide +kernel)) (fun _ _ _ _ _ => (kk (K := K) (F := fun K => gTup K 2 _) (P := PG _ _) (pg_tup rfl (pgs_cons (pg_name (i := 3) sc_own_table.nd rfl (Or.inl rfl)) (pgs_cons (pg_name (i := 4) sc_own_table.nd rfl (Or.inl rfl)) pgs_nil))))) (fun _ _ _ _ _ => pts_nil) (fun _ _ _ _ _ => (pe_tup (pa_cons (pv 4) (pa_cons (pv 3) pa_nil))))) pa_nil)))
    (pss_one (ps_ret (pe_callTy (tupOfK (K := K)) (by rfl) B.tuple_ (by decide +kernel) (pa_cons (pe_lc (own := [("one", 5)]) (g := gName 5) (tt := tYes) rfl sc_own_table.nd (kk (K := K) (F := fun K => iTup K _) (P := PI _ _ _) (pi_tup (pv 1))) (blkOk_by (own := [("one", 5)]) (N := ["deeds", "some", "number_of", "number", "deed", "one", "other"]) (sc := defScope s_own_table) (by decide +kernel)) (fun _ _ _ _ _ => (pg_name (i := 5) sc_own_table.nd rfl (Or.inr rfl))) (fun _ _ _ _ _ => pts_nil) (fun _ _ _ _ _ => (pe_callTy (tupOfK (K := K)) (by rfl) B.tuple_ (by decide +kernel) (pa_cons (pe_lc (own := [("other", 6)]) (g := gName 6) (tt := tYes) rfl sc_own_table.nd (kk (K := K) (F := fun K => iTup K _) (P := PI _ _ _) (pi_tup (pv 1))) (blkOk_nest (own := [("other", 6)]) (N := ["deeds", "some", "number_of", "number", "deed", "one", "other"]) rfl (by decide +kernel)) (fun _ _ _ _ _ => (pg_name (i := 6) sc_own_table.nd rfl (Or.inl rfl))) (fun _ _ _ _ _ => pts_nil) (fun _ _ _ _ _ => (pe_dget hr.u1 (pv 2) (pe_cD D_one_then (hr.less (by decide)) rfl (pa_cons (pv 5) (pa_cons (pv 6) pa_nil))) (fun _ _ => rfl)))) pa_nil)))) pa_nil)))))), ?_⟩)
  · obtain ⟨v, d, p, rfl, _⟩ := h; rfl
  · obtain ⟨v, d, p, rfl, hd, hz, q1, q2, q3⟩ := h
    try walk_at "go"
    refine ⟨fun e T rs S A ls n H1 ev g s1 s5 S1 F1 => ?_, fun e _ _ _ _ _ _ _ _ _ => q2 e, fun e => q3 e⟩
    subst ev
    have len : ls.length = (gp S (gr rs) n).length := by rw [← kf_len, ← F1.eq, List.length_map]
    have n60 := F1.n60
    have fam := F1.fam
    have hA := F1.top
    have hr := F1.rs
    have mem : ∀ x ∈ ls, x.2 ∈ gr ls := fun x hx => List.mem_map.mpr ⟨x, hx, rfl⟩
    have dts : ∀ x ∈ ls, Dt S x.2 := fun x hx => (fam.rch _ (mem x hx)).dt g.dts
    have ll : (ls.map fun x => V.ref x.1).length = ls.length := List.length_map _
    try walk_at "go"
    intro E hE
    refine lc_it (I := IteT K A) (n := ls.length) (fun i H' => Kept (∃ ps : List Addr, Same H1 H' ∧ H' E = some (.lst (ps.map V.ref)) ∧ ps.length = i ∧ ∀ (j : Nat) (t : Addr) (x : Addr × List Nat), ps[j]? = some t → ls[j]? = some x → H' t = some (.tup [.ref x.1, .int (j : Nat)]))) ⟨[], same_new hE _, upd_same, rfl, fun j t x h => by simp at h⟩ ?_ ?_ ?_ ?_
    · rintro i H8 hi ⟨ps, S8, _⟩
      exact ⟨_, _, SqT.of (S8 _ _ hA), by rw [List.getElem?_map, List.getElem?_eq_getElem hi] <;> rfl⟩
    · rintro H8 ⟨ps, S8, _⟩
      exact ⟨_, SqT.of (S8 _ _ hA), by rw [List.length_map]⟩
    · rintro i v H8 H8' hi ⟨ps, S8, hE8, hl8, hp8⟩ ⟨P, x0, rfl, hP, rfl, hv⟩
      have hv := hv _ (SqT.of (S8 _ _ hA))
      rw [List.getElem?_map] at hv
      obtain ⟨x, hx, rfl⟩ := Option.map_eq_some_iff.mp hv
      have ul : (ps.map V.ref).length ≤ 60 := by rw [List.length_map]; omega
      generalize eH9 : upd _ P (HO.tup [.int (i : Nat), .ref x.1]) = H9
      have SH9 := newS eH9 hP
      have oP := newO eH9
      try walk_at "go"
      intro R hR
      generalize eH10 : upd _ R _ = H10
      have SH10 := newS eH10 hR
      have oR := newO eH10
      have S10 := SH9.trans SH10
      have hE10 := S10 _ _ hE8
      try walk_at "go"
      refine ⟨⟨ps ++ [R], but_same hE (S8.trans S10) But.upd, by rw [upd_same, List.map_append] <;> rfl, by rw [List.length_append, hl8] <;> rfl, fun j t y h1 h2 => ?_⟩⟩
      have tk : ∀ t xs, H10 t = some (.tup xs) → upd H10 E (.lst (ps.map V.ref ++ [.ref R])) t = some (.tup xs) := fun t xs z => by rw [upd_ne (ne_of z hE10 (by intro z; cases z))]; exact z
      by_cases c : j < ps.length
      · rw [List.getElem?_append_left c] at h1
        exact tk _ _ (S10 _ _ (hp8 j t y h1 h2))
      · rw [List.getElem?_append_right (by omega)] at h1
        have : j = i := by
          have h3 := (List.getElem?_eq_some_iff.mp h1).1
          have h5 : [R].length = 1 := rfl
          omega
        subst this
        rw [hl8, Nat.sub_self] at h1
        cases (Option.some.inj h1)
        rw [hx] at h2
        cases (Option.some.inj h2)
        exact tk _ _ oR
    rintro H8 ⟨ps, S8, hE8, hl8, hp8⟩
    have hr8 := hr.same S8
    have rdt : RowsDT H8 ps (nrows ls) := by
      refine ⟨by rw [hl8, nrows_len], fun j t y h1 h2 => ?_⟩
      obtain ⟨x, hx, rfl⟩ := nrows_at h2
      exact ⟨hp8 j t x h1 hx, by show H8 x.1 = some (.tup ((kN x.2).map kV)); rw [kN_kV]; exact hr8 x (List.mem_of_getElem? hx)⟩
    try walk_at "go"
    intro DD hDD
    generalize eH9 : upd _ DD _ = H9
    have SH9 := newS eH9 hDD
    have oDD := newO eH9
    have S19 := S8.trans SH9
    have hA9 := S19 _ _ hA
    have hr9 := hr.same S19
    try walk_at "go"
    intro E2 hE2
    refine lc_tup (K := K) (a := A) (xs := ls.map fun x => V.ref x.1) (fun i H' => Kept (∃ rs3 : List (Addr × List Nat), Same H9 H' ∧ H' E2 = some (.lst (rs3.map fun x => V.ref x.1)) ∧ rs3.length = i ∧ RsAt H' rs3 ∧ (∀ x ∈ rs3, Dt ls.length x.2) ∧ ∀ i' j, i' < i → j < ls.length → (gr ls).getD (((gr rs3).getD i' []).getD j 0) [] = thn ((gr ls).getD i' []) ((gr ls).getD j []))) ⟨[], same_new hE2 _, upd_same, rfl, fun x hx => absurd hx List.not_mem_nil, fun x hx => absurd hx List.not_mem_nil, fun i' j h => absurd h (Nat.not_lt_zero _)⟩ (fun i H' _ h => by obtain ⟨_, S, _⟩ := h.ex; exact SqT.of (S _ _ hA9)) ?_ ?_
    · rintro i v H10 hv ⟨rs3, S10, hE10, hl10, hr10, hd10, ho10⟩
      rw [List.getElem?_map] at hv
      obtain ⟨⟨a, d⟩, ha, rfl⟩ := Option.map_eq_some_iff.mp hv
      have hi : i < ls.length := (List.getElem?_eq_some_iff.mp ha).1
      have gi : (gr ls).getD i [] = d := by rw [gr_at hi, (List.getElem?_eq_some_iff.mp ha).2]
      have aM := List.mem_of_getElem? ha
      have dd := dts _ aM
      have ul : (rs3.map fun x => V.ref x.1).length ≤ 60 := by rw [List.length_map]; omega
      have hA10 := S10 _ _ hA9
      try walk_at "go"
      intro G hG
      refine lc_tup (K := K) (a := A) (xs := ls.map fun x => V.ref x.1) (fun j H' => Kept (∃ w : List Nat, Same H10 H' ∧ H' G = some (.lst ((iN w).map V.int)) ∧ w.length = j ∧ Bel w ls.length ∧ ∀ j', j' < j → (gr ls).getD (w.getD j' 0) [] = thn d ((gr ls).getD j' []))) ⟨[], same_new hG _, upd_same, rfl, fun x hx => absurd hx List.not_mem_nil, fun j' h => absurd h (Nat.not_lt_zero _)⟩ (fun j H' _ h => by obtain ⟨_, S, _⟩ := h.ex; exact SqT.of (S _ _ hA10)) ?_ ?_
      · rintro j v2 H11 hv2 ⟨w, S11, hG11, hl11, hb11, ho11⟩
        rw [List.getElem?_map] at hv2
        obtain ⟨⟨b, e⟩, hb, rfl⟩ := Option.map_eq_some_iff.mp hv2
        have hj : j < ls.length := (List.getElem?_eq_some_iff.mp hb).1
        have gj : (gr ls).getD j [] = e := by rw [gr_at hj, (List.getElem?_eq_some_iff.mp hb).2]
        have bM := List.mem_of_getElem? hb
        have de := dts _ bM
        have S911 := S10.trans S11
        have ha11 := S911 _ _ (hr9 _ aM)
        have hb11' := S911 _ _ (hr9 _ bM)
        have oDD11 := S911 _ _ oDD
        have bl : Bel d e.length := by rw [de.1]; exact dd.2
        have l100 : d.length ≤ 100 := by rw [dd.1]; omega
        have ul : ((iN w).map V.int).length ≤ 60 := by rw [iN_len]; omega
        try walk_at "go"
        intro U H12 S12 hUn hU
        have hUk : H12 U = some (.tup ((kN (thn d e)).map kV)) := by rw [kN_kV]; exact hU
        have gd := DGet.t (S12 _ _ oDD11) hUk
        obtain ⟨k, x, hk, ek, ev⟩ := nrows_val (ls := ls) (d := thn d e) (fam.mul g.dts (mem _ aM) (mem _ bM))
        rw [ev] at gd
        have hkl : k < ls.length := (List.getElem?_eq_some_iff.mp hk).1
        have hG12 := S12 _ _ hG11
        try walk_at "go"
        refine ⟨⟨w ++ [k], but_same hG (S11.trans S12) But.upd, by rw [upd_same, iN_snoc], by rw [List.length_append, hl11] <;> rfl, hb11.snoc hkl, fun j' hj' => ?_⟩⟩
        rcases Nat.lt_or_ge j' j with c | c
        · rw [getD_appO (by omega)]
          exact ho11 j' c
        · obtain rfl : j' = j := by omega
          rw [getD_last hl11.symm, gj, gr_at hkl, (List.getElem?_eq_some_iff.mp hk).2, ek]
      · rintro H11 ⟨w, S11, hG11, hl11, hb11, ho11⟩
        rw [ll] at hl11 ho11
        try walk_at "go"
        intro R hR
        generalize eH12 : upd _ R _ = H12
        have SH12 := newS eH12 hR
        have oR := newO eH12
        have S1012 := S11.trans SH12
        have hE12 := S1012 _ _ hE10
        try walk_at "go"
        have tk : ∀ t xs, H12 t = some (.tup xs) → upd H12 E2 (.lst ((rs3.map fun x => V.ref x.1) ++ [.ref R])) t = some (.tup xs) := fun t xs z => by rw [upd_ne (ne_of z hE12 (by intro z; cases z))]; exact z
        have grl : (gr rs3).length = i := by unfold gr; rw [List.length_map, hl10]
        refine ⟨⟨rs3 ++ [(R, w)], but_same hE2 (S10.trans S1012) But.upd, by rw [upd_same, List.map_append] <;> rfl, by rw [List.length_append, hl10] <;> rfl, fun x hx => ?_, fun x hx => ?_, fun i' j h1 h2 => ?_⟩⟩
        · rcases List.mem_append.mp hx with z | z
          · exact tk _ _ (S1012 _ _ (hr10 x z))
          · cases List.mem_singleton.mp z
            exact tk _ _ oR
        · rcases List.mem_append.mp hx with z | z
          · exact hd10 x z
          · cases List.mem_singleton.mp z
            exact ⟨hl11, hb11⟩
        · have eg : gr (rs3 ++ [(R, w)]) = gr rs3 ++ [w] := by unfold gr; rw [List.map_append] <;> rfl
          rcases Nat.lt_or_ge i' i with c | c
          · rw [eg, getD_appO (by omega)]
            exact ho10 i' j c h2
          · obtain rfl : i' = i := by omega
            rw [eg, getD_last grl.symm, gi]
            exact ho11 j h2
    rintro H10 ⟨rs3, S10, hE10, hl10, hr10, hd10, ho10⟩
    rw [ll] at hl10 ho10
    try walk_at "go"
    intro TT hTT
    generalize eH11 : upd _ TT _ = H11
    have SH11 := newS eH11 hTT
    have oTT := newO eH11
    exact q1 e _ H11 (S1.trans (S19.trans (S10.trans SH11)))
def spWordsE (K : PySem.W.Frag) (C M : Addr) : Sp := fun vs H Q E => ∃ (v : V) (d : PyData) (p : Addr), vs = [v] ∧ Th K p H v d ∧ nsz d ≤ 1000000 ∧ (isFa 4 d = true → ∀ x H', Same H H' → Q x H') ∧ (isFa 4 d = true → ∀ H', Same H H' → E (.ref M) none H') ∧ (isFa 4 d = false → ∀ H', Same H H' → E (.ref C) none H')
theorem k_words (D : Df K mg "words" s_words ["deeds"]) (D_want_makers : Dx P w K mg base 5 "want_makers" ["deeds"] (spWMk K (cAt mg "NoTable"))) (D_grown : Dx P w K mg base 2 "grown" ["deeds"] (spGrownE K (cAt mg "TooMany"))) : Dx P w K mg base 7 "words" ["deeds"] (spWordsE K (cAt mg "NoTable") (cAt mg "TooMany")) := by
  refine D.okX fun f fd F => okGX F sc_words (fun vs H Q E h => ?_) (fun cdv A outer s H vs Q E hr h => ⟨_, (pss_cons (ps_expr (pe_cW D_want_makers (hr.less (by decide)) (takes_of rfl rfl rfl rfl) rfl (pa_cons (pv 0) pa_nil)))
    (pss_one (ps_ret (pe_callTy (call_tup_vals rfl) (by rfl) B.tuple_ (by decide +kernel) (pa_cons (kk (K := K) (F := fun K => tBM0 K "dict" _ _) (P := PE _ _) (pe_bm0 PySem.F.plainAttrs_dict PySem.F.slot_dict_values PySem.F.type_dict_values mt_valT (pe_cW D_grown (hr.less (by decide)) (takes_of rfl rfl rfl rfl) rfl (pa_cons (pv 0) pa_nil)))) pa_nil))))), ?_⟩)
  · obtain ⟨v, d, p, rfl, _⟩ := h; rfl
  · obtain ⟨v, d, p, rfl, hd, hz, q1, q2, q3⟩ := h
    try walk_at "go"
    refine ⟨fun e H1 S1 => ?_, fun e => q3 e⟩
    obtain ⟨T, rs, S, rfl, g, r1, r4, s1, s5, _, _⟩ := fa_of hd e
    have g1 := g.same S1
    try walk_at "go"
    refine ⟨fun _ _ _ _ H2 S2 => q2 e _ (S1.trans S2), ?_⟩
    intro D fs n H2 S2 hDn F2 eF fin f60
    have F2t := F2.top
    have tyD : tyV K "dict" (.ref D) H2 := .inr (.inr (.inl ⟨rfl, .inr ⟨_, F2t⟩⟩))
    try walk_at "go"
    intro p hp
    generalize eH3 : upd H2 p (valsO p D) = H3
    have SH3 := newS eH3 hp
    have oP : H3 p = some (valsO p D) := newO eH3
    have F3t := SH3 _ _ F2t
    try walk_at "go"
    intro U hU
    generalize eH4 : upd _ U _ = H4
    have SH4 := newS eH4 hU
    have oU := newO eH4
    exact q1 e _ H4 (S1.trans (S2.trans (SH3.trans SH4)))
/-! SPLIT -/
def spFold6 (K : PySem.W.Frag) (n : Nat) : Sp := fun vs H Q _ => ∃ (T U : Addr) (rs : List (Addr × List Nat)) (N : Nat) (ns : List Nat) (v : V) (t : Tr) (f : Nat), vs = [.ref T, .ref U, v] ∧ GridAt H T rs N N ∧ rs.length = N ∧ H U = some (.tup ((iN ns).map V.int)) ∧ Bel ns N ∧ TrAt H v t ∧ IsRow t f ∧ f + t.cnt ≤ ns.length ∧ t.h ≤ n ∧ Q (.int ((fv (gr rs) ns t : Nat) : Int)) H
theorem fold_z (vs : List V) (H : Hp) (Q : VK) (E : XK) : ¬ spFold6 K 0 vs H Q E := by
  rintro ⟨T, U, rs, N, ns, v, t, f, _, _, _, _, _, _, _, _, h2, _⟩
  have := t.h_pos
  omega
theorem k_fold_rec (D : Df K mg "fold" s_fold ["table", "numbers", "tree"]) : ∀ n : Nat, Dn P w K mg base (1 + n) "fold" ["table", "numbers", "tree"] ((spFold6 K) n) := by
  intro n
  induction n with
  | zero => exact D.ok fun f fd F => ⟨fun vs H Q E h => (fold_z B vs H Q E h).elim, fun _ _ _ _ h => (fold_z B _ _ _ _ h).elim⟩
  | succ n D_fold =>
    refine D.ok fun f fd F => okG0 (k := 1 + n) F sc_fold (fun vs H Q E h => ?_) (fun cdv A outer s H vs Q E hr h => ⟨_, (pss_cons (ps_if (pt_not (pt_val (pe_callB (kk (K := K) (F := rIsi) (P := CallR _ _) call_isi) (by rfl) B.isinstance_ (by decide +kernel) (pa_cons (pv 2) (pa_cons (pe_bltn (v := .ty "tuple") (u := .type "tuple") (by rfl) B.tuple_ (by decide +kernel) rfl) pa_nil)))))
      (pss_one (ps_ret (pe_ix (kk (K := K) (F := rIxT) (P := IxR _) ix_tup) (pv 1) (pv 2) (fun _ _ => rfl))))
      pss_nil)
    (pss_one (ps_ret (pe_ix (kk (K := K) (F := rIxT) (P := IxR _) ix_tup) (pe_ix (kk (K := K) (F := rIxT) (P := IxR _) ix_tup) (pv 0) (pe_cD D_fold (hr.less (by omega)) rfl (pa_cons (pv 0) (pa_cons (pv 1) (pa_cons (pe_ix (kk (K := K) (F := rIxT) (P := IxR _) ix_tup) (pv 2) pe_int (fun _ _ => rfl)) pa_nil)))) (fun _ _ => rfl)) (pe_cD D_fold (hr.less (by omega)) rfl (pa_cons (pv 0) (pa_cons (pv 1) (pa_cons (pe_ix (kk (K := K) (F := rIxT) (P := IxR _) ix_tup) (pv 2) pe_int (fun _ _ => rfl)) pa_nil)))) (fun _ _ => rfl))))), ?_⟩)
    · obtain ⟨T, U, rs, N, ns, v, t, f, rfl, _⟩ := h; rfl
    · obtain ⟨T, U, rs, N, ns, v, t, f, rfl, g, hl, hU, hb, ht, hr, hc, hn, q⟩ := h
      cases t with
      | leaf m =>
        cases (show v = V.int m from ht)
        have e : m = f := hr
        subst e
        have hm : m < ns.length := hc
        refine ⟨_, rfl, _, _, _, _, _, rfl, .ty _, .base (.int _), kit_ty (b := "tuple") (r := false) (by decide +kernel), _, rfl, iteT ?_⟩
        exact ⟨_, rfl, _, rfl, U, _, _, _, rfl, rfl, SqT.of hU, at_of (j := m) rfl (iN_at (getD_at hm)), q⟩
      | node l r =>
        obtain ⟨a, x, y, hv, ha, hx, hy⟩ := ht
        cases (show v = V.ref a from hv)
        obtain ⟨i1, i2⟩ := hr
        have hn' : max l.h r.h + 1 ≤ n + 1 := hn
        have hc' : f + (l.cnt + r.cnt) ≤ ns.length := hc
        have f1 := fv_lt g hl hb i1 (by omega)
        have f2 := fv_lt g hl hb i2 (by omega)
        have f1' : fv (gr rs) ns l < rs.length := by omega
        obtain ⟨k1, k2, k3⟩ := g.rows _ (List.getElem_mem f1')
        refine ⟨_, rfl, _, _, _, _, _, rfl, .ty _, .base (.tup ha), kit_ty (b := "tuple") (r := true) (by decide +kernel), _, rfl, iteF ?_⟩
        refine ⟨_, rfl, _, rfl, _, rfl, _, rfl, a, _, _, _, rfl, rfl, SqT.of ha, at_of (j := 0) rfl rfl, T, U, rs, N, ns, x, l, f, rfl, g, hl, hU, hb, hx, i1, by omega, by omega, T, _, _, _, rfl, rfl, SqT.of g.top, at_of (j := fv (gr rs) ns l) rfl (refs_at f1'), ?_⟩
        refine ⟨_, rfl, _, rfl, _, rfl, a, _, _, _, rfl, rfl, SqT.of ha, at_of (j := 1) rfl rfl, T, U, rs, N, ns, y, r, f + l.cnt, rfl, g, hl, hU, hb, hy, i2, by omega, by omega, ?_⟩
        refine ⟨_, _, _, _, rfl, rfl, SqT.of k1, at_of (j := fv (gr rs) ns r) rfl (iN_at (getD_at (by omega))), ?_⟩
        refine qi q ?_
        show (((((gr rs).getD (fv (gr rs) ns l) []).getD (fv (gr rs) ns r) 0 : Nat)) : Int) = _
        rw [gr_at f1']
theorem k_fold (D : Df K mg "fold" s_fold ["table", "numbers", "tree"]) : Dn P w K mg base 41 "fold" ["table", "numbers", "tree"] ((spFold6 K) 40) := k_fold_rec B D  40
def spShare6 (K : PySem.W.Frag) (n : Nat) : Sp := fun vs H Q _ => ∃ (D T U : Addr) (qs rs : List (Addr × List Nat)) (N S : Nat) (ns : List Nat) (v : V) (t : Tr) (f s : Nat), vs = [.ref D, .ref T, .ref U, v, .int s] ∧ GridAt H T rs N N ∧ rs.length = N ∧ GridAt H D qs S S ∧ qs.length = N ∧ H U = some (.tup ((iN ns).map V.int)) ∧ Bel ns N ∧ TrAt H v t ∧ IsRow t f ∧ f + t.cnt ≤ ns.length ∧ ns.length ≤ 40 ∧ t.h ≤ n ∧ n ≤ 40 ∧ s < S ∧ ∀ L H', Same H H' → H' L = some (.lst ((iN (sv (gr qs) (gr rs) ns t s)).map V.int)) → Q (.ref L) H'
theorem share_z (vs : List V) (H : Hp) (Q : VK) (E : XK) : ¬ spShare6 K 0 vs H Q E := by
  rintro ⟨D, T, U, qs, rs, N, S, ns, v, t, f, s, _, _, _, _, _, _, _, _, _, _, _, h2, _⟩
  have := t.h_pos
  omega
theorem k_share_rec (D : Df K mg "share" s_share ["deeds", "table", "numbers", "tree", "state"]) (D_fold : Dn P w K mg base 41 "fold" ["table", "numbers", "tree"] ((spFold6 K) 40)) : ∀ n : Nat, Dn P w K mg base (42 + n) "share" ["deeds", "table", "numbers", "tree", "state"] ((spShare6 K) n) := by
  intro n
  induction n with
  | zero => exact D.ok fun f fd F => ⟨fun vs H Q E h => (share_z B vs H Q E h).elim, fun _ _ _ _ h => (share_z B _ _ _ _ h).elim⟩
  | succ n D_share =>
    refine D.ok fun f fd F => okG0 (k := 42 + n) F sc_share (fun vs H Q E h => ?_) (fun cdv A outer s H vs Q E hr h => ⟨_, (pss_cons (ps_if (pt_not (pt_val (pe_callB (kk (K := K) (F := rIsi) (P := CallR _ _) call_isi) (by rfl) B.isinstance_ (by decide +kernel) (pa_cons (pv 3) (pa_cons (pe_bltn (v := .ty "tuple") (u := .type "tuple") (by rfl) B.tuple_ (by decide +kernel) rfl) pa_nil)))))
      (pss_one (ps_ret (pe_lst (pa_cons (pv 4) pa_nil))))
      pss_nil)
    (pss_cons (ps_set (i := 5) sc_share.nd rfl (Or.inl rfl) (pe_ix (kk (K := K) (F := rIxT) (P := IxR _) ix_tup) (pe_ix (kk (K := K) (F := rIxT) (P := IxR _) ix_tup) (pv 0) (pe_cD D_fold (hr.less (by omega)) rfl (pa_cons (pv 1) (pa_cons (pv 2) (pa_cons (pe_ix (kk (K := K) (F := rIxT) (P := IxR _) ix_tup) (pv 3) pe_int (fun _ _ => rfl)) pa_nil)))) (fun _ _ => rfl)) (pv 4) (fun _ _ => rfl)))
    (pss_cons (ps_set (i := 6) sc_share.nd rfl (Or.inl rfl) (pe_cD D_share (hr.less (by omega)) rfl (pa_cons (pv 0) (pa_cons (pv 1) (pa_cons (pv 2) (pa_cons (pe_ix (kk (K := K) (F := rIxT) (P := IxR _) ix_tup) (pv 3) pe_int (fun _ _ => rfl)) (pa_cons (pv 4) pa_nil)))))))
    (pss_one (ps_ret (pe_op op_cat (pv 6) (pe_cD D_share (hr.less (by omega)) rfl (pa_cons (pv 0) (pa_cons (pv 1) (pa_cons (pv 2) (pa_cons (pe_ix (kk (K := K) (F := rIxT) (P := IxR _) ix_tup) (pv 3) pe_int (fun _ _ => rfl)) (pa_cons (pv 5) pa_nil)))))))))))), ?_⟩)
    · obtain ⟨D, T, U, qs, rs, N, S, ns, v, t, f, s, rfl, _⟩ := h; rfl
    · obtain ⟨D, T, U, qs, rs, N, S, ns, v, t, f, s, rfl, g, hl, g2, hl2, hU, hb, ht, hr, hc, h40, hn, hn40, hs, q⟩ := h
      cases t with
      | leaf m =>
        cases (show v = V.int m from ht)
        refine ⟨_, rfl, _, _, _, _, _, rfl, .ty _, .base (.int _), kit_ty (b := "tuple") (r := false) (by decide +kernel), _, rfl, iteT ?_⟩
        exact ⟨_, rfl, sz, fun L hL => q L _ (same_new hL _) upd_same⟩
      | node l r =>
        obtain ⟨a, x, y, hv, ha, hx, hy⟩ := ht
        cases (show v = V.ref a from hv)
        obtain ⟨i1, i2⟩ := hr
        have hn' : max l.h r.h + 1 ≤ n + 1 := hn
        have hc' : f + (l.cnt + r.cnt) ≤ ns.length := hc
        have f1 := fv_lt g hl hb i1 (by omega)
        have f1' : fv (gr rs) ns l < qs.length := by omega
        obtain ⟨k1, k2, k3⟩ := g2.rows _ (List.getElem_mem f1')
        have f3 := k3 _ (getD_mem (j := s) (by omega))
        refine ⟨_, rfl, _, _, _, _, _, rfl, .ty _, .base (.tup ha), kit_ty (b := "tuple") (r := true) (by decide +kernel), _, rfl, iteF ?_⟩
        refine ⟨_, rfl, _, rfl, _, rfl, _, rfl, a, _, _, _, rfl, rfl, SqT.of ha, at_of (j := 0) rfl rfl, T, U, rs, N, ns, x, l, f, rfl, g, hl, hU, hb, hx, i1, by omega, by omega, D, _, _, _, rfl, rfl, SqT.of g2.top, at_of (j := fv (gr rs) ns l) rfl (refs_at f1'), ?_⟩
        refine ⟨_, rfl, _, _, _, _, rfl, rfl, SqT.of k1, at_of (j := s) rfl (iN_at (getD_at (by omega))), ?_⟩
        refine ⟨_, rfl, _, rfl, _, rfl, _, rfl, a, _, _, _, rfl, rfl, SqT.of ha, at_of (j := 0) rfl rfl, _, rfl, D, T, U, qs, rs, N, S, ns, x, l, f, s, rfl, g, hl, g2, hl2, hU, hb, hx, i1, by omega, h40, by omega, by omega, hs, fun L1 H1 S1 hL1 => ?_⟩
        refine ⟨_, rfl, _, rfl, _, rfl, _, rfl, _, rfl, a, _, _, _, rfl, rfl, SqT.of (S1 _ _ ha), at_of (j := 1) rfl rfl, _, rfl, D, T, U, qs, rs, N, S, ns, y, r, f + l.cnt, _, rfl, g.same S1, hl, g2.same S1, hl2, S1 _ _ hU, hb, hy.same S1, i2, by omega, h40, by omega, by omega, f3, fun L2 H2 S2 hL2 => ?_⟩
        refine ⟨L1, L2, _, _, rfl, rfl, S2 _ _ hL1, hL2, small (by rw [iN_len, iN_len, sv_len, sv_len]; omega), fun M hM => q M _ (S1.trans (S2.trans (same_new hM _))) ?_⟩
        rw [upd_same, iN_app]
        show _ = some (HO.lst ((iN (sv (gr qs) (gr rs) ns l s ++ sv (gr qs) (gr rs) ns r (((gr qs).getD (fv (gr rs) ns l) []).getD s 0))).map V.int))
        rw [gr_at f1']
theorem k_share (D : Df K mg "share" s_share ["deeds", "table", "numbers", "tree", "state"]) (D_fold : Dn P w K mg base 41 "fold" ["table", "numbers", "tree"] ((spFold6 K) 40)) : Dn P w K mg base 82 "share" ["deeds", "table", "numbers", "tree", "state"] ((spShare6 K) 40) := k_share_rec B D D_fold 40
/-! the first pair at which a table does not hold -/
def Bd (ds tb : List (List Nat)) (i j : Nat) : Prop := ds.getD ((tb.getD i []).getD j 0) [] ≠ thn (ds.getD i []) (ds.getD j [])
def Fd (ds tb : List (List Nat)) (N : Nat) : Option (Nat × Nat) → Prop
  | none => ∀ i j, i < N → j < N → ¬ Bd ds tb i j
  | some (i, j) => i < N ∧ j < N ∧ Bd ds tb i j ∧ ∀ i' j', i' < N → j' < N → (i' < i ∨ i' = i ∧ j' < j) → ¬ Bd ds tb i' j'
omit B in
theorem Fd.uniq {ds tb : List (List Nat)} {N : Nat} {r r' : Option (Nat × Nat)} (a : Fd ds tb N r) (b : Fd ds tb N r') : r = r' := by
  match r, r', a, b with
  | none, none, _, _ => rfl
  | none, some (i, j), a, ⟨b1, b2, b3, _⟩ => exact absurd b3 (a i j b1 b2)
  | some (i, j), none, ⟨a1, a2, a3, _⟩, b => exact absurd a3 (b i j a1 a2)
  | some (i, j), some (i', j'), ⟨a1, a2, a3, a4⟩, ⟨b1, b2, b3, b4⟩ =>
    have h1 : ¬ (i' < i ∨ i' = i ∧ j' < j) := fun z => a4 i' j' b1 b2 z b3
    have h2 : ¬ (i < i' ∨ i = i' ∧ j < j') := fun z => b4 i j a1 a2 z a3
    have e1 : i = i' := by omega
    subst e1
    have e2 : j = j' := by omega
    rw [e2]
def AnsV (H : Hp) (r : Option (Nat × Nat)) (v : V) : Prop := match r with | none => v = .non | some (i, j) => ∃ U, v = .ref U ∧ H U = some (.tup [.int (i : Nat), .int (j : Nat)])
omit B in
theorem gr_row {H : Hp} {T : Addr} {rs : List (Addr × List Nat)} {M B' j : Nat} (g : GridAt H T rs M B') (h : j < rs.length) : H rs[j].1 = some (.tup ((iN ((gr rs).getD j [])).map V.int)) ∧ ((gr rs).getD j []).length = M ∧ Bel ((gr rs).getD j []) B' := by
  rw [gr_at h]
  obtain ⟨h1, h2⟩ := g.rows _ (List.getElem_mem h)
  exact ⟨h1, h2.1, h2.2⟩
omit B in
theorem refs_atI {rs : List (Addr × List Nat)} {j : Nat} (h : j < rs.length) : atI (rs.map fun x => V.ref x.1) (j : Int) = some (.ref rs[j].1) := atI_nat (refs_at h)
omit B in
theorem iN_atI {xs : List Nat} {j : Nat} (h : j < xs.length) : atI ((iN xs).map V.int) (j : Int) = some (.int (xs.getD j 0 : Nat)) := atI_nat (iN_at (getD_at h))
omit B in
theorem bd_eqv {xs ys : List Nat} : PyData.eqv (.tuple ((iN xs).map PyData.int)) (.tuple ((iN ys).map PyData.int)) = decide (xs = ys) := by
  by_cases h : xs = ys
  · subst h
    rw [decide_eq_true rfl]
    exact Ly.tupI.refl
  · rw [decide_eq_false h]
    refine Ly.ne Ly.tupI Ly.tupI fun z => h ?_
    have z2 := PyData.tuple.inj z
    unfold iN at z2
    rw [List.map_map, List.map_map] at z2
    exact (List.map_inj_right fun x y e => Int.ofNat.inj (PyData.int.inj e)).mp z2
omit B in
theorem by_of {K : PySem.W.Frag} {p : Addr} {H : Hp} {v w : V} {d dt : PyData} (h : Th K p H v d) (k : Th K p H w dt) (e : isBy d dt = true) : ∃ (D T : Addr) (qs rs : List (Addr × List Nat)) (N S : Nat), v = .ref D ∧ w = .ref T ∧ GridAt H T rs N N ∧ rs.length = N ∧ 1 ≤ N ∧ N ≤ 60 ∧ GridAt H D qs S S ∧ qs.length = N ∧ 1 ≤ S ∧ S ≤ 5 ∧ N = tlen dt ∧ ∃ ds, d = .tuple ds ∧ S = tlen (hdD ds) := by
  have e : (isTb dt && (isFa 60 d && decide (tlen d = tlen dt))) = true := e
  rw [Bool.and_eq_true, Bool.and_eq_true, decide_eq_true_iff] at e
  obtain ⟨T, rs, rfl, g, n1, n60, l1⟩ := tb_of k e.1
  obtain ⟨D, qs, S, rfl, g2, _, _, s1, s5, l2, ds, eds, eS⟩ := fa_of h e.2.1
  exact ⟨D, T, qs, rs, rs.length, S, rfl, rfl, g, rfl, n1, n60, g2, by omega, s1, s5, l1, ds, eds, eS⟩
def spHeldE (K : PySem.W.Frag) (C : Addr) : Sp := fun vs H Q E => ∃ (v w : V) (d dt : PyData) (p : Addr), vs = [v, w] ∧ Th K p H v d ∧ Th K p H w dt ∧ nsz d ≤ 1000000 ∧ nsz dt ≤ 1000000 ∧ (isBy d dt = true → ∀ x H', Same H H' → Q x H') ∧ (isBy d dt = false → ∀ H', Same H H' → E (.ref C) none H')
theorem k_held (D : Df K mg "held" s_held ["deeds", "table"]) (D_want_by_table : Dx P w K mg base 6 "want_by_table" ["deeds", "table"] (spWBy K (cAt mg "NoTable"))) (D_one_then : Dn P w K mg base 1 "one_then" ["one", "other"] spThen6) : Dx P w K mg base 8 "held" ["deeds", "table"] (spHeldE K (cAt mg "NoTable")) := by
  refine D.okX fun f fd F => okGX F sc_held (fun vs H Q E h => ?_) (fun cdv A outer s H vs Q E hr h => ⟨_, (pss_cons (ps_expr (pe_cW D_want_by_table (hr.less (by decide)) (takes_of rfl rfl rfl rfl) rfl (pa_cons (pv 0) (pa_cons (pv 1) pa_nil))))
    (pss_cons (ps_for (passes_of rfl) rfl (kk (K := K) (F := fun K => iEnumT K _) (P := PI _ _ _) (pi_enumT (by rfl) B.enumerate_ (pa_cons (pv 1) pa_nil))) (kk (K := K) (F := fun K => gTup K 2 _) (P := PG _ _) (pg_tup rfl (pgs_cons (pg_name (i := 2) sc_held.nd rfl (Or.inl rfl)) (pgs_cons (pg_name (i := 3) sc_held.nd rfl (Or.inl rfl)) pgs_nil))))
      (pss_one (ps_for (passes_of rfl) rfl (kk (K := K) (F := fun K => iEnumT K _) (P := PI _ _ _) (pi_enumT (by rfl) B.enumerate_ (pa_cons (pv 3) pa_nil))) (kk (K := K) (F := fun K => gTup K 2 _) (P := PG _ _) (pg_tup rfl (pgs_cons (pg_name (i := 4) sc_held.nd rfl (Or.inl rfl)) (pgs_cons (pg_name (i := 5) sc_held.nd rfl (Or.inl rfl)) pgs_nil))))
       (pss_one (ps_if (pt_cmpR (kk (K := K) (F := rNeD) (P := OpR _ _) (op_neD hr.units)) (pe_ix (kk (K := K) (F := rIxT) (P := IxR _) ix_tup) (pv 0) (pv 5) (fun _ _ => rfl)) (pe_cD D_one_then (hr.less (by decide)) rfl (pa_cons (pe_ix (kk (K := K) (F := rIxT) (P := IxR _) ix_tup) (pv 0) (pv 2) (fun _ _ => rfl)) (pa_cons (pe_ix (kk (K := K) (F := rIxT) (P := IxR _) ix_tup) (pv 0) (pv 4) (fun _ _ => rfl)) pa_nil))) (nomark _))
        (pss_one (ps_ret (pe_tup (pa_cons (pv 2) (pa_cons (pv 4) pa_nil)))))
        pss_nil)))))
    (pss_one (ps_ret pe_non)))), ?_⟩)
  · obtain ⟨v, w, d, dt, p, rfl, _⟩ := h; rfl
  · obtain ⟨v, w, d, dt, p, rfl, hd, ht, hz, hzt, q1, q2⟩ := h
    try walk_at "go"
    refine ⟨fun e H1 S1 => ?_, fun e => q2 e⟩
    obtain ⟨D, T, qs, rs, N, S, rfl, rfl, g, hl, n1, n60, g2, hl2, s1, s5, _, _⟩ := by_of hd ht e
    have q : ∀ r v H', Fd (gr qs) (gr rs) N r → Same H H' → AnsV H' r v → Q v H' := fun _ x H' _ S' _ => q1 e x H' S'
    have hT1 := S1 _ _ g.top
    try walk_at "go"
    refine for_enumT (K := K) (a := T) (xs := rs.map fun x => V.ref x.1) (fun i σ H' => Kept (∃ w2 w3 w4 w5, σ = [some (.ref D), some (.ref T), w2, w3, w4, w5] ∧ Same H H' ∧ ∀ i' j', i' < i → j' < N → ¬ Bd (gr qs) (gr rs) i' j')) ⟨_, _, _, _, rfl, S1, fun i' j' h => absurd h (Nat.not_lt_zero _)⟩ (fun i σ H' _ h => by obtain ⟨_, _, _, _, _, S, _⟩ := h.ex; exact SqT.of (S _ _ g.top)) ?_ ?_
    · rintro i x P σ H2 hx ⟨w2, w3, w4, w5, rfl, S2, ok2⟩ hP
      rw [List.getElem?_map] at hx
      obtain ⟨y, hy, rfl⟩ := Option.map_eq_some_iff.mp hx
      have hi : i < rs.length := (List.getElem?_eq_some_iff.mp hy).1
      obtain rfl : y = rs[i] := (Option.some.inj ((List.getElem?_eq_getElem hi).symm.trans hy)).symm
      generalize eH3 : upd _ P (HO.tup [.int (i : Nat), .ref rs[i].1]) = H3
      have SH3 := newS eH3 hP
      have oP := newO eH3
      obtain ⟨r1, r2, r3⟩ := gr_row g hi
      have S3 := S2.trans SH3
      have r13 := S3 _ _ r1
      try walk_at "go"
      refine for_enumT (K := K) (a := rs[i].1) (xs := (iN ((gr rs).getD i [])).map V.int) (fun j σ H' => Kept (∃ w4 w5, σ = [some (.ref D), some (.ref T), some (.int (i : Nat)), some (.ref rs[i].1), w4, w5] ∧ Same H H' ∧ ∀ j', j' < j → ¬ Bd (gr qs) (gr rs) i j')) ⟨_, _, rfl, S3, fun j' h => absurd h (Nat.not_lt_zero _)⟩ (fun j σ H' _ h => by obtain ⟨_, _, _, S, _⟩ := h.ex; exact SqT.of (S _ _ r1)) ?_ ?_
      · rintro j z P2 σ H4 hz ⟨w4, w5, rfl, S4, ok4⟩ hP2
        obtain ⟨n, rfl, hn⟩ := iN_mem hz
        have hj : j < N := by have := (List.getElem?_eq_some_iff.mp hn).1; omega
        have en : ((gr rs).getD i []).getD j 0 = n := by rw [List.getD_eq_getElem?_getD, hn] <;> rfl
        have hnN : n < N := r3 n (List.mem_of_getElem? hn)
        generalize eH5 : upd _ P2 (HO.tup [.int (j : Nat), .int (n : Nat)]) = H5
        have SH5 := newS eH5 hP2
        have oP2 := newO eH5
        have S5 := S4.trans SH5
        have g25 := g2.same S5
        have D5 := g25.top
        have ai := refs_atI (rs := qs) (j := i) (by omega)
        have aj := refs_atI (rs := qs) (j := j) (by omega)
        have an := refs_atI (rs := qs) (j := n) (by omega)
        obtain ⟨di, li, bi⟩ := gr_row g25 (j := i) (by omega)
        obtain ⟨dj, lj, bj⟩ := gr_row g25 (j := j) (by omega)
        obtain ⟨dn, ln, bn⟩ := gr_row g25 (j := n) (by omega)
        have bl : Bel ((gr qs).getD i []) ((gr qs).getD j []).length := by rw [lj]; exact bi
        have l100 : ((gr qs).getD i []).length ≤ 100 := by omega
        try walk_at "go"
        intro U H6 S6 hUn hU
        have dn6 := S6 _ _ dn
        try walk_at "go"
        rw [bd_eqv]
        refine ite2 (fun c => ?_) (fun c => ?_)
        · try walk_at "go"
          intro R hR
          generalize eH7 : upd _ R _ = H7
          have SH7 := newS eH7 hR
          have oR := newO eH7
          have bad : Bd (gr qs) (gr rs) i j := by
            unfold Bd
            rw [en]
            intro z
            rw [decide_eq_true z] at c
            cases c
          refine q (some (i, j)) _ H7 ⟨by omega, hj, bad, fun i' j' h1 h2 h3 => ?_⟩ (S5.trans (S6.trans SH7)) ⟨R, rfl, oR⟩
          rcases h3 with h3 | ⟨rfl, h3⟩
          · exact ok2 i' j' h3 h2
          · exact ok4 j' h3
        · refine ⟨⟨_, _, rfl, S5.trans S6, fun j' h => ?_⟩⟩
          rcases Nat.lt_or_ge j' j with z | z
          · exact ok4 j' z
          · obtain rfl : j' = j := by omega
            unfold Bd
            rw [en]
            intro z2
            exact c (by rw [decide_eq_false z2] <;> rfl)
      · rintro σ H4 ⟨w4, w5, rfl, S4, ok4⟩
        rw [iN_len, r2] at ok4
        refine ⟨⟨_, _, _, _, rfl, S4, fun i' j' h1 h2 => ?_⟩⟩
        rcases Nat.lt_or_ge i' i with z | z
        · exact ok2 i' j' z h2
        · obtain rfl : i' = i := by omega
          exact ok4 j' h2
    · rintro σ H2 ⟨w2, w3, w4, w5, rfl, S2, ok2⟩
      rw [List.length_map, hl] at ok2
      exact q none _ H2 ok2 S2 rfl
/-! the first grouping that breaks a table -/
def Bg (tb : List (List Nat)) (i j l : Nat) : Prop := (tb.getD ((tb.getD i []).getD j 0) []).getD l 0 ≠ (tb.getD i []).getD ((tb.getD j []).getD l 0) 0
def Fg (tb : List (List Nat)) (N : Nat) : Option (Nat × Nat × Nat) → Prop
  | none => ∀ i j l, i < N → j < N → l < N → ¬ Bg tb i j l
  | some (i, j, l) => i < N ∧ j < N ∧ l < N ∧ Bg tb i j l ∧ ∀ i' j' l', i' < N → j' < N → l' < N → (i' < i ∨ i' = i ∧ (j' < j ∨ j' = j ∧ l' < l)) → ¬ Bg tb i' j' l'
omit B in
theorem Fg.uniq {tb : List (List Nat)} {N : Nat} {r r' : Option (Nat × Nat × Nat)} (a : Fg tb N r) (b : Fg tb N r') : r = r' := by
  match r, r', a, b with
  | none, none, _, _ => rfl
  | none, some (i, j, l), a, ⟨b1, b2, b3, b4, _⟩ => exact absurd b4 (a i j l b1 b2 b3)
  | some (i, j, l), none, ⟨a1, a2, a3, a4, _⟩, b => exact absurd a4 (b i j l a1 a2 a3)
  | some (i, j, l), some (i', j', l'), ⟨a1, a2, a3, a4, a5⟩, ⟨b1, b2, b3, b4, b5⟩ =>
    have h1 : ¬ (i' < i ∨ i' = i ∧ (j' < j ∨ j' = j ∧ l' < l)) := fun z => a5 i' j' l' b1 b2 b3 z b4
    have h2 : ¬ (i < i' ∨ i = i' ∧ (j < j' ∨ j = j' ∧ l < l')) := fun z => b5 i j l a1 a2 a3 z a4
    have e1 : i = i' := by omega
    subst e1
    have e2 : j = j' := by omega
    subst e2
    have e3 : l = l' := by omega
    rw [e3]
def AnsG (H : Hp) (r : Option (Nat × Nat × Nat)) (v : V) : Prop := match r with | none => v = .non | some (i, j, l) => ∃ U, v = .ref U ∧ H U = some (.tup [.int (i : Nat), .int (j : Nat), .int (l : Nat)])
omit B in
theorem dec_int {a b : Nat} : decide (V.int (a : Nat) = V.int (b : Nat)) = decide (a = b) := by
  by_cases h : a = b
  · subst h; rw [decide_eq_true rfl, decide_eq_true rfl]
  · rw [decide_eq_false h, decide_eq_false fun z => h (by have := V.int.inj z; omega)]
def spBrokenE (K : PySem.W.Frag) (C : Addr) : Sp := fun vs H Q E => ∃ (v : V) (d : PyData) (p : Addr), vs = [v] ∧ Th K p H v d ∧ nsz d ≤ 1000000 ∧ (isTb d = true → ∀ x H', Same H H' → Q x H') ∧ (isTb d = false → ∀ H', Same H H' → E (.ref C) none H')
theorem k_broken (D : Df K mg "broken" s_broken ["table"]) (D_want_table : Dx P w K mg base 5 "want_table" ["table"] (spWTb K (cAt mg "NoTable"))) : Dx P w K mg base 7 "broken" ["table"] (spBrokenE K (cAt mg "NoTable")) := by
  refine D.okX fun f fd F => okGX F sc_broken (fun vs H Q E h => ?_) (fun cdv A outer s H vs Q E hr h => ⟨_, (pss_cons (ps_expr (pe_cW D_want_table (hr.less (by decide)) (takes_of rfl rfl rfl rfl) rfl (pa_cons (pv 0) pa_nil)))
    (pss_cons (ps_for (passes_of rfl) rfl (kk (K := K) (F := fun K => iEnumT K _) (P := PI _ _ _) (pi_enumT (by rfl) B.enumerate_ (pa_cons (pv 0) pa_nil))) (kk (K := K) (F := fun K => gTup K 2 _) (P := PG _ _) (pg_tup rfl (pgs_cons (pg_name (i := 1) sc_broken.nd rfl (Or.inl rfl)) (pgs_cons (pg_name (i := 2) sc_broken.nd rfl (Or.inl rfl)) pgs_nil))))
      (pss_one (ps_for (passes_of rfl) rfl (kk (K := K) (F := fun K => iEnumT K _) (P := PI _ _ _) (pi_enumT (by rfl) B.enumerate_ (pa_cons (pv 2) pa_nil))) (kk (K := K) (F := fun K => gTup K 2 _) (P := PG _ _) (pg_tup rfl (pgs_cons (pg_name (i := 3) sc_broken.nd rfl (Or.inl rfl)) (pgs_cons (pg_name (i := 4) sc_broken.nd rfl (Or.inl rfl)) pgs_nil))))
       (pss_one (ps_for (passes_of rfl) rfl (pi_range1 (by rfl) B.range_ (pa_cons (pe_callB (lenK (K := K)) (by rfl) B.len_ (by decide +kernel) (pa_cons (pv 0) pa_nil)) pa_nil)) (pg_name (i := 5) sc_broken.nd rfl (Or.inl rfl))
        (pss_one (ps_if (pt_cmpR op_ne (pe_ix (kk (K := K) (F := rIxT) (P := IxR _) ix_tup) (pe_ix (kk (K := K) (F := rIxT) (P := IxR _) ix_tup) (pv 0) (pv 4) (fun _ _ => rfl)) (pv 5) (fun _ _ => rfl)) (pe_ix (kk (K := K) (F := rIxT) (P := IxR _) ix_tup) (pv 2) (pe_ix (kk (K := K) (F := rIxT) (P := IxR _) ix_tup) (pe_ix (kk (K := K) (F := rIxT) (P := IxR _) ix_tup) (pv 0) (pv 3) (fun _ _ => rfl)) (pv 5) (fun _ _ => rfl)) (fun _ _ => rfl)) (nomark _))
         (pss_one (ps_ret (pe_tup (pa_cons (pv 1) (pa_cons (pv 3) (pa_cons (pv 5) pa_nil))))))
         pss_nil)))))))
    (pss_one (ps_ret pe_non)))), ?_⟩)
  · obtain ⟨v, d, p, rfl, _⟩ := h; rfl
  · obtain ⟨v, d, p, rfl, hd, hz, q1, q2⟩ := h
    try walk_at "go"
    refine ⟨fun e H1 S1 => ?_, fun e => q2 e⟩
    obtain ⟨T, rs, rfl, g, n1, n60, _⟩ := tb_of hd e
    obtain ⟨N, hl⟩ : ∃ N, rs.length = N := ⟨_, rfl⟩
    rw [hl] at g n1 n60
    have q : ∀ r v H', Fg (gr rs) N r → Same H H' → AnsG H' r v → Q v H' := fun _ x H' _ S' _ => q1 e x H' S'
    have lq : (rs.map fun x => V.ref x.1).length = N := by rw [List.length_map, hl]
    have eN : (((rs.map fun x => V.ref x.1).length : Nat) : Int).toNat = N := by rw [lq, Int.toNat_natCast]
    have hT1 := S1 _ _ g.top
    try walk_at "go"
    refine for_enumT (K := K) (a := T) (xs := rs.map fun x => V.ref x.1) (fun i σ H' => Kept (∃ w1 w2 w3 w4 w5, σ = [some (.ref T), w1, w2, w3, w4, w5] ∧ Same H H' ∧ ∀ i' j' l', i' < i → j' < N → l' < N → ¬ Bg (gr rs) i' j' l')) ⟨_, _, _, _, _, rfl, S1, fun i' j' l' h => absurd h (Nat.not_lt_zero _)⟩ (fun i σ H' _ h => by obtain ⟨_, _, _, _, _, _, S, _⟩ := h.ex; exact SqT.of (S _ _ g.top)) ?_ ?_
    · rintro i x P σ H2 hx ⟨w1, w2, w3, w4, w5, rfl, S2, ok2⟩ hP
      rw [List.getElem?_map] at hx
      obtain ⟨y, hy, rfl⟩ := Option.map_eq_some_iff.mp hx
      have hi : i < rs.length := (List.getElem?_eq_some_iff.mp hy).1
      obtain rfl : y = rs[i] := (Option.some.inj ((List.getElem?_eq_getElem hi).symm.trans hy)).symm
      generalize eH3 : upd _ P (HO.tup [.int (i : Nat), .ref rs[i].1]) = H3
      have SH3 := newS eH3 hP
      have oP := newO eH3
      obtain ⟨r1, r2, r3⟩ := gr_row g hi
      have S3 := S2.trans SH3
      have r13 := S3 _ _ r1
      try walk_at "go"
      refine for_enumT (K := K) (a := rs[i].1) (xs := (iN ((gr rs).getD i [])).map V.int) (fun j σ H' => Kept (∃ w3 w4 w5, σ = [some (.ref T), some (.int (i : Nat)), some (.ref rs[i].1), w3, w4, w5] ∧ Same H H' ∧ ∀ j' l', j' < j → l' < N → ¬ Bg (gr rs) i j' l')) ⟨_, _, _, rfl, S3, fun j' l' h => absurd h (Nat.not_lt_zero _)⟩ (fun j σ H' _ h => by obtain ⟨_, _, _, _, S, _⟩ := h.ex; exact SqT.of (S _ _ r1)) ?_ ?_
      · rintro j z P2 σ H4 hz ⟨w3, w4, w5, rfl, S4, ok4⟩ hP2
        obtain ⟨n, rfl, hn⟩ := iN_mem hz
        have hj : j < N := by have := (List.getElem?_eq_some_iff.mp hn).1; omega
        have en : ((gr rs).getD i []).getD j 0 = n := by rw [List.getD_eq_getElem?_getD, hn] <;> rfl
        have hnN : n < N := r3 n (List.mem_of_getElem? hn)
        generalize eH5 : upd _ P2 (HO.tup [.int (j : Nat), .int (n : Nat)]) = H5
        have SH5 := newS eH5 hP2
        have oP2 := newO eH5
        have S5 := S4.trans SH5
        have hT5 := S5 _ _ g.top
        try walk_at "go"
        rw [eN]
        refine for_range (lo := 0) (n := N) (fun l σ H' => Kept (∃ w5, σ = [some (.ref T), some (.int (i : Nat)), some (.ref rs[i].1), some (.int (j : Nat)), some (.int (n : Nat)), w5] ∧ Same H H' ∧ ∀ l', l' < l → ¬ Bg (gr rs) i j l')) ⟨_, rfl, S5, fun l' h => absurd h (Nat.not_lt_zero _)⟩ ?_ ?_
        · rintro l σ H6 hlN ⟨w5, rfl, S6, ok6⟩
          rw [Int.zero_add]
          have g6 := g.same S6
          have T6 := g6.top
          obtain ⟨ri, li, bi⟩ := gr_row g6 (j := i) (by omega)
          obtain ⟨rj, lj, bj⟩ := gr_row g6 (j := j) (by omega)
          obtain ⟨rn, ln, bn⟩ := gr_row g6 (j := n) (by omega)
          have aj := refs_atI (rs := rs) (j := j) (by omega)
          have an := refs_atI (rs := rs) (j := n) (by omega)
          have vn := iN_atI (xs := (gr rs).getD n []) (j := l) (by omega)
          have vj := iN_atI (xs := (gr rs).getD j []) (j := l) (by omega)
          have mj : ((gr rs).getD j []).getD l 0 < N := bj _ (getD_mem (by omega))
          have vi := iN_atI (xs := (gr rs).getD i []) (j := ((gr rs).getD j []).getD l 0) (by omega)
          try walk_at "go"
          rw [dec_int]
          refine ite2 (fun c => ?_) (fun c => ?_)
          · try walk_at "go"
            intro R hR
            generalize eH7 : upd _ R _ = H7
            have SH7 := newS eH7 hR
            have oR := newO eH7
            have bad : Bg (gr rs) i j l := by
              unfold Bg
              rw [en]
              intro z
              rw [decide_eq_true z] at c
              cases c
            refine q (some (i, j, l)) _ H7 ⟨by omega, hj, hlN, bad, fun i' j' l' h1 h2 h3 h4 => ?_⟩ (S6.trans SH7) ⟨R, rfl, oR⟩
            rcases h4 with h4 | ⟨rfl, h4 | ⟨rfl, h4⟩⟩
            · exact ok2 i' j' l' h4 h2 h3
            · exact ok4 j' l' h4 h3
            · exact ok6 l' h4
          · refine ⟨⟨_, rfl, S6, fun l' h => ?_⟩⟩
            rcases Nat.lt_or_ge l' l with z | z
            · exact ok6 l' z
            · obtain rfl : l' = l := by omega
              unfold Bg
              rw [en]
              intro z2
              exact c (by rw [decide_eq_false z2] <;> rfl)
        · rintro σ H6 ⟨w5, rfl, S6, ok6⟩
          refine ⟨⟨_, _, _, rfl, S6, fun j' l' h1 h2 => ?_⟩⟩
          rcases Nat.lt_or_ge j' j with z | z
          · exact ok4 j' l' z h2
          · obtain rfl : j' = j := by omega
            exact ok6 l' h2
      · rintro σ H4 ⟨w3, w4, w5, rfl, S4, ok4⟩
        rw [iN_len, r2] at ok4
        refine ⟨⟨_, _, _, _, _, rfl, S4, fun i' j' l' h1 h2 h3 => ?_⟩⟩
        rcases Nat.lt_or_ge i' i with z | z
        · exact ok2 i' j' l' z h2 h3
        · obtain rfl : i' = i := by omega
          exact ok4 j' l' h2 h3
    · rintro σ H2 ⟨w1, w2, w3, w4, w5, rfl, S2, ok2⟩
      rw [List.length_map, hl] at ok2
      exact q none _ H2 ok2 S2 rfl
def spFoldE (K : PySem.W.Frag) (C N T : Addr) : Sp := fun vs H Q E => ∃ (v w u : V) (dt dn d : PyData) (p : Addr), vs = [v, w, u] ∧ Th K p H v dt ∧ Th K p H w dn ∧ Th K p H u d ∧ nsz dt ≤ 1000000 ∧ nsz dn ≤ 1000000 ∧ nsz d ≤ 1000000 ∧
  (isTb dt = true → isNb (tlen dt) dn = true → isT d (tlen dn) = true → ∀ (n : Nat) H', n < tlen dt → Same H H' → Q (.int n) H') ∧ (isTb dt = false → ∀ H', Same H H' → E (.ref C) none H') ∧ (isTb dt = true → isNb (tlen dt) dn = false → ∀ H', Same H H' → E (.ref N) none H') ∧ (isTb dt = true → isNb (tlen dt) dn = true → isT d (tlen dn) = false → ∀ H', Same H H' → E (.ref T) none H')
theorem k_folded_by (D : Df K mg "folded_by" s_folded_by ["table", "numbers", "tree"]) (D_want_table : Dx P w K mg base 5 "want_table" ["table"] (spWTb K (cAt mg "NoTable"))) (D_want_numbers : Dx P w K mg base 6 "want_numbers" ["table", "numbers"] (spWNb K (cAt mg "NoNumber"))) (D_want_grouped : Dx P w K mg base 15 "want_grouped" ["numbers", "tree"] (spWGr K (cAt mg "NoTree"))) (D_fold : Dn P w K mg base 41 "fold" ["table", "numbers", "tree"] ((spFold6 K) 40)) : Dx P w K mg base 60 "folded_by" ["table", "numbers", "tree"] (spFoldE K (cAt mg "NoTable") (cAt mg "NoNumber") (cAt mg "NoTree")) := by
  refine D.okX fun f fd F => okGX F sc_folded_by (fun vs H Q E h => ?_) (fun cdv A outer s H vs Q E hr h => ⟨_, (pss_cons (ps_expr (pe_cW D_want_table (hr.less (by decide)) (takes_of rfl rfl rfl rfl) rfl (pa_cons (pv 0) pa_nil)))
    (pss_cons (ps_expr (pe_cW D_want_numbers (hr.less (by decide)) (takes_of rfl rfl rfl rfl) rfl (pa_cons (pv 0) (pa_cons (pv 1) pa_nil))))
    (pss_cons (ps_expr (pe_cW D_want_grouped (hr.less (by decide)) (takes_of rfl rfl rfl rfl) rfl (pa_cons (pv 1) (pa_cons (pv 2) pa_nil))))
    (pss_one (ps_ret (pe_cD D_fold (hr.less (by decide)) rfl (pa_cons (pv 0) (pa_cons (pv 1) (pa_cons (pv 2) pa_nil))))))))), ?_⟩)
  · obtain ⟨v, w, u, dt, dn, d, p, rfl, _⟩ := h; rfl
  · obtain ⟨v, w, u, dt, dn, d, p, rfl, ht, hn, hd, z1, z2, z3, q1, q2, q3, q4⟩ := h
    try walk_at "go"
    refine ⟨fun e H1 S1 => ?_, fun e => q2 e⟩
    obtain ⟨T, rs, rfl, g, n1, n60, l1⟩ := tb_of ht e
    have l0 : (rs.map fun x => V.ref x.1).length = tlen dt := by rw [List.length_map, l1]
    have l100 : (rs.map fun x => V.ref x.1).length ≤ 100 := by rw [List.length_map]; omega
    have gt1 := S1 _ _ g.top
    have hn1 := hn.same S1
    try walk_at "go"
    rw [l0]
    refine ⟨fun e2 H2 S2 => ?_, fun e2 H2 S2 => q3 e e2 _ (S1.trans S2)⟩
    have S12 := S1.trans S2
    have e3 : (isUs (tlen dt) dn && (decide (1 ≤ tlen dn) && decide (tlen dn ≤ 40))) = true := e2
    rw [Bool.and_eq_true, Bool.and_eq_true, decide_eq_true_iff, decide_eq_true_iff] at e3
    obtain ⟨e4, e5, e6⟩ := e3
    obtain ⟨U, ns, rfl, hU, hb, l2⟩ := us_of hn e4
    have hU2 := S12 _ _ hU
    have hd2 := hd.same S12
    have l3 : ((iN ns).map V.int).length = tlen dn := by rw [iN_len, l2]
    try walk_at "go"
    rw [l3]
    refine ⟨fun e7 H3 S3 => ?_, fun e7 H3 S3 => q4 e e2 e7 _ (S12.trans S3)⟩
    have S13 := S12.trans S3
    obtain ⟨t, ht4, hr4, hc4⟩ := tr_row hd e7
    have ht5 := ht4.same S13
    have g3 := g.same S13
    have hU3 := S13 _ _ hU
    rw [← l1] at hb
    try walk_at "go"
    exact ⟨Nat.le_trans t.h_cnt (by omega), q1 e e2 e7 _ _ (by have := fv_lt g rfl hb hr4 (by omega); omega) S13⟩
def hS : PyData → Nat
  | .tuple ds => tlen (hdD ds)
  | _ => 0
def spShareE (K : PySem.W.Frag) (C N T : Addr) : Sp := fun vs H Q E => ∃ (v0 v w u y : V) (dd dt dn d ds : PyData) (p : Addr), vs = [v0, v, w, u, y] ∧ Th K p H v0 dd ∧ Th K p H v dt ∧ Th K p H w dn ∧ Th K p H u d ∧ Th K p H y ds ∧ nsz dd ≤ 1000000 ∧ nsz dt ≤ 1000000 ∧ nsz dn ≤ 1000000 ∧ nsz d ≤ 1000000 ∧ nsz ds ≤ 900000 ∧
  (isBy dd dt = true → isNb (tlen dt) dn = true → isU (hS dd) ds = true → isT d (tlen dn) = true → ∀ x H', Same H H' → Q x H') ∧ (isBy dd dt = false → ∀ H', Same H H' → E (.ref C) none H') ∧ (isBy dd dt = true → isNb (tlen dt) dn = false → ∀ H', Same H H' → E (.ref N) none H') ∧ (isBy dd dt = true → isNb (tlen dt) dn = true → isU (hS dd) ds = false → ∀ H', Same H H' → E (.ref N) none H') ∧
  (isBy dd dt = true → isNb (tlen dt) dn = true → isU (hS dd) ds = true → isT d (tlen dn) = false → ∀ H', Same H H' → E (.ref T) none H')
theorem k_shared_by (D : Df K mg "shared_by" s_shared_by ["deeds", "table", "numbers", "tree", "state"]) (D_want_by_table : Dx P w K mg base 6 "want_by_table" ["deeds", "table"] (spWBy K (cAt mg "NoTable"))) (D_want_numbers : Dx P w K mg base 6 "want_numbers" ["table", "numbers"] (spWNb K (cAt mg "NoNumber"))) (D_are_numbers : Dn P w K mg base 3 "are_numbers" ["thing", "many"] (spUs K)) (D_want_grouped : Dx P w K mg base 15 "want_grouped" ["numbers", "tree"] (spWGr K (cAt mg "NoTree"))) (D_share : Dn P w K mg base 82 "share" ["deeds", "table", "numbers", "tree", "state"] ((spShare6 K) 40)) : Dx P w K mg base 90 "shared_by" ["deeds", "table", "numbers", "tree", "state"] (spShareE K (cAt mg "NoTable") (cAt mg "NoNumber") (cAt mg "NoTree")) := by
  refine D.okX fun f fd F => okGX F sc_shared_by (fun vs H Q E h => ?_) (fun cdv A outer s H vs Q E hr h => ⟨_, (pss_cons (ps_expr (pe_cW D_want_by_table (hr.less (by decide)) (takes_of rfl rfl rfl rfl) rfl (pa_cons (pv 0) (pa_cons (pv 1) pa_nil))))
    (pss_cons (ps_expr (pe_cW D_want_numbers (hr.less (by decide)) (takes_of rfl rfl rfl rfl) rfl (pa_cons (pv 1) (pa_cons (pv 2) pa_nil))))
    (pss_cons (ps_if (pt_not (pt_val (pe_cD D_are_numbers (hr.less (by decide)) rfl (pa_cons (pe_tup (pa_cons (pv 4) pa_nil)) (pa_cons (pe_callB (lenK (K := K)) (by rfl) B.len_ (by decide +kernel) (pa_cons (pe_ix (kk (K := K) (F := rIxT) (P := IxR _) ix_tup) (pv 0) pe_int (fun _ _ => rfl)) pa_nil)) pa_nil)))))
      (pss_one (ps_raise rfl (takes_of rfl rfl rfl rfl) (pmk_own PySem.F.excBase_ValueError B.NoNumber_.ex B.NoNumber_.mg_ B.NoNumber_.kp (raises_own B.NoNumber_.bs B.NoNumber_.tp) rfl)))
      pss_nil)
    (pss_cons (ps_expr (pe_cW D_want_grouped (hr.less (by decide)) (takes_of rfl rfl rfl rfl) rfl (pa_cons (pv 2) (pa_cons (pv 3) pa_nil))))
    (pss_one (ps_ret (pe_callTy (tupOfK (K := K)) (by rfl) B.tuple_ (by decide +kernel) (pa_cons (pe_cD D_share (hr.less (by decide)) rfl (pa_cons (pv 0) (pa_cons (pv 1) (pa_cons (pv 2) (pa_cons (pv 3) (pa_cons (pv 4) pa_nil)))))) pa_nil)))))))), ?_⟩)
  · obtain ⟨v0, v, w, u, y, dd, dt, dn, d, ds, p, rfl, _⟩ := h; rfl
  · obtain ⟨v0, v, w, u, y, dd, dt, dn, d, ds, p, rfl, h0, ht, hn, hd, hs, z0, z1, z2, z3, z4, q1, q2, q3, q5, q4⟩ := h
    try walk_at "go"
    refine ⟨fun e H1 S1 => ?_, fun e => q2 e⟩
    obtain ⟨D, T, qs, rs, N, S, rfl, rfl, g, hl, n1, n60, g2, hl2, s1, s5, l1, dl, rfl, eS⟩ := by_of h0 ht e
    have l0 : (rs.map fun x => V.ref x.1).length = tlen dt := by rw [List.length_map, hl, l1]
    have l100 : (rs.map fun x => V.ref x.1).length ≤ 100 := by rw [List.length_map]; omega
    have gt1 := S1 _ _ g.top
    have hn1 := hn.same S1
    try walk_at "go"
    rw [l0]
    refine ⟨fun e2 H2 S2 => ?_, fun e2 H2 S2 => q3 e e2 _ (S1.trans S2)⟩
    have S12 := S1.trans S2
    have e3 : (isUs (tlen dt) dn && (decide (1 ≤ tlen dn) && decide (tlen dn ≤ 40))) = true := e2
    rw [Bool.and_eq_true, Bool.and_eq_true, decide_eq_true_iff, decide_eq_true_iff] at e3
    obtain ⟨e4, e5, e6⟩ := e3
    obtain ⟨U, ns, rfl, hU, hb, l2⟩ := us_of hn e4
    rw [← l1] at hb
    have hU2 := S12 _ _ hU
    have hs2 := hs.same S12
    try walk_at "go"
    intro Z hZ
    generalize eH3 : upd _ Z _ = H3
    have SH3 := newS eH3 hZ
    have oZ := newO eH3
    have S13 := S12.trans SH3
    have gt3 := S13 _ _ g2.top
    have a0 := refs_atI (rs := qs) (j := 0) (by omega)
    obtain ⟨k1, k2, k3⟩ := g2.rows qs[0] (List.getElem_mem (by omega))
    have k13 := S13 _ _ k1
    have lS : ((iN qs[0].2).map V.int).length = S := by rw [iN_len, k2]
    have thZ : Th K p H3 (.ref Z) (.tuple [ds]) := Th.tup (tr := [(y, ds)]) oZ fun t ht => by
      cases List.mem_singleton.mp ht
      exact hs2.same SH3
    have nz : nsz (.tuple [ds]) ≤ 1000000 := by show 1 + (nsz ds + 0) ≤ 1000000; omega
    have eU : isUs S (.tuple [ds]) = isU (hS (.tuple dl)) ds := by
      rw [show hS (.tuple dl) = S from eS.symm]
      show (isU S ds && true) = _
      rw [Bool.and_true]
    try walk_at "go"
    rw [lS, eU]
    intro H4 S4
    have S14 := S13.trans S4
    cases e8 : isU (hS (.tuple dl)) ds with
    | false =>
      try walk_at "go"
      refine ifT rfl ?_
      try walk_at "go"
      exact q5 e e2 e8 _ S14
    | true =>
      obtain ⟨s, rfl, sS⟩ := isU_inv e8
      cases hs.int_inv
      rw [show hS (.tuple dl) = S from eS.symm] at sS
      have hU4 := S14 _ _ hU
      have hd4 := hd.same S14
      have l3 : ((iN ns).map V.int).length = tlen dn := by rw [iN_len, l2]
      try walk_at "go"
      rw [l3]
      refine ⟨fun e7 H5 S5 => ?_, fun e7 H5 S5 => q4 e e2 e8 e7 _ (S14.trans S5)⟩
      have S15 := S14.trans S5
      obtain ⟨t, ht4, hr4, hc4⟩ := tr_row hd e7
      have ht5 := ht4.same S15
      have g5 := g.same S15
      have g25 := g2.same S15
      have hU5 := S15 _ _ hU
      have th := t.h_cnt
      try walk_at "go"
      intro L H6 S6 hL
      try walk_at "go"
      intro M hM
      generalize eH7 : upd _ M _ = H7
      have SH7 := newS eH7 hM
      have oM := newO eH7
      exact q1 e e2 e8 e7 _ _ (S15.trans (S6.trans SH7))
/-! SPLIT -/
/-! ### the law's own -/
def spPot6 (K : PySem.W.Frag) : Sp := fun vs H Q _ => ∃ (a : Addr) (ns : List Int) (k : Nat), vs = [.ref a, .int k] ∧ SqL K H a (ns.map V.int) ∧ k ≤ 60 ∧ ∀ p H', H p = none → Same H H' → PotAt H' p → Q (.ref p) H'
theorem k__law_store (D : Df K mg "_law_store" s__law_store ["_law_script", "_law_k"]) : Dn P w K mg base 1 "_law_store" ["_law_script", "_law_k"] (spPot6 K) := by
  refine D.ok fun f fd F => okG0 F sc__law_store (fun vs H Q E h => ?_) (fun cdv A outer s H vs Q E hr h => ⟨_, (pss_cons (ps_set (i := 2) sc__law_store.nd rfl (Or.inl rfl) pe_int)
    (C8.pss_cut (ps_if (pt_cmpR op_lt (pv 1) (pe_callB (lenK (K := K)) (by rfl) B.len_ (by decide +kernel) (pa_cons (pv 0) pa_nil)) (nomark _))
      (pss_one (ps_set (i := 2) sc__law_store.nd rfl (Or.inl rfl) (pe_callB call_abs (by rfl) B.abs_ (by decide +kernel) (pa_cons (pe_ix (kk (K := K) (F := rIxL) (P := IxR _) ix_list) (pv 0) (pv 1) (fun _ _ => rfl)) pa_nil))))
      pss_nil)
    (pss_one (ps_ret (pe_lst (pa_cons (pe_callB (call_max2 rfl) (by rfl) B.max_ (by decide +kernel) (pa_cons pe_int (pa_cons (pe_op op_sub (pv 2) (pe_op op_pow pe_int pe_int)) pa_nil))) (pa_cons (pe_op op_mod (pe_op op_pow (pe_op op_add (pe_op op_add (pe_op op_mod (pv 2) pe_int) (pe_op op_mulX pe_int (pv 1))) pe_int) pe_int) pe_int) pa_nil))))))), ?_⟩)
  · obtain ⟨a, ns, k, rfl, _⟩ := h; rfl
  · obtain ⟨a, ns, k, rfl, hs, hk, q⟩ := h
    refine ⟨fun σ H1 => ∃ c : Int, σ = [some (.ref a), some (.int k), some (.int c)] ∧ H1 = H, ?_, ?_⟩
    · refine ⟨_, rfl, _, rfl, a, _, rfl, .inl hs, _, _, rfl, rfl, _, rfl, ite2 (fun c => ?_) (fun c => ?_)⟩
      · have c' : (k : Int) < ((ns.map V.int).length : Nat) := of_decide_eq_true c
        have hk2 : k < ns.length := by rw [List.length_map] at c'; omega
        exact ⟨_, rfl, _, rfl, a, _, _, _, rfl, rfl, hs, at_of (j := k) rfl (by rw [List.getElem?_map, List.getElem?_eq_getElem hk2] <;> rfl), _, rfl, _, rfl, rfl⟩
      · exact ⟨_, rfl, rfl⟩
    · rintro _ _ ⟨c, rfl, rfl⟩
      have m1 := Int.emod_nonneg c (by decide : (2147483549 : Int) ≠ 0)
      have m2 := Int.emod_lt_of_pos c (by decide : (0 : Int) < 2147483549)
      refine ⟨_, rfl, _, _, rfl, rfl, ⟨by decide, by decide, by decide⟩, _, _, rfl, rfl, _, _, rfl, ?_⟩
      refine ⟨_, rfl, _, _, rfl, rfl, pj, _, rfl, _, _, rfl, rfl, mulx 13 6 (by decide) (by omega), _, _, rfl, rfl, _, _, rfl, rfl, _, _, rfl, rfl, ⟨by decide, by decide, by omega⟩, _, _, rfl, rfl, pj, sz, fun p hp => ?_⟩
      have e1 := Int.emod_nonneg ((c % 2147483549 + 1009 * (k : Int) + 3) ^ Int.toNat 5) (by decide : (2147483629 : Int) ≠ 0)
      have e2 := Int.emod_lt_of_pos ((c % 2147483549 + 1009 * (k : Int) + 3) ^ Int.toNat 5) (by decide : (0 : Int) < 2147483629)
      refine q p _ hp (same_new hp _) ⟨_, _, upd_same, ?_, e1, Int.lt_trans e2 (by decide)⟩
      split <;> omega
def spTake : Sp := fun vs H Q _ => ∃ (p : Addr) (m : Int), vs = [.ref p, .int m] ∧ PotAt H p ∧ 1 ≤ m ∧ m < 2 ^ 200 ∧ ∀ (d : Nat) H', (d : Int) < m → But p H H' → PotAt H' p → Q (.int d) H'
theorem k__law_draw (D : Df K mg "_law_draw" s__law_draw ["_law_store_here", "_law_many"]) : Dn P w K mg base 1 "_law_draw" ["_law_store_here", "_law_many"] spTake := by
  refine D.ok fun f fd F => okG0 F sc__law_draw (fun vs H Q E h => ?_) (fun cdv A outer s H vs Q E hr h => ⟨_, (pss_cons (ps_if (pt_cmpR op_gt (pe_ix (kk (K := K) (F := rIxL) (P := IxR _) ix_list) (pv 0) pe_int (fun _ _ => rfl)) pe_int (nomark _))
      (pss_cons (ps_set (i := 2) sc__law_draw.nd rfl (Or.inl rfl) (pe_op op_mod (pe_ix (kk (K := K) (F := rIxL) (P := IxR _) ix_list) (pv 0) pe_int (fun _ _ => rfl)) (pv 1)))
      (pss_cons (ps_asg (pe_op op_fdivW (pe_ix (kk (K := K) (F := rIxL) (P := IxR _) ix_list) (pv 0) pe_int (fun _ _ => rfl)) (pv 1)) (pg_sub (pv 0) pe_int set_list))
      (pss_one (ps_ret (pv 2)))))
      pss_nil)
    (pss_cons (ps_asg (pe_op op_mod (pe_op op_add (pe_op op_mulX (pe_ix (kk (K := K) (F := rIxL) (P := IxR _) ix_list) (pv 0) pe_int (fun _ _ => rfl)) pe_int) pe_int) pe_int) (pg_sub (pv 0) pe_int set_list))
    (pss_one (ps_ret (pe_op op_mod (pe_op op_fdivW (pe_op op_mod (pe_op op_pow (pe_ix (kk (K := K) (F := rIxL) (P := IxR _) ix_list) (pv 0) pe_int (fun _ _ => rfl)) pe_int) pe_int) pe_int) (pv 1)))))), ?_⟩)
  · obtain ⟨p, m, rfl, _⟩ := h; rfl
  · obtain ⟨p, m, rfl, ⟨a, b, hp, ha, hb, hb2⟩, hm, hm2, q0⟩ := h
    have q : ∀ (d : Int) H', 0 ≤ d → d < m → But p H H' → PotAt H' p → Q (.int d) H' := fun d H' d0 d1 => by
      obtain ⟨e, rfl⟩ : ∃ e : Nat, d = (e : Int) := ⟨d.toNat, by omega⟩
      exact q0 e H' d1
    refine ⟨_, rfl, p, _, _, _, rfl, rfl, SqL.of hp, at_of (j := 0) rfl rfl, _, _, rfl, rfl, _, rfl, ite2 (fun c => ?_) (fun c => ?_)⟩
    · refine ⟨_, rfl, p, _, _, _, rfl, rfl, SqL.of hp, at_of (j := 0) rfl rfl, _, rfl, _, _, rfl, rfl, by omega, ?_⟩
      refine ⟨_, rfl, p, _, _, _, rfl, rfl, SqL.of hp, at_of (j := 0) rfl rfl, _, rfl, _, _, rfl, rfl, ⟨by omega, Nat.lt_trans (log_lt (n := 200) (by decide) (by omega)) (by decide)⟩, _, rfl, p, _, _, _, rfl, rfl, hp, rfl, _, rfl, ?_⟩
      have h1 := Int.emod_nonneg a (by omega : m ≠ 0)
      have h2 := Int.emod_lt_of_pos a (by omega : 0 < m)
      have h3 := Int.ediv_nonneg ha (by omega : 0 ≤ m)
      exact q _ _ h1 h2 But.upd ⟨_, _, upd_same, h3, hb, hb2⟩
    · have hm1 := Int.emod_nonneg (b * 48271 + 12289) (by decide : (2147483647 : Int) ≠ 0)
      have hm3 := Int.emod_lt_of_pos (b * 48271 + 12289) (by decide : (0 : Int) < 2147483647)
      refine ⟨_, rfl, p, _, _, _, rfl, rfl, SqL.of hp, at_of (j := 1) rfl rfl, _, _, rfl, rfl, mulx 40 16 (by omega) (by decide), _, _, rfl, rfl, _, _, rfl, rfl, pj, ?_⟩
      refine ⟨_, rfl, p, _, _, _, rfl, rfl, hp, rfl, ?_⟩
      refine ⟨_, rfl, p, _, _, _, rfl, rfl, SqL.of upd_same, at_of (j := 1) rfl rfl, _, _, rfl, rfl, ⟨by decide, by decide, by omega⟩, ?_⟩
      refine ⟨_, _, rfl, rfl, pj, _, _, rfl, rfl, ⟨by decide, by decide⟩, _, rfl, _, _, rfl, rfl, hm, ?_⟩
      exact q _ _ (Int.emod_nonneg _ (by omega)) (Int.emod_lt_of_pos _ (by omega)) But.upd ⟨_, _, upd_same, ha, hm1, by omega⟩
def spLT6 (n : Nat) : Sp := fun vs H Q _ => ∃ (p : Addr) (f m : Nat), vs = [.ref p, .int f, .int m] ∧ PotAt H p ∧ 1 ≤ m ∧ m ≤ n ∧ m ≤ 40 ∧ ∀ v t H', But p H H' → PotAt H' p → TrAt H' v t → IsRow t f → t.cnt = m → Q v H'
theorem _law_tree_z (vs : List V) (H : Hp) (Q : VK) (E : XK) : ¬ spLT6 0 vs H Q E := by
  rintro ⟨p, f, m, _, _, h1, h2, _⟩
  omega
theorem k__law_tree_rec (D : Df K mg "_law_tree" s__law_tree ["_law_store_here", "_law_first", "_law_many"]) (D__law_draw : Dn P w K mg base 1 "_law_draw" ["_law_store_here", "_law_many"] spTake) : ∀ n : Nat, Dn P w K mg base (2 + n) "_law_tree" ["_law_store_here", "_law_first", "_law_many"] (spLT6 n) := by
  intro n
  induction n with
  | zero => exact D.ok fun f fd F => ⟨fun vs H Q E h => (_law_tree_z B vs H Q E h).elim, fun _ _ _ _ h => (_law_tree_z B _ _ _ _ h).elim⟩
  | succ n D__law_tree =>
    refine D.ok fun f fd F => okG0 (k := 2 + n) F sc__law_tree (fun vs H Q E h => ?_) (fun cdv A outer s H vs Q E hr h => ⟨_, (pss_cons (ps_if (pt_cmpR op_eq (pv 2) pe_int (nomark _))
      (pss_one (ps_ret (pv 1)))
      pss_nil)
    (pss_cons (ps_set (i := 3) sc__law_tree.nd rfl (Or.inl rfl) (pe_op op_add pe_int (pe_cD D__law_draw (hr.less (by omega)) rfl (pa_cons (pv 0) (pa_cons (pe_op op_sub (pv 2) pe_int) pa_nil)))))
    (pss_cons (ps_set (i := 4) sc__law_tree.nd rfl (Or.inl rfl) (pe_cD D__law_tree (hr.less (by omega)) rfl (pa_cons (pv 0) (pa_cons (pv 1) (pa_cons (pv 3) pa_nil)))))
    (pss_one (ps_ret (pe_tup (pa_cons (pv 4) (pa_cons (pe_cD D__law_tree (hr.less (by omega)) rfl (pa_cons (pv 0) (pa_cons (pe_op op_add (pv 1) (pv 3)) (pa_cons (pe_op op_sub (pv 2) (pv 3)) pa_nil)))) pa_nil)))))))), ?_⟩)
    · obtain ⟨p, f, m, rfl, _⟩ := h; rfl
    · obtain ⟨p, f, m, rfl, hp, h1, h2, h40, q⟩ := h
      refine ⟨_, rfl, rfl, _, rfl, ite2 (fun c => ?_) (fun c => ?_)⟩
      · have c' : m = 1 := by have := V.int.inj (of_decide_eq_true c); omega
        subst c'
        exact ⟨_, rfl, q _ (.leaf f) _ But.refl hp rfl rfl rfl⟩
      · have c' : m ≠ 1 := fun z => c (by subst z; rfl)
        refine ⟨_, rfl, _, rfl, _, _, rfl, rfl, p, _, rfl, hp, by omega, Int.lt_of_le_of_lt (b := 40) (by omega) (by decide), fun e H1 e1 b1 p1 => ⟨_, _, rfl, rfl, ?_⟩⟩
        refine ⟨_, rfl, _, rfl, _, rfl, p, f, 1 + e, rfl, p1, by omega, by omega, by omega, fun v1 t1 H2 b2 p2 k1 k2 k3 => ?_⟩
        refine ⟨_, rfl, _, rfl, _, rfl, _, rfl, _, _, rfl, rfl, _, rfl, _, rfl, _, _, rfl, rfl, p, f + (1 + e), m - (1 + e), ?_, p2, by omega, by omega, by omega, fun v2 t2 H3 b3 p3 g1 g2 g3 => ⟨sz, fun a ha => ?_⟩⟩
        · show [V.ref p, V.int ((f : Int) + (1 + (e : Int))), V.int ((m : Int) - (1 + (e : Int)))] = _
          rw [show (f : Int) + (1 + (e : Int)) = ((f + (1 + e) : Nat) : Int) by omega, show (m : Int) - (1 + (e : Int)) = ((m - (1 + e) : Nat) : Int) by omega] <;> rfl
        · have S3 := same_new ha (.tup [v1, v2])
          obtain ⟨_, _, hp2, _⟩ := p2
          refine q _ (.node t1 t2) _ (b1.trans (b2.trans (b3.trans (same_but S3)))) (p3.same S3) ⟨a, v1, v2, rfl, upd_same, (k1.but b3 hp2).same S3, g1.same S3⟩ ⟨k2, by rw [k3]; exact g2⟩ ?_
          show t1.cnt + t2.cnt = m
          omega
theorem k__law_tree (D : Df K mg "_law_tree" s__law_tree ["_law_store_here", "_law_first", "_law_many"]) (D__law_draw : Dn P w K mg base 1 "_law_draw" ["_law_store_here", "_law_many"] spTake) : Dn P w K mg base 42 "_law_tree" ["_law_store_here", "_law_first", "_law_many"] (spLT6 40) := k__law_tree_rec B D D__law_draw 40
/-! SPLIT -/

def spOdd67 (K : PySem.W.Frag) : Sp := fun vs H Q _ => ∃ (p : Addr) (b : Nat), vs = [.ref p, .int b] ∧ PotAt H p ∧ b ≤ 1000 ∧ ∀ v d H', But p H H' → PotAt H' p → Od K p H' v d 10 2 → Q v H'
theorem k__law_odd (D : Df K mg "_law_odd" s__law_odd ["_law_store_here", "_law_beyond"]) (D__law_draw : Dn P w K mg base 1 "_law_draw" ["_law_store_here", "_law_many"] spTake) : Dn P w K mg base 3 "_law_odd" ["_law_store_here", "_law_beyond"] (spOdd67 K) := by
  refine D.ok fun f fd F => okG0 F sc__law_odd (fun vs H Q E h => ?_) (fun cdv A outer s H vs Q E hr h => ⟨_, (pss_one (ps_ret (pe_ix (kk (K := K) (F := rIxL) (P := IxR _) ix_list) (pe_lstS (pa_cons (pe_un un_neg pe_int) (pa_cons (pv 1) (pa_cons pe_bl (pa_cons pe_str (pa_cons pe_non (pa_cons (pe_tup pa_nil) (pa_cons pe_bl (pa_cons (pe_tup (pa_cons pe_int pa_nil)) (pa_cons (pe_op op_pow pe_int pe_int) (pa_cons (pe_lstS (pa_cons pe_int pa_nil)) pa_nil))))))))))) (pe_cD D__law_draw (hr.less (by decide)) rfl (pa_cons (pv 0) (pa_cons pe_int pa_nil))) (fun _ _ => rfl)))), ?_⟩)
  · obtain ⟨p, b, rfl, _⟩ := h; rfl
  · obtain ⟨p, b, rfl, hp, hb, q⟩ := h
    have cp : CPow 10 29 := ⟨by decide, by decide, by decide⟩
    try walk_at "go"
    intro T1 hT1
    generalize eH1 : upd _ T1 _ = H1
    have SH1 := newS eH1 hT1
    have oT1 := newO eH1
    try walk_at "go"
    intro T2 hT2
    generalize eH2 : upd _ T2 _ = H2
    have SH2 := newS eH2 hT2
    have oT2 := newO eH2
    try walk_at "go"
    intro L1 hL1
    generalize eH3 : upd _ L1 _ = H3
    have SH3 := newS eH3 hL1
    have oL1 := newO eH3
    intro s3
    try walk_at "go"
    intro M hM
    generalize eH4 : upd _ M _ = H4
    have SH4 := newS eH4 hM
    have oM := newO eH4
    intro s4
    let tr0 : List (V × PyData) := [(.int (-1), .int (-1)), (.int b, .int b), (.bl true, .bool true), (.str "0", .str "0"), (.non, .none), (.ref T1, .tuple []), (.bl false, .bool false), (.ref T2, .tuple [.int 0]), (.int (10 ^ Int.toNat 29), .int (10 ^ Int.toNat 29)), (.ref L1, .list [.int 0])]
    have oM' : H4 M = some (.lst (tr0.map fun t => t.1)) := oM
    have lt0 : (tr0.map fun t => t.1).length = 10 := rfl
    have g1 := (SH2.trans (SH3.trans SH4)) _ _ oT1
    have g2 := (SH3.trans SH4) _ _ oT2
    have g3 := SH4 _ _ oL1
    have p2 := hp.same (SH1.trans SH2)
    have p3 := p2.same SH3
    have p4 := p3.same SH4
    have nL := pot_ne p2 hL1
    have nM := pot_ne p3 hM
    have all0 : ∀ t ∈ tr0, Od K p H4 t.1 t.2 10 2 := fun t ht => by
      simp only [tr0, List.mem_cons, List.not_mem_nil, or_false] at ht
      rcases ht with rfl | rfl | rfl | rfl | rfl | rfl | rfl | rfl | rfl | rfl
      · exact ⟨.int _, by show 1 ≤ 10; decide, by show 0 ≤ 2; decide⟩
      · exact ⟨.int _, by show 1 ≤ 10; decide, by show 0 ≤ 2; decide⟩
      · exact ⟨.bl _, by show 1 ≤ 10; decide, by show 0 ≤ 2; decide⟩
      · exact ⟨.str _, by show 1 ≤ 10; decide, by show 0 ≤ 2; decide⟩
      · exact ⟨.non, by show 1 ≤ 10; decide, by show 0 ≤ 2; decide⟩
      · exact ⟨Th.tup (tr := []) g1 (fun t ht => (nomatch ht)), by show nsz (.tuple []) ≤ 10; decide, by show (PyData.tuple []).depth ≤ 2; decide⟩
      · exact ⟨.bl _, by show 1 ≤ 10; decide, by show 0 ≤ 2; decide⟩
      · exact ⟨Th.tup (tr := [(.int 0, .int 0)]) g2 fun t ht => by cases List.mem_singleton.mp ht; exact .int _, by show nsz (.tuple [.int 0]) ≤ 10; decide, by show (PyData.tuple [.int 0]).depth ≤ 2; decide⟩
      · exact ⟨.int _, by show 1 ≤ 10; decide, by show 0 ≤ 2; decide⟩
      · exact ⟨Th.lst (tr := [(.int 0, .int 0)]) nL s3 g3 fun t ht => by cases List.mem_singleton.mp ht; exact .int _, by show nsz (.list [.int 0]) ≤ 10; decide, by show (PyData.list [.int 0]).depth ≤ 2; decide⟩
    clear oM eH4
    clear_value tr0
    try walk_at "go"
    intro e H5 e1 b5 p5
    have oM5 := b5 _ _ nM oM'
    have el : e < tr0.length := by rw [List.length_map] at lt0; omega
    have ixe : atI (tr0.map fun t => t.1) (e : Int) = some tr0[e].1 := atI_nat (by rw [List.getElem?_map, List.getElem?_eq_getElem el] <;> rfl)
    have the := all0 _ (List.getElem_mem el)
    try walk_at "go"
    exact q _ _ H5 ((same_but (SH1.trans (SH2.trans (SH3.trans SH4)))).trans b5) p5 (the.but b5 p4)
/-! SPLIT -/
def spRow67 (K : PySem.W.Frag) : Sp := fun vs H Q _ => ∃ (p R : Addr) (tr : List (V × PyData)) (b : Nat), vs = [.ref p, .ref R, .int b] ∧ PotAt H p ∧ H R = some (.tup (tr.map fun t => t.1)) ∧ (∀ t ∈ tr, Od K p H t.1 t.2 100 2) ∧ tr.length ≤ 40 ∧ b ≤ 1000 ∧ ∀ v d H', But p H H' → PotAt H' p → Od K p H' v d 10000 3 → Q v H'
theorem k__law_row_spoilt (D : Df K mg "_law_row_spoilt" s__law_row_spoilt ["_law_store_here", "_law_row", "_law_beyond"]) (D__law_draw : Dn P w K mg base 1 "_law_draw" ["_law_store_here", "_law_many"] spTake) (D__law_odd : Dn P w K mg base 3 "_law_odd" ["_law_store_here", "_law_beyond"] (spOdd67 K)) : Dn P w K mg base 5 "_law_row_spoilt" ["_law_store_here", "_law_row", "_law_beyond"] (spRow67 K) := by
  refine D.ok fun f fd F => okG0 F sc__law_row_spoilt (fun vs H Q E h => ?_) (fun cdv A outer s H vs Q E hr h => ⟨_, (pss_cons (ps_set (i := 3) sc__law_row_spoilt.nd rfl (Or.inl rfl) (pe_cD D__law_draw (hr.less (by decide)) rfl (pa_cons (pv 0) (pa_cons pe_int pa_nil))))
    (pss_cons (ps_set (i := 4) sc__law_row_spoilt.nd rfl (Or.inl rfl) (pe_cD D__law_draw (hr.less (by decide)) rfl (pa_cons (pv 0) (pa_cons (pe_callB (call_max2 rfl) (by rfl) B.max_ (by decide +kernel) (pa_cons pe_int (pa_cons (pe_callB (lenK (K := K)) (by rfl) B.len_ (by decide +kernel) (pa_cons (pv 1) pa_nil)) pa_nil))) pa_nil))))
    (pss_cons (ps_if (pt_cmpR op_eq (pv 3) pe_int (nomark _))
      (pss_one (ps_ret (pe_callTy (lstOfS (K := K)) (by rfl) B.list_ (by decide +kernel) (pa_cons (pv 1) pa_nil))))
      pss_nil)
    (pss_cons (ps_if (pt_cmpR op_eq (pv 3) pe_int (nomark _))
      (pss_one (ps_ret (pe_op op_catU (pe_slice sl_tupU (pv 1) po_none (po_some (pv 4))) (pe_slice sl_tupU (pv 1) (po_some (pe_op op_add (pv 4) pe_int)) po_none))))
      pss_nil)
    (pss_cons (ps_if (pt_cmpR op_eq (pv 3) pe_int (nomark _))
      (pss_one (ps_ret (pe_op op_catU (pe_op op_catU (pe_slice sl_tupU (pv 1) po_none (po_some (pv 4))) (pe_slice sl_tupU (pv 1) (po_some (pv 4)) (po_some (pe_op op_add (pv 4) pe_int)))) (pe_slice sl_tupU (pv 1) (po_some (pv 4)) po_none))))
      pss_nil)
    (pss_cons (ps_if (pt_cmpR op_eq (pv 3) pe_int (nomark _))
      (pss_one (ps_ret (pe_ix (kk (K := K) (F := rIxL) (P := IxR _) ix_list) (pe_lstS (pa_cons pe_non (pa_cons pe_str (pa_cons pe_int (pa_cons pe_dnewK (pa_cons (pe_op op_catU (pv 1) (pe_tup (pa_cons (pe_tup pa_nil) pa_nil))) (pa_cons pe_bl pa_nil))))))) (pe_cD D__law_draw (hr.less (by decide)) rfl (pa_cons (pv 0) (pa_cons pe_int pa_nil))) (fun _ _ => rfl))))
      pss_nil)
    (pss_one (ps_ret (pe_op op_catU (pe_op op_catU (pe_slice sl_tupU (pv 1) po_none (po_some (pv 4))) (pe_tup (pa_cons (pe_cD D__law_odd (hr.less (by decide)) rfl (pa_cons (pv 0) (pa_cons (pv 2) pa_nil))) pa_nil))) (pe_slice sl_tupU (pv 1) (po_some (pe_op op_add (pv 4) pe_int)) po_none)))))))))), ?_⟩)
  · obtain ⟨p, R, tr, b, rfl, _⟩ := h; rfl
  · obtain ⟨p, R, tr, b, rfl, hp, hR, htr, l40, hb, q⟩ := h
    have lm : (tr.map fun t => t.1).length = tr.length := List.length_map _
    try walk_at "go"
    intro c H1 c6 b1 p1
    have hR1 := TK.but b1 hp _ _ hR
    try walk_at "go"
    intro at' H2 a1 b2 p2
    have B2 := b1.trans b2
    have hR2 := TK.but b2 p1 _ _ hR1
    have htr2 : ∀ t ∈ tr, Od K p H2 t.1 t.2 100 2 := fun t ht => (htr t ht).but B2 hp
    have atl : at' ≤ tr.length := by rw [lm] at a1; split at a1 <;> omega
    have slz : 3000000 ≤ sizeLine := by decide
    try walk_at "go"
    refine ite2 (fun c3 => ?_) (fun c3 => ?_)
    · try walk_at "go"
      intro L hL
      generalize eH3 : upd _ L _ = H3
      have SH3 := newS eH3 hL
      have oL := newO eH3
      intro s3
      exact q _ (.list (tr.map fun t => t.2)) H3 (B2.trans (same_but SH3)) (p2.same SH3) (Od.lst (pot_ne p2 hL) s3 oL (fun t ht => (htr2 t ht).same SH3) (by omega) (by omega))
    try walk_at "go"
    have lt1 : (tr.take at').length ≤ tr.length := by rw [List.length_take]; omega
    have lm1 : ((tr.take at').map fun t => t.1).length = (tr.take at').length := List.length_map _
    have lt2 : (tr.drop at').length ≤ tr.length := by rw [List.length_drop]; omega
    have lm2 : ((tr.drop at').map fun t => t.1).length = (tr.drop at').length := List.length_map _
    have lt3 : (tr.drop (at' + 1)).length ≤ tr.length := by rw [List.length_drop]; omega
    have lm3 : ((tr.drop (at' + 1)).map fun t => t.1).length = (tr.drop (at' + 1)).length := List.length_map _
    have lt4 : ((tr.drop at').take 1).length ≤ 1 := by rw [List.length_take]; omega
    have lm4 : (((tr.drop at').take 1).map fun t => t.1).length = ((tr.drop at').take 1).length := List.length_map _
    have at1 : ((at' : Int) + 1) = ((at' + 1 : Nat) : Int) := by omega
    have tk : ∀ t ∈ tr.take at', t ∈ tr := fun t => List.mem_of_mem_take
    have dk : ∀ t ∈ tr.drop at', t ∈ tr := fun t => List.mem_of_mem_drop
    have dk1 : ∀ t ∈ tr.drop (at' + 1), t ∈ tr := fun t => List.mem_of_mem_drop
    have dk2 : ∀ t ∈ (tr.drop at').take 1, t ∈ tr := fun t h => List.mem_of_mem_drop (List.mem_of_mem_take h)
    have fin : ∀ (xs : List (V × PyData)) (T : Addr) (H' : Hp), But p H2 H' → PotAt H' p → H' T = some (.tup (xs.map fun t => t.1)) → (∀ t ∈ xs, Od K p H' t.1 t.2 100 2) → xs.length ≤ 90 → Q (.ref T) H' := fun xs T H' be pe o th l => q _ _ H' (B2.trans be) pe (Od.tup o th (by omega) (by omega))
    refine ite2 (fun c4 => ?_) (fun c4 => ?_)
    · try walk_at "go"
      intro T1 H3 S3 o3
      rw [cut_toU, ← List.map_take] at o3
      have hR3 := S3 _ _ hR2
      try walk_at "go"
      intro T2 H4 S4 o4
      have o4 : H4 T2 = some (.tup (cutV (tr.map fun t => t.1) (some ((at' : Int) + 1)) none)) := o4
      rw [at1, cut_fromU, ← List.map_drop] at o4
      have o34 := S4 _ _ o3
      try walk_at "go"
      intro T3 H5 S5 o5
      have S := S3.trans (S4.trans S5)
      refine fin (tr.take at' ++ tr.drop (at' + 1)) T3 H5 (same_but S) (p2.same S) (by rw [o5, List.map_append]) (fun t ht => ?_) (by rw [List.length_append]; omega)
      rcases List.mem_append.mp ht with h | h
      · exact (htr2 t (tk t h)).same S
      · exact (htr2 t (dk1 t h)).same S
    try walk_at "go"
    refine ite2 (fun c5 => ?_) (fun c5 => ?_)
    · try walk_at "go"
      intro T1 H3 S3 o3
      rw [cut_toU, ← List.map_take] at o3
      have hR3 := S3 _ _ hR2
      try walk_at "go"
      intro T2 H4 S4 o4
      have o4 : H4 T2 = some (.tup (cutV (tr.map fun t => t.1) (some (at' : Int)) (some ((at' : Int) + 1)))) := o4
      rw [at1, cut_midU _ _ (by rw [lm]; exact atl), show at' + 1 - at' = 1 by omega, ← List.map_drop, ← List.map_take] at o4
      have o34 := S4 _ _ o3
      have hR4 := S4 _ _ hR3
      try walk_at "go"
      intro T3 H5 S5 o5
      have hR5 := S5 _ _ hR4
      try walk_at "go"
      intro T4 H6 S6 o6
      rw [cut_fromU, ← List.map_drop] at o6
      have o56 := S6 _ _ o5
      have lz : ((tr.take at').map fun t => t.1).length + (((tr.drop at').take 1).map fun t => t.1).length ≤ 100 := by omega
      try walk_at "go"
      intro T5 H7 S7 o7
      have S := S3.trans (S4.trans (S5.trans (S6.trans S7)))
      refine fin (tr.take at' ++ (tr.drop at').take 1 ++ tr.drop at') T5 H7 (same_but S) (p2.same S) (by rw [o7, List.map_append, List.map_append]) (fun t ht => ?_) (by rw [List.length_append, List.length_append]; omega)
      rcases List.mem_append.mp ht with h | h
      · rcases List.mem_append.mp h with h | h
        · exact (htr2 t (tk t h)).same S
        · exact (htr2 t (dk2 t h)).same S
      · exact (htr2 t (dk t h)).same S
    try walk_at "go"
    refine ite2 (fun c6 => ?_) (fun c6 => ?_)
    · try walk_at "go"
      intro D1 hD1
      generalize eH3 : upd _ D1 _ = H3
      have SH3 := newS eH3 hD1
      have oD1 := newO eH3
      have hR3 := SH3 _ _ hR2
      try walk_at "go"
      intro T1 hT1
      generalize eH4 : upd _ T1 _ = H4
      have SH4 := newS eH4 hT1
      have oT1 := newO eH4
      try walk_at "go"
      intro T2 hT2
      generalize eH5 : upd _ T2 _ = H5
      have SH5 := newS eH5 hT2
      have oT2 := newO eH5
      have hR5 := SH5 _ _ (SH4 _ _ hR3)
      try walk_at "go"
      intro T3 H6 S6 o6
      try walk_at "go"
      intro M hM
      generalize eH7 : upd _ M _ = H7
      have SH7 := newS eH7 hM
      have oM := newO eH7
      intro s7
      let tr0 : List (V × PyData) := [(.non, .none), (.str "", .str ""), (.int 0, .int 0), (.ref D1, .dict []), (.ref T3, .tuple ((tr ++ [(V.ref T1, PyData.tuple [])]).map fun t => t.2)), (.bl false, .bool false)]
      have oM' : H7 M = some (.lst (tr0.map fun t => t.1)) := oM
      have lt0 : (tr0.map fun t => t.1).length = 6 := rfl
      have S47 := SH5.trans (S6.trans SH7)
      have g1 := (SH4.trans S47) _ _ oD1
      have g2 := S47 _ _ oT1
      have g3 := SH7 _ _ o6
      have S := SH3.trans (SH4.trans S47)
      have p6 := p2.same (SH3.trans (SH4.trans (SH5.trans S6)))
      have p7 := p6.same SH7
      have nM := pot_ne p6 hM
      have all0 : ∀ t ∈ tr0, Od K p H7 t.1 t.2 10000 3 := fun t ht => by
        simp only [tr0, List.mem_cons, List.not_mem_nil, or_false] at ht
        rcases ht with rfl | rfl | rfl | rfl | rfl | rfl
        · exact ⟨.non, by show 1 ≤ 10000; decide, by show 0 ≤ 3; decide⟩
        · exact ⟨.str _, by show 1 ≤ 10000; decide, by show 0 ≤ 3; decide⟩
        · exact ⟨.int _, by show 1 ≤ 10000; decide, by show 0 ≤ 3; decide⟩
        · exact ⟨Th.dct (tr := []) g1 (fun t ht => (nomatch ht)), by show nsz (.dict []) ≤ 10000; decide, by show (PyData.dict []).depth ≤ 3; decide⟩
        · refine Od.tup (K := K) (p := p) (a := T3) (H := H7) (N := 100) (D := 2) (N' := 10000) (D' := 3) (tr := tr ++ [(V.ref T1, PyData.tuple [])]) (by rw [g3, List.map_append] <;> rfl) (fun t ht => ?_) (by rw [List.length_append]; show 1 + 100 * (tr.length + 1) ≤ 10000; omega) (by decide)
          rcases List.mem_append.mp ht with h | h
          · exact (htr2 t h).same S
          · cases List.mem_singleton.mp h
            exact ⟨Th.tup (tr := []) g2 (fun t ht => (nomatch ht)), by show nsz (.tuple []) ≤ 100; decide, by show (PyData.tuple []).depth ≤ 2; decide⟩
        · exact ⟨.bl _, by show 1 ≤ 10000; decide, by show 0 ≤ 3; decide⟩
      clear oM eH7
      clear_value tr0
      try walk_at "go"
      intro e H8 e1 b8 p8
      have oM8 := b8 _ _ nM oM'
      have el : e < tr0.length := by rw [List.length_map] at lt0; omega
      have ixe : atI (tr0.map fun t => t.1) (e : Int) = some tr0[e].1 := atI_nat (by rw [List.getElem?_map, List.getElem?_eq_getElem el] <;> rfl)
      have the := all0 _ (List.getElem_mem el)
      try walk_at "go"
      exact q _ _ H8 (B2.trans ((same_but S).trans b8)) p8 (the.but b8 p7)
    try walk_at "go"
    intro T1 H3 S3 o3
    rw [cut_toU, ← List.map_take] at o3
    have hR3 := S3 _ _ hR2
    have p3 := p2.same S3
    try walk_at "go"
    intro v' d' H4 b4 p4 od4
    have o4 := TK.but b4 p3 _ _ o3
    have hR4 := TK.but b4 p3 _ _ hR3
    try walk_at "go"
    intro U hU
    generalize eH5 : upd _ U _ = H5
    have SH5 := newS eH5 hU
    have oU := newO eH5
    have o5 := SH5 _ _ o4
    have hR5 := SH5 _ _ hR4
    have lz : ((tr.take at').map fun t => t.1).length + [v'].length ≤ 100 := by show _ + 1 ≤ 100; omega
    try walk_at "go"
    intro T2 H6 S6 o6
    have hR6 := S6 _ _ hR5
    try walk_at "go"
    intro T3 H7 S7 o7
    have o7 : H7 T3 = some (.tup (cutV (tr.map fun t => t.1) (some ((at' : Int) + 1)) none)) := o7
    rw [at1, cut_fromU, ← List.map_drop] at o7
    have o67 := S7 _ _ o6
    have lz2 : (((tr.take at').map fun t => t.1) ++ [v']).length ≤ 100 := by rw [List.length_append]; exact lz
    try walk_at "go"
    intro T4 H8 S8 o8
    have S := SH5.trans (S6.trans (S7.trans S8))
    have b28 := (same_but S3).trans (b4.trans (same_but S))
    refine fin (tr.take at' ++ [(v', d')] ++ tr.drop (at' + 1)) T4 H8 b28 (p4.same S) (by rw [o8, List.map_append, List.map_append] <;> rfl) (fun t ht => ?_) (by rw [List.length_append, List.length_append]; show _ + 1 + _ ≤ 90; omega)
    rcases List.mem_append.mp ht with h | h
    · rcases List.mem_append.mp h with h | h
      · exact (htr2 t (tk t h)).but b28 p2
      · cases List.mem_singleton.mp h
        exact (od4.same S).mono (by decide) (by decide)
    · exact (htr2 t (dk1 t h)).but b28 p2
/-! SPLIT -/
def ra (x : Addr × List Nat) : V × PyData := (.ref x.1, .tuple ((iN x.2).map PyData.int))
def inD (n : Int) : V × PyData := (.int n, .int n)
omit B in
theorem ra_1 {rs : List (Addr × List Nat)} : (rs.map ra).map (fun t => t.1) = rs.map fun x => V.ref x.1 := by rw [List.map_map] <;> rfl
omit B in
theorem inD_1 {xs : List Int} : (xs.map inD).map (fun t => t.1) = xs.map V.int := by rw [List.map_map] <;> rfl
omit B in
theorem inD_2 {xs : List Int} : (xs.map inD).map (fun t => t.2) = xs.map PyData.int := by rw [List.map_map] <;> rfl
omit B in
theorem inD_od {K : PySem.W.Frag} {p : Addr} {H : Hp} {xs : List Int} : ∀ t ∈ xs.map inD, Od K p H t.1 t.2 1 0 := fun t ht => by
  obtain ⟨n, _, rfl⟩ := List.mem_map.mp ht
  exact ⟨.int _, Nat.le_refl _, Nat.le_refl _⟩
omit B in
theorem ra_od {K : PySem.W.Frag} {p : Addr} {H : Hp} {x : Addr × List Nat} {k : Nat} (h : H x.1 = some (.tup ((iN x.2).map V.int))) (l : x.2.length ≤ k) : Od K p H (ra x).1 (ra x).2 (1 + k) 1 := by
  have := Od.tup (K := K) (p := p) (a := x.1) (H := H) (N := 1) (D := 0) (N' := 1 + k) (D' := 1) (tr := (iN x.2).map inD) (by rw [inD_1]; exact h) inD_od (by unfold iN; rw [List.length_map, List.length_map]; omega) (Nat.le_refl _)
  rw [inD_2] at this
  exact this
/-- rows of numbers, no longer than six -/
structure Ro6 (H : Hp) (R : Addr) (rs : List (Addr × List Nat)) : Prop where
  top : H R = some (.tup (rs.map fun x => .ref x.1))
  rows : ∀ x ∈ rs, H x.1 = some (.tup ((iN x.2).map V.int)) ∧ x.2.length ≤ 6
  l1 : 1 ≤ rs.length
  l6 : rs.length ≤ 6
omit B in
theorem Ro6.tk {H H' : Hp} {R : Addr} {rs : List (Addr × List Nat)} (h : Ro6 H R rs) (e : TK H H') : Ro6 H' R rs := ⟨e _ _ h.top, fun x hx => ⟨e _ _ (h.rows x hx).1, (h.rows x hx).2⟩, h.l1, h.l6⟩
def spRows67 (K : PySem.W.Frag) : Sp := fun vs H Q _ => ∃ (p R : Addr) (rs : List (Addr × List Nat)) (b : Nat), vs = [.ref p, .ref R, .int b] ∧ PotAt H p ∧ Ro6 H R rs ∧ b ≤ 1000 ∧ ∀ v d H', But p H H' → PotAt H' p → Od K p H' v d 100000 4 → Q v H'
theorem k__law_rows_spoilt (D : Df K mg "_law_rows_spoilt" s__law_rows_spoilt ["_law_store_here", "_law_rows", "_law_beyond"]) (D__law_draw : Dn P w K mg base 1 "_law_draw" ["_law_store_here", "_law_many"] spTake) (D__law_row_spoilt : Dn P w K mg base 5 "_law_row_spoilt" ["_law_store_here", "_law_row", "_law_beyond"] (spRow67 K)) : Dn P w K mg base 6 "_law_rows_spoilt" ["_law_store_here", "_law_rows", "_law_beyond"] (spRows67 K) := by
  refine D.ok fun f fd F => okG0 F sc__law_rows_spoilt (fun vs H Q E h => ?_) (fun cdv A outer s H vs Q E hr h => ⟨_, (pss_cons (ps_set (i := 3) sc__law_rows_spoilt.nd rfl (Or.inl rfl) (pe_cD D__law_draw (hr.less (by decide)) rfl (pa_cons (pv 0) (pa_cons pe_int pa_nil))))
    (pss_cons (ps_if (pt_cmpR op_eq (pv 3) pe_int (nomark _))
      (pss_one (ps_ret (pe_cD D__law_row_spoilt (hr.less (by decide)) rfl (pa_cons (pv 0) (pa_cons (pv 1) (pa_cons (pv 2) pa_nil))))))
      pss_nil)
    (pss_cons (ps_set (i := 4) sc__law_rows_spoilt.nd rfl (Or.inl rfl) (pe_cD D__law_draw (hr.less (by decide)) rfl (pa_cons (pv 0) (pa_cons (pe_callB (lenK (K := K)) (by rfl) B.len_ (by decide +kernel) (pa_cons (pv 1) pa_nil)) pa_nil))))
    (pss_one (ps_ret (pe_op op_catU (pe_op op_catU (pe_slice sl_tupU (pv 1) po_none (po_some (pv 4))) (pe_tup (pa_cons (pe_cD D__law_row_spoilt (hr.less (by decide)) rfl (pa_cons (pv 0) (pa_cons (pe_ix (kk (K := K) (F := rIxT) (P := IxR _) ix_tup) (pv 1) (pv 4) (fun _ _ => rfl)) (pa_cons (pv 2) pa_nil)))) pa_nil))) (pe_slice sl_tupU (pv 1) (po_some (pe_op op_add (pv 4) pe_int)) po_none))))))), ?_⟩)
  · obtain ⟨p, R, rs, b, rfl, _⟩ := h; rfl
  · obtain ⟨p, R, rs, b, rfl, hp, hR, hb, q⟩ := h
    have lm : (rs.map fun x => V.ref x.1).length = rs.length := List.length_map _
    have h1 := hR.l1
    have h6 := hR.l6
    try walk_at "go"
    intro c H1 c3 b1 p1
    have hR1 := hR.tk (TK.but b1 hp)
    have top1 := hR1.top
    try walk_at "go"
    refine ite2 (fun c3 => ?_) (fun c3 => ?_)
    · have o1 : H1 R = some (.tup ((rs.map ra).map fun t => t.1)) := by rw [ra_1]; exact top1
      have a1 : ∀ t ∈ rs.map ra, Od K p H1 t.1 t.2 100 2 := fun t ht => by
        obtain ⟨x, hx, rfl⟩ := List.mem_map.mp ht
        exact (ra_od (hR1.rows x hx).1 (hR1.rows x hx).2).mono (by decide) (by decide)
      have l40 : (rs.map ra).length ≤ 40 := by rw [List.length_map]; omega
      try walk_at "go"
      intro v d H2 b2 p2 od
      exact q v d H2 (b1.trans b2) p2 (od.mono (by decide) (by decide))
    try walk_at "go"
    intro at' H2 a1 b2 p2
    have atl : at' < rs.length := by rw [lm] at a1; omega
    have hR2 := hR1.tk (TK.but b2 p1)
    have top2 := hR2.top
    have B2 := b1.trans b2
    have htr2 : ∀ t ∈ rs.map ra, Od K p H2 t.1 t.2 100 2 := fun t ht => by
      obtain ⟨x, hx, rfl⟩ := List.mem_map.mp ht
      exact (ra_od (hR2.rows x hx).1 (hR2.rows x hx).2).mono (by decide) (by decide)
    have ixr : atI (rs.map fun x => V.ref x.1) (at' : Int) = some (.ref rs[at'].1) := refs_atI atl
    have rowA := hR2.rows _ (List.getElem_mem atl)
    have slz : 3000000 ≤ sizeLine := by decide
    have at1 : ((at' : Int) + 1) = ((at' + 1 : Nat) : Int) := by omega
    have l1 : ((rs.take at').map fun x => V.ref x.1).length ≤ 6 := by rw [List.length_map, List.length_take]; omega
    have l3 : ((rs.drop (at' + 1)).map fun x => V.ref x.1).length ≤ 6 := by rw [List.length_map, List.length_drop]; omega
    try walk_at "go"
    intro T1 H3 S3 o3
    rw [cut_toU, ← List.map_take] at o3
    have p3 := p2.same S3
    have top3 := S3 _ _ top2
    have o9 : H3 rs[at'].1 = some (.tup (((iN rs[at'].2).map inD).map fun t => t.1)) := by rw [inD_1]; exact S3 _ _ rowA.1
    have a9 : ∀ t ∈ (iN rs[at'].2).map inD, Od K p H3 t.1 t.2 100 2 := fun t ht => (inD_od t ht).mono (by decide) (by decide)
    have l9 : ((iN rs[at'].2).map inD).length ≤ 40 := by have := rowA.2; unfold iN; rw [List.length_map, List.length_map]; omega
    try walk_at "go"
    intro v' d' H4 b4 p4 od4
    have o4 := TK.but b4 p3 _ _ o3
    have top4 := TK.but b4 p3 _ _ top3
    try walk_at "go"
    intro U hU
    generalize eH5 : upd _ U _ = H5
    have SH5 := newS eH5 hU
    have oU := newO eH5
    have o5 := SH5 _ _ o4
    have top5 := SH5 _ _ top4
    have lz : ((rs.take at').map fun x => V.ref x.1).length + [v'].length ≤ 100 := by show _ + 1 ≤ 100; omega
    try walk_at "go"
    intro T2 H6 S6 o6
    have top6 := S6 _ _ top5
    try walk_at "go"
    intro T3 H7 S7 o7
    have o7 : H7 T3 = some (.tup (cutV (rs.map fun x => V.ref x.1) (some ((at' : Int) + 1)) none)) := o7
    rw [at1, cut_fromU, ← List.map_drop] at o7
    have o67 := S7 _ _ o6
    have lz2 : (((rs.take at').map fun x => V.ref x.1) ++ [v']).length ≤ 100 := by rw [List.length_append]; exact lz
    try walk_at "go"
    intro T4 H8 S8 o8
    have S := SH5.trans (S6.trans (S7.trans S8))
    have b28 := (same_but S3).trans (b4.trans (same_but S))
    have tk : ∀ t ∈ (rs.take at').map ra, t ∈ rs.map ra := fun t h => by
      rw [List.map_take] at h
      exact List.mem_of_mem_take h
    have dk : ∀ t ∈ (rs.drop (at' + 1)).map ra, t ∈ rs.map ra := fun t h => by
      rw [List.map_drop] at h
      exact List.mem_of_mem_drop h
    refine q _ _ H8 (B2.trans b28) (p4.same S) (Od.tup (N := 10000) (D := 3) (tr := (rs.take at').map ra ++ [(v', d')] ++ (rs.drop (at' + 1)).map ra) (by rw [o8, List.map_append, List.map_append, ra_1, ra_1] <;> rfl) (fun t ht => ?_) ?_ (by decide))
    · rcases List.mem_append.mp ht with h | h
      · rcases List.mem_append.mp h with h | h
        · exact ((htr2 t (tk t h)).but b28 p2).mono (by decide) (by decide)
        · cases List.mem_singleton.mp h
          exact od4.same S
      · exact ((htr2 t (dk t h)).but b28 p2).mono (by decide) (by decide)
    · rw [List.length_append, List.length_append, List.length_map, List.length_map, List.length_take, List.length_drop]
      show 1 + 10000 * (min at' rs.length + 1 + (rs.length - (at' + 1))) ≤ 100000
      omega
/-! SPLIT -/
def spTrS67 (K : PySem.W.Frag) (n : Nat) : Sp := fun vs H Q _ => ∃ (p : Addr) (v : V) (t : Tr) (m : Nat), vs = [.ref p, v, .int m] ∧ PotAt H p ∧ TrAt H v t ∧ t.h ≤ n ∧ t.big ≤ 100 ∧ m ≤ 100 ∧ ∀ v' d H', But p H H' → PotAt H' p → Od K p H' v' d (2 * nsz t.d + 20) (t.h + 2) → Q v' H'
theorem _law_tree_spoilt_z (vs : List V) (H : Hp) (Q : VK) (E : XK) : ¬ spTrS67 K 0 vs H Q E := by
  rintro ⟨p, v, t, m, _, _, _, h, _⟩
  cases t with
  | leaf n => exact absurd h (by show ¬ 1 ≤ 0; decide)
  | node l r => exact absurd h (by show ¬ max l.h r.h + 1 ≤ 0; omega)
theorem k__law_tree_spoilt_rec (D : Df K mg "_law_tree_spoilt" s__law_tree_spoilt ["_law_store_here", "_law_tree_here", "_law_many"]) (D__law_draw : Dn P w K mg base 1 "_law_draw" ["_law_store_here", "_law_many"] spTake) : ∀ n : Nat, Dn P w K mg base (2 + n) "_law_tree_spoilt" ["_law_store_here", "_law_tree_here", "_law_many"] ((spTrS67 K) n) := by
  intro n
  induction n with
  | zero => exact D.ok fun f fd F => ⟨fun vs H Q E h => (_law_tree_spoilt_z B vs H Q E h).elim, fun _ _ _ _ h => (_law_tree_spoilt_z B _ _ _ _ h).elim⟩
  | succ n D__law_tree_spoilt =>
    refine D.ok fun f fd F => okG0 (k := 2 + n) F sc__law_tree_spoilt (fun vs H Q E h => ?_) (fun cdv A outer s H vs Q E hr h => ⟨_, (pss_cons (ps_set (i := 3) sc__law_tree_spoilt.nd rfl (Or.inl rfl) (pe_cD D__law_draw (hr.less (by omega)) rfl (pa_cons (pv 0) (pa_cons pe_int pa_nil))))
    (pss_cons (ps_if (PW.pt (pw_and (pt_val (pe_callB (kk (K := K) (F := rIsi) (P := CallR _ _) call_isi) (by rfl) B.isinstance_ (by decide +kernel) (pa_cons (pv 1) (pa_cons (pe_bltn (v := .ty "tuple") (u := .type "tuple") (by rfl) B.tuple_ (by decide +kernel) rfl) pa_nil)))) (pw_and1 (pt_cmpR op_gt (pv 3) pe_int (nomark _)))))
      (pss_cons (ps_set (i := 4) sc__law_tree_spoilt.nd rfl (Or.inl rfl) (pe_cD D__law_draw (hr.less (by omega)) rfl (pa_cons (pv 0) (pa_cons pe_int pa_nil))))
      (pss_cons (ps_set (i := 5) sc__law_tree_spoilt.nd rfl (Or.inl rfl) (pe_cD D__law_tree_spoilt (hr.less (by omega)) rfl (pa_cons (pv 0) (pa_cons (pe_ix (kk (K := K) (F := rIxT) (P := IxR _) ix_tup) (pv 1) (pv 4) (fun _ _ => rfl)) (pa_cons (pv 2) pa_nil)))))
      (pss_one (ps_ret (pe_ix (kk (K := K) (F := rIxL) (P := IxR _) ix_list) (pe_lstS (pa_cons (pe_tup (pa_cons (pv 5) (pa_cons (pe_ix (kk (K := K) (F := rIxT) (P := IxR _) ix_tup) (pv 1) pe_int (fun _ _ => rfl)) pa_nil))) (pa_cons (pe_tup (pa_cons (pe_ix (kk (K := K) (F := rIxT) (P := IxR _) ix_tup) (pv 1) pe_int (fun _ _ => rfl)) (pa_cons (pv 5) pa_nil))) pa_nil))) (pv 4) (fun _ _ => rfl))))))
      pss_nil)
    (pss_cons (ps_set (i := 6) sc__law_tree_spoilt.nd rfl (Or.inl rfl) (pe_lstS (pa_cons (pv 2) (pa_cons (pe_un un_neg pe_int) (pa_cons pe_non (pa_cons pe_str (pa_cons pe_bl (pa_cons (pe_tup pa_nil) (pa_cons (pe_tup (pa_cons (pv 1) pa_nil)) (pa_cons (pe_tup (pa_cons (pv 1) (pa_cons (pv 1) pa_nil))) (pa_cons (pe_lstS (pa_cons (pv 1) (pa_cons (pv 1) pa_nil))) (pa_cons (pe_tup (pa_cons (pv 1) (pa_cons (pv 2) pa_nil))) (pa_cons pe_int (pa_cons (pe_tup (pa_cons pe_int (pa_cons (pv 1) (pa_cons pe_int pa_nil)))) (pa_cons (pe_op op_sub (pv 2) pe_int) pa_nil)))))))))))))))
    (pss_one (ps_ret (pe_ix (kk (K := K) (F := rIxL) (P := IxR _) ix_list) (pv 6) (pe_cD D__law_draw (hr.less (by omega)) rfl (pa_cons (pv 0) (pa_cons pe_int pa_nil))) (fun _ _ => rfl))))))), ?_⟩)
    · obtain ⟨p, v, t, m, rfl, _⟩ := h; rfl
    · obtain ⟨p, v, t, m, rfl, hp, ht, hn, hb, hm, q⟩ := h
      try walk_at "go"
      intro c H1 c4 b1 p1
      have ht1 := ht.but b1 hp.choose_spec.choose_spec.1
      have th1 : Th K p H1 v t.d := ht1.th
      have ty := th1.ty
      have k1 := kit_tu (K := K) t.d
      cases ed : isTu t.d with
      | false =>
        rw [ed] at k1
        try walk_at "go"
        intro T1 hT1
        generalize eH2 : upd _ T1 _ = H2
        have SH2 := newS eH2 hT1
        have oT1 := newO eH2
        try walk_at "go"
        intro T2 hT2
        generalize eH3 : upd _ T2 _ = H3
        have SH3 := newS eH3 hT2
        have oT2 := newO eH3
        try walk_at "go"
        intro T3 hT3
        generalize eH4 : upd _ T3 _ = H4
        have SH4 := newS eH4 hT3
        have oT3 := newO eH4
        try walk_at "go"
        intro L4 hL4
        generalize eH5 : upd _ L4 _ = H5
        have SH5 := newS eH5 hL4
        have oL4 := newO eH5
        intro s5
        try walk_at "go"
        intro T5 hT5
        generalize eH6 : upd _ T5 _ = H6
        have SH6 := newS eH6 hT5
        have oT5 := newO eH6
        try walk_at "go"
        intro T6 hT6
        generalize eH7 : upd _ T6 _ = H7
        have SH7 := newS eH7 hT6
        have oT6 := newO eH7
        try walk_at "go"
        intro M hM
        generalize eH8 : upd _ M _ = H8
        have SH8 := newS eH8 hM
        have oM := newO eH8
        intro s8
        let tr0 : List (V × PyData) := [(.int m, .int m), (.int (-1), .int (-1)), (.non, .none), (.str "0", .str "0"), (.bl true, .bool true), (.ref T1, .tuple []), (.ref T2, .tuple [t.d]), (.ref T3, .tuple [t.d, t.d]), (.ref L4, .list [t.d, t.d]), (.ref T5, .tuple [t.d, .int m]), (.int 0, .int 0), (.ref T6, .tuple [.int 0, t.d, .int 1]), (.int ((m : Int) - 1), .int ((m : Int) - 1))]
        have oM' : H8 M = some (.lst (tr0.map fun t => t.1)) := oM
        have lt0 : (tr0.map fun t => t.1).length = 13 := rfl
        have S78 := SH7.trans SH8
        have S58 := SH6.trans S78
        have S48 := SH5.trans S58
        have S38 := SH4.trans S48
        have S28 := SH3.trans S38
        have S18 := SH2.trans S28
        have g1 := S28 _ _ oT1
        have g2 := S38 _ _ oT2
        have g3 := S48 _ _ oT3
        have g4 := S58 _ _ oL4
        have g5 := S78 _ _ oT5
        have g6 := SH8 _ _ oT6
        have p4 := p1.same (SH2.trans (SH3.trans SH4))
        have p7 := p4.same (SH5.trans (SH6.trans SH7))
        have p8 := p7.same SH8
        have nL := pot_ne p4 hL4
        have nM := pot_ne p7 hM
        have th8 := th1.same S18
        have dt : t.d.depth + 1 ≤ t.h := (Tr.wg (t := t) (b := 100) hb).2
        have nz1 : 1 ≤ nsz t.d := nsz_pos _
        have all0 : ∀ x ∈ tr0, Od K p H8 x.1 x.2 (2 * nsz t.d + 20) (t.h + 2) := fun x hx => by
          simp only [tr0, List.mem_cons, List.not_mem_nil, or_false] at hx
          have si : ∀ i : Int, nsz (.int i) ≤ 2 * nsz t.d + 20 := fun i => by show 1 ≤ _; omega
          rcases hx with rfl | rfl | rfl | rfl | rfl | rfl | rfl | rfl | rfl | rfl | rfl | rfl | rfl
          · exact ⟨.int _, si _, Nat.zero_le _⟩
          · exact ⟨.int _, si _, Nat.zero_le _⟩
          · exact ⟨.non, si 0, Nat.zero_le _⟩
          · exact ⟨.str _, si 0, Nat.zero_le _⟩
          · exact ⟨.bl _, si 0, Nat.zero_le _⟩
          · exact ⟨Th.tup (tr := []) g1 (fun t ht => (nomatch ht)), by show 1 + 0 ≤ _; omega, by show 0 + 1 ≤ _; omega⟩
          · exact ⟨Th.tup (tr := [(v, t.d)]) g2 (fun t ht => by cases List.mem_singleton.mp ht; exact th8), by show 1 + (nsz t.d + 0) ≤ _; omega, by show max t.d.depth 0 + 1 ≤ _; omega⟩
          · refine ⟨Th.tup (tr := [(v, t.d), (v, t.d)]) g3 (fun x hx => ?_), by show 1 + (nsz t.d + (nsz t.d + 0)) ≤ _; omega, by show max t.d.depth (max t.d.depth 0) + 1 ≤ _; omega⟩
            simp only [List.mem_cons, List.not_mem_nil, or_false] at hx
            rcases hx with rfl | rfl <;> exact th8
          · refine ⟨Th.lst (tr := [(v, t.d), (v, t.d)]) nL s5 g4 (fun x hx => ?_), by show 1 ≤ _; omega, by show max t.d.depth (max t.d.depth 0) + 1 ≤ _; omega⟩
            simp only [List.mem_cons, List.not_mem_nil, or_false] at hx
            rcases hx with rfl | rfl <;> exact th8
          · refine ⟨Th.tup (tr := [(v, t.d), (.int m, .int m)]) g5 (fun x hx => ?_), by show 1 + (nsz t.d + (1 + 0)) ≤ _; omega, by show max t.d.depth (max 0 0) + 1 ≤ _; omega⟩
            simp only [List.mem_cons, List.not_mem_nil, or_false] at hx
            rcases hx with rfl | rfl
            · exact th8
            · exact .int _
          · exact ⟨.int _, si _, Nat.zero_le _⟩
          · refine ⟨Th.tup (tr := [(.int 0, .int 0), (v, t.d), (.int 1, .int 1)]) g6 (fun x hx => ?_), by show 1 + (1 + (nsz t.d + (1 + 0))) ≤ _; omega, by show max 0 (max t.d.depth (max 0 0)) + 1 ≤ _; omega⟩
            simp only [List.mem_cons, List.not_mem_nil, or_false] at hx
            rcases hx with rfl | rfl | rfl
            · exact .int _
            · exact th8
            · exact .int _
          · exact ⟨.int _, si _, Nat.zero_le _⟩
        clear oM eH8
        clear_value tr0
        try walk_at "go"
        intro e H9 e1 b9 p9
        have oM9 := b9 _ _ nM oM'
        have el : e < tr0.length := by rw [List.length_map] at lt0; omega
        have ixe : atI (tr0.map fun t => t.1) (e : Int) = some tr0[e].1 := atI_nat (by rw [List.getElem?_map, List.getElem?_eq_getElem el] <;> rfl)
        have the := all0 _ (List.getElem_mem el)
        try walk_at "go"
        exact q _ _ H9 (b1.trans ((same_but S18).trans b9)) p9 (the.but b9 p8)
      | true =>
        rw [ed] at k1
        try walk_at "go"
        refine ite2 (fun cc => ?_) (fun cc => ?_)
        · cases t with
          | leaf i => cases ed
          | node l r =>
          obtain ⟨a, x, y, rfl, a1, hl1, hr1⟩ := ht1
          have hn' : max l.h r.h + 1 ≤ n + 1 := hn
          have hb' : max l.big r.big ≤ 100 := hb
          have dl : l.d.depth + 1 ≤ l.h := (Tr.wg (t := l) (b := 100) (by omega)).2
          have dr : r.d.depth + 1 ≤ r.h := (Tr.wg (t := r) (b := 100) (by omega)).2
          try walk_at "go"
          intro k H2 k2 b2 p2
          have a2 := TK.but b2 p1 _ _ a1
          have hl2 := hl1.but b2 p1.choose_spec.choose_spec.1
          have hr2 := hr1.but b2 p1.choose_spec.choose_spec.1
          rcases (show k = 0 ∨ k = 1 by omega) with rfl | rfl
          · have hs2 := hl2
            have ix : atI [x, y] ((0 : Nat) : Int) = some x := rfl
            have ix1 : atI [x, y] 1 = some y := rfl
            have ix0 : atI [x, y] 0 = some x := rfl
            have hnl : l.h ≤ n := by omega
            have hbl : l.big ≤ 100 := by omega
            try walk_at "go"
            intro v' d' H3 b3 p3 od3
            have a3 := TK.but b3 p2 _ _ a2
            try walk_at "go"
            intro U1 hU1
            generalize eH4 : upd _ U1 _ = H4
            have SH4 := newS eH4 hU1
            have oU1 := newO eH4
            have a4 := SH4 _ _ a3
            try walk_at "go"
            intro U2 hU2
            generalize eH5 : upd _ U2 _ = H5
            have SH5 := newS eH5 hU2
            have oU2 := newO eH5
            try walk_at "go"
            intro M hM
            generalize eH6 : upd _ M _ = H6
            have SH6 := newS eH6 hM
            have oM := newO eH6
            intro s6
            have ixm : atI [V.ref U1, V.ref U2] ((0 : Nat) : Int) = some (.ref U1) := rfl
            try walk_at "go"
            have S36 := SH4.trans (SH5.trans SH6)
            have B26 := b3.trans (same_but S36)
            have oU := (SH5.trans SH6) _ _ oU1
            have od6 := od3.same S36
            have tl6 : Th K p H6 x l.d := (hl2.but b3 p2.choose_spec.choose_spec.1).th.same S36
            have tr6 : Th K p H6 y r.d := (hr2.but b3 p2.choose_spec.choose_spec.1).th.same S36
            have s1 := od6.sz
            have s2 := od6.dp
            refine q _ (.tuple [d', r.d]) H6 (b1.trans (b2.trans B26)) (p3.same S36) ⟨Th.tup (tr := [(v', d'), (y, r.d)]) oU (fun t ht => ?_), ?_, ?_⟩
            · simp only [List.mem_cons, List.not_mem_nil, or_false] at ht
              rcases ht with rfl | rfl
              · exact od6.th
              · exact tr6
            · show 1 + (nsz d' + (nsz r.d + 0)) ≤ 2 * (1 + (nsz l.d + (nsz r.d + 0))) + 20
              omega
            · show max d'.depth (max r.d.depth 0) + 1 ≤ max l.h r.h + 1 + 2
              omega
          · have hs2 := hr2
            have ix : atI [x, y] ((1 : Nat) : Int) = some y := rfl
            have ix1 : atI [x, y] 1 = some y := rfl
            have ix0 : atI [x, y] 0 = some x := rfl
            have hnl : r.h ≤ n := by omega
            have hbl : r.big ≤ 100 := by omega
            try walk_at "go"
            intro v' d' H3 b3 p3 od3
            have a3 := TK.but b3 p2 _ _ a2
            try walk_at "go"
            intro U1 hU1
            generalize eH4 : upd _ U1 _ = H4
            have SH4 := newS eH4 hU1
            have oU1 := newO eH4
            have a4 := SH4 _ _ a3
            try walk_at "go"
            intro U2 hU2
            generalize eH5 : upd _ U2 _ = H5
            have SH5 := newS eH5 hU2
            have oU2 := newO eH5
            try walk_at "go"
            intro M hM
            generalize eH6 : upd _ M _ = H6
            have SH6 := newS eH6 hM
            have oM := newO eH6
            intro s6
            have ixm : atI [V.ref U1, V.ref U2] ((1 : Nat) : Int) = some (.ref U2) := rfl
            try walk_at "go"
            have S36 := SH4.trans (SH5.trans SH6)
            have B26 := b3.trans (same_but S36)
            have oU := SH6 _ _ oU2
            have od6 := od3.same S36
            have tl6 : Th K p H6 x l.d := (hl2.but b3 p2.choose_spec.choose_spec.1).th.same S36
            have tr6 : Th K p H6 y r.d := (hr2.but b3 p2.choose_spec.choose_spec.1).th.same S36
            have s1 := od6.sz
            have s2 := od6.dp
            refine q _ (.tuple [l.d, d']) H6 (b1.trans (b2.trans B26)) (p3.same S36) ⟨Th.tup (tr := [(x, l.d), (v', d')]) oU (fun t ht => ?_), ?_, ?_⟩
            · simp only [List.mem_cons, List.not_mem_nil, or_false] at ht
              rcases ht with rfl | rfl
              · exact tl6
              · exact od6.th
            · show 1 + (nsz l.d + (nsz d' + 0)) ≤ 2 * (1 + (nsz l.d + (nsz r.d + 0))) + 20
              omega
            · show max l.d.depth (max d'.depth 0) + 1 ≤ max l.h r.h + 1 + 2
              omega
        · skip
          try walk_at "go"
          intro T1 hT1
          generalize eH2 : upd _ T1 _ = H2
          have SH2 := newS eH2 hT1
          have oT1 := newO eH2
          try walk_at "go"
          intro T2 hT2
          generalize eH3 : upd _ T2 _ = H3
          have SH3 := newS eH3 hT2
          have oT2 := newO eH3
          try walk_at "go"
          intro T3 hT3
          generalize eH4 : upd _ T3 _ = H4
          have SH4 := newS eH4 hT3
          have oT3 := newO eH4
          try walk_at "go"
          intro L4 hL4
          generalize eH5 : upd _ L4 _ = H5
          have SH5 := newS eH5 hL4
          have oL4 := newO eH5
          intro s5
          try walk_at "go"
          intro T5 hT5
          generalize eH6 : upd _ T5 _ = H6
          have SH6 := newS eH6 hT5
          have oT5 := newO eH6
          try walk_at "go"
          intro T6 hT6
          generalize eH7 : upd _ T6 _ = H7
          have SH7 := newS eH7 hT6
          have oT6 := newO eH7
          try walk_at "go"
          intro M hM
          generalize eH8 : upd _ M _ = H8
          have SH8 := newS eH8 hM
          have oM := newO eH8
          intro s8
          let tr0 : List (V × PyData) := [(.int m, .int m), (.int (-1), .int (-1)), (.non, .none), (.str "0", .str "0"), (.bl true, .bool true), (.ref T1, .tuple []), (.ref T2, .tuple [t.d]), (.ref T3, .tuple [t.d, t.d]), (.ref L4, .list [t.d, t.d]), (.ref T5, .tuple [t.d, .int m]), (.int 0, .int 0), (.ref T6, .tuple [.int 0, t.d, .int 1]), (.int ((m : Int) - 1), .int ((m : Int) - 1))]
          have oM' : H8 M = some (.lst (tr0.map fun t => t.1)) := oM
          have lt0 : (tr0.map fun t => t.1).length = 13 := rfl
          have S78 := SH7.trans SH8
          have S58 := SH6.trans S78
          have S48 := SH5.trans S58
          have S38 := SH4.trans S48
          have S28 := SH3.trans S38
          have S18 := SH2.trans S28
          have g1 := S28 _ _ oT1
          have g2 := S38 _ _ oT2
          have g3 := S48 _ _ oT3
          have g4 := S58 _ _ oL4
          have g5 := S78 _ _ oT5
          have g6 := SH8 _ _ oT6
          have p4 := p1.same (SH2.trans (SH3.trans SH4))
          have p7 := p4.same (SH5.trans (SH6.trans SH7))
          have p8 := p7.same SH8
          have nL := pot_ne p4 hL4
          have nM := pot_ne p7 hM
          have th8 := th1.same S18
          have dt : t.d.depth + 1 ≤ t.h := (Tr.wg (t := t) (b := 100) hb).2
          have nz1 : 1 ≤ nsz t.d := nsz_pos _
          have all0 : ∀ x ∈ tr0, Od K p H8 x.1 x.2 (2 * nsz t.d + 20) (t.h + 2) := fun x hx => by
            simp only [tr0, List.mem_cons, List.not_mem_nil, or_false] at hx
            have si : ∀ i : Int, nsz (.int i) ≤ 2 * nsz t.d + 20 := fun i => by show 1 ≤ _; omega
            rcases hx with rfl | rfl | rfl | rfl | rfl | rfl | rfl | rfl | rfl | rfl | rfl | rfl | rfl
            · exact ⟨.int _, si _, Nat.zero_le _⟩
            · exact ⟨.int _, si _, Nat.zero_le _⟩
            · exact ⟨.non, si 0, Nat.zero_le _⟩
            · exact ⟨.str _, si 0, Nat.zero_le _⟩
            · exact ⟨.bl _, si 0, Nat.zero_le _⟩
            · exact ⟨Th.tup (tr := []) g1 (fun t ht => (nomatch ht)), by show 1 + 0 ≤ _; omega, by show 0 + 1 ≤ _; omega⟩
            · exact ⟨Th.tup (tr := [(v, t.d)]) g2 (fun t ht => by cases List.mem_singleton.mp ht; exact th8), by show 1 + (nsz t.d + 0) ≤ _; omega, by show max t.d.depth 0 + 1 ≤ _; omega⟩
            · refine ⟨Th.tup (tr := [(v, t.d), (v, t.d)]) g3 (fun x hx => ?_), by show 1 + (nsz t.d + (nsz t.d + 0)) ≤ _; omega, by show max t.d.depth (max t.d.depth 0) + 1 ≤ _; omega⟩
              simp only [List.mem_cons, List.not_mem_nil, or_false] at hx
              rcases hx with rfl | rfl <;> exact th8
            · refine ⟨Th.lst (tr := [(v, t.d), (v, t.d)]) nL s5 g4 (fun x hx => ?_), by show 1 ≤ _; omega, by show max t.d.depth (max t.d.depth 0) + 1 ≤ _; omega⟩
              simp only [List.mem_cons, List.not_mem_nil, or_false] at hx
              rcases hx with rfl | rfl <;> exact th8
            · refine ⟨Th.tup (tr := [(v, t.d), (.int m, .int m)]) g5 (fun x hx => ?_), by show 1 + (nsz t.d + (1 + 0)) ≤ _; omega, by show max t.d.depth (max 0 0) + 1 ≤ _; omega⟩
              simp only [List.mem_cons, List.not_mem_nil, or_false] at hx
              rcases hx with rfl | rfl
              · exact th8
              · exact .int _
            · exact ⟨.int _, si _, Nat.zero_le _⟩
            · refine ⟨Th.tup (tr := [(.int 0, .int 0), (v, t.d), (.int 1, .int 1)]) g6 (fun x hx => ?_), by show 1 + (1 + (nsz t.d + (1 + 0))) ≤ _; omega, by show max 0 (max t.d.depth (max 0 0)) + 1 ≤ _; omega⟩
              simp only [List.mem_cons, List.not_mem_nil, or_false] at hx
              rcases hx with rfl | rfl | rfl
              · exact .int _
              · exact th8
              · exact .int _
            · exact ⟨.int _, si _, Nat.zero_le _⟩
          clear oM eH8
          clear_value tr0
          try walk_at "go"
          intro e H9 e1 b9 p9
          have oM9 := b9 _ _ nM oM'
          have el : e < tr0.length := by rw [List.length_map] at lt0; omega
          have ixe : atI (tr0.map fun t => t.1) (e : Int) = some tr0[e].1 := atI_nat (by rw [List.getElem?_map, List.getElem?_eq_getElem el] <;> rfl)
          have the := all0 _ (List.getElem_mem el)
          try walk_at "go"
          exact q _ _ H9 (b1.trans ((same_but S18).trans b9)) p9 (the.but b9 p8)
theorem k__law_tree_spoilt (D : Df K mg "_law_tree_spoilt" s__law_tree_spoilt ["_law_store_here", "_law_tree_here", "_law_many"]) (D__law_draw : Dn P w K mg base 1 "_law_draw" ["_law_store_here", "_law_many"] spTake) : Dn P w K mg base 43 "_law_tree_spoilt" ["_law_store_here", "_law_tree_here", "_law_many"] ((spTrS67 K) 41) := k__law_tree_spoilt_rec B D D__law_draw 41
/-! SPLIT -/
omit B in
theorem th_at {K : PySem.W.Frag} {p : Addr} {H H' : Hp} {v : V} {d : PyData} (h : Th K p H v d) (e : Same H H') : Th K p H' v d := h.same e
local macro_rules | `(tactic| walk_at "own") => `(tactic| first | exact L2.ClsV.own _ | (apply Toy.th_at; (with_reducible assumption); walk_at "sm"))
/-- what is handed in -/
structure X5 where
  dd : V × PyData
  dt : V × PyData
  dn : V × PyData
  tr : V × PyData
  st : V × PyData
structure X5.at_ (K : PySem.W.Frag) (p : Addr) (H : Hp) (x : X5) : Prop where
  dd : Od K p H x.dd.1 x.dd.2 900000 50
  dt : Od K p H x.dt.1 x.dt.2 900000 50
  dn : Od K p H x.dn.1 x.dn.2 900000 50
  tr : Od K p H x.tr.1 x.tr.2 900000 50
  st : Od K p H x.st.1 x.st.2 900000 50
omit B in
theorem X5.at_.same {K : PySem.W.Frag} {p : Addr} {H H' : Hp} {x : X5} (h : x.at_ K p H) (e : Same H H') : x.at_ K p H' := ⟨h.dd.same e, h.dt.same e, h.dn.same e, h.tr.same e, h.st.same e⟩
/-- 0 none, 1 table, 2 number, 3 tree -/
def due67 (c : Nat) (x : X5) : Nat :=
  if c < 3 then (if isFa 4 x.dd.2 = false then 1 else 0) else
  if isTb x.dt.2 = false then 1 else
  if (c = 3 ∨ c = 6) ∧ (isFa 60 x.dd.2 && decide (tlen x.dd.2 = tlen x.dt.2)) = false then 1 else
  if c < 5 then 0 else
  if isNb (tlen x.dt.2) x.dn.2 = false then 2 else
  if c = 6 ∧ isU (hS x.dd.2) x.st.2 = false then 2 else
  if isT x.tr.2 (tlen x.dn.2) = false then 3 else 0
def wd67 : Nat → Str
  | 0 => "none"
  | 1 => "table"
  | 2 => "number"
  | _ => "tree"
def spDue67 (K : PySem.W.Frag) : Sp := fun vs H Q _ => ∃ (p : Addr) (x : X5) (c : Nat), vs = [.int c, x.dd.1, x.dt.1, x.dn.1, x.tr.1, x.st.1] ∧ x.at_ K p H ∧ c < 7 ∧ ∀ H', Same H H' → Q (.str (wd67 (due67 c x))) H'
theorem k__law_due (D : Df K mg "_law_due" s__law_due ["_law_choice", "_law_deeds", "_law_table", "_law_numbers", "_law_tree_here", "_law_state"]) (D__law_are_deeds : Dn P w K mg base 4 "_law_are_deeds" ["_law_thing", "_law_most"] (spLFa K)) (D__law_is_table : Dn P w K mg base 3 "_law_is_table" ["_law_thing"] (spLTb K)) (D__law_are_numbers : Dn P w K mg base 2 "_law_are_numbers" ["_law_thing", "_law_many"] (spLUs K)) (D__law_is_number : Dn P w K mg base 1 "_law_is_number" ["_law_thing", "_law_many"] (spLNum K)) (D__law_is_tree : Dn P w K mg base 63 "_law_is_tree" ["_law_thing", "_law_many"] (spLIsT6 K)) : Dn P w K mg base 66 "_law_due" ["_law_choice", "_law_deeds", "_law_table", "_law_numbers", "_law_tree_here", "_law_state"] (spDue67 K) := by
  refine D.ok fun f fd F => okG0 F sc__law_due (fun vs H Q E h => ?_) (fun cdv A outer s H vs Q E hr h => ⟨_, (pss_cons (ps_if (pt_cmpR op_lt (pv 0) pe_int (nomark _))
      (pss_one (ps_ret (pe_ix (kk (K := K) (F := rIxL) (P := IxR _) ix_list) (pe_lst (pa_cons pe_str (pa_cons pe_str pa_nil))) (pe_callTy call_int1 (by rfl) B.int_ (by decide +kernel) (pa_cons (pe_not (pe_cD D__law_are_deeds (hr.less (by decide)) rfl (pa_cons (pv 1) (pa_cons pe_int pa_nil)))) pa_nil)) (fun _ _ => rfl))))
      pss_nil)
    (pss_cons (ps_if (pt_not (pt_val (pe_cD D__law_is_table (hr.less (by decide)) rfl (pa_cons (pv 2) pa_nil))))
      (pss_one (ps_ret pe_str))
      pss_nil)
    (pss_cons (ps_if (PW.pt (pw_and (pt_cmpR (kk (K := K) (F := fun K => rIn K false) (P := OpR _ _) op_in_seq) (pv 0) (pe_tup (pa_cons pe_int (pa_cons pe_int pa_nil))) (by rfl)) (pw_and1 (PW.pt (pw_or (pt_not (pt_val (pe_cD D__law_are_deeds (hr.less (by decide)) rfl (pa_cons (pv 1) (pa_cons pe_int pa_nil))))) (pw_or1 (pt_cmpR op_ne (pe_callB (lenK (K := K)) (by rfl) B.len_ (by decide +kernel) (pa_cons (pv 1) pa_nil)) (pe_callB (lenK (K := K)) (by rfl) B.len_ (by decide +kernel) (pa_cons (pv 2) pa_nil)) (nomark _))))))))
      (pss_one (ps_ret pe_str))
      pss_nil)
    (pss_cons (ps_if (pt_cmpR op_lt (pv 0) pe_int (nomark _))
      (pss_one (ps_ret pe_str))
      pss_nil)
    (pss_cons (ps_if (PW.pt (pw_or (pt_not (pt_val (pe_cD D__law_are_numbers (hr.less (by decide)) rfl (pa_cons (pv 3) (pa_cons (pe_callB (lenK (K := K)) (by rfl) B.len_ (by decide +kernel) (pa_cons (pv 2) pa_nil)) pa_nil))))) (pw_or1 (pt_not (pt_chain op_le op_le pe_int (pe_callB (lenK (K := K)) (by rfl) B.len_ (by decide +kernel) (pa_cons (pv 3) pa_nil)) pe_int)))))
      (pss_one (ps_ret pe_str))
      pss_nil)
    (pss_cons (ps_if (PW.pt (pw_and (pt_cmpR op_eq (pv 0) pe_int (nomark _)) (pw_and1 (pt_not (pt_val (pe_cD D__law_is_number (hr.less (by decide)) rfl (pa_cons (pv 5) (pa_cons (pe_callB (lenK (K := K)) (by rfl) B.len_ (by decide +kernel) (pa_cons (pe_ix (kk (K := K) (F := rIxT) (P := IxR _) ix_tup) (pv 1) pe_int (fun _ _ => rfl)) pa_nil)) pa_nil))))))))
      (pss_one (ps_ret pe_str))
      pss_nil)
    (pss_one (ps_ret (pe_ix (kk (K := K) (F := rIxL) (P := IxR _) ix_list) (pe_lst (pa_cons pe_str (pa_cons pe_str pa_nil))) (pe_callTy call_int1 (by rfl) B.int_ (by decide +kernel) (pa_cons (pe_cD D__law_is_tree (hr.less (by decide)) rfl (pa_cons (pv 4) (pa_cons (pe_callB (lenK (K := K)) (by rfl) B.len_ (by decide +kernel) (pa_cons (pv 3) pa_nil)) pa_nil))) pa_nil)) (fun _ _ => rfl)))))))))), ?_⟩)
  · obtain ⟨p, x, c, rfl, _⟩ := h; rfl
  · obtain ⟨p, x, c, rfl, hx, hc, q⟩ := h
    obtain ⟨⟨v1, d1⟩, ⟨v2, d2⟩, ⟨v3, d3⟩, ⟨v4, d4⟩, ⟨v5, d5⟩⟩ := x
    obtain ⟨o1, o2, o3, o4, o5⟩ := hx
    dsimp only at *
    have t1 := o1.th
    have t2 := o2.th
    have t3 := o3.th
    have t4 := o4.th
    have t5 := o5.th
    have z1 := o1.sz
    have z2 := o2.sz
    have z3 := o3.sz
    have z4 := o4.sz
    have z5 := o5.sz
    have dp4 := o4.dp
    have d0 : due67 c ⟨(v1, d1), (v2, d2), (v3, d3), (v4, d4), (v5, d5)⟩ = (if c < 3 then (if isFa 4 d1 = false then 1 else 0) else if isTb d2 = false then 1 else if (c = 3 ∨ c = 6) ∧ (isFa 60 d1 && decide (tlen d1 = tlen d2)) = false then 1 else if c < 5 then 0 else if isNb (tlen d2) d3 = false then 2 else if c = 6 ∧ isU (hS d1) d5 = false then 2 else if isT d4 (tlen d3) = false then 3 else 0) := rfl
    rw [d0] at q
    clear d0
    try walk_at "go"
    refine ite2 (fun c3 => ?_) (fun c3 => ?_)
    · have c3' : c < 3 := by have := of_decide_eq_true c3; omega
      rw [if_pos c3'] at q
      try walk_at "go"
      intro M hM
      generalize eH1 : upd _ M _ = H1
      have SH1 := newS eH1 hM
      have oM := newO eH1
      try walk_at "go"
      intro H2 S2
      have oM2 := S2 _ _ oM
      try walk_at "go"
      refine .inr ⟨_, rfl, ?_⟩
      cases e : isFa 4 d1 with
      | false =>
        rw [if_pos e] at q
        have ix : atI [V.str "none", V.str "table"] (if (!false) = true then (1 : Int) else 0) = some (.str "table") := rfl
        try walk_at "go"
        exact q _ (SH1.trans S2)
      | true =>
        rw [if_neg (by rw [e]; decide)] at q
        have ix : atI [V.str "none", V.str "table"] (if (!true) = true then (1 : Int) else 0) = some (.str "none") := rfl
        try walk_at "go"
        exact q _ (SH1.trans S2)
    have c3' : ¬ c < 3 := fun z => c3 (decide_eq_true (by omega))
    rw [if_neg c3'] at q
    try walk_at "go"
    intro H1 S1
    cases eb : isTb d2 with
    | false =>
      rw [if_pos eb] at q
      try walk_at "go"
      exact q _ S1
    | true =>
    rw [if_neg (by rw [eb]; decide)] at q
    try walk_at "go"
    intro T hT
    generalize eH2 : upd _ T _ = H2
    have SH2 := newS eH2 hT
    have oT := newO eH2
    have S2 := S1.trans SH2
    try walk_at "go"
    have num : ∀ H3, Same H H3 → 5 ≤ c → c < 7 → True := fun _ _ _ _ => trivial
    by_cases c36 : c = 3 ∨ c = 6
    · refine ifT (by rcases c36 with rfl | rfl <;> rfl) ?_
      try walk_at "go"
      intro H3 S3
      cases ef : isFa 60 d1 with
      | false =>
        rw [if_pos ⟨c36, by rw [ef] <;> rfl⟩] at q
        try walk_at "go"
        refine ifT rfl ?_
        try walk_at "go"
        exact q _ (S2.trans S3)
      | true =>
        obtain ⟨D, qs, S, rfl, g, q11, _, _, _, l1, ds, rfl, eS⟩ := fa_of t1 ef
        obtain ⟨T2, rs, rfl, g2, _, r60, l2⟩ := tb_of t2 eb
        have S23 := S2.trans S3
        have gt := S23 _ _ g.top
        have gt2 := S23 _ _ g2.top
        have e9 : decide (V.int ((qs.map fun x => V.ref x.1).length : Nat) = V.int ((rs.map fun x => V.ref x.1).length : Nat)) = decide (qs.length = rs.length) := by
          rw [List.length_map, List.length_map]
          by_cases z : qs.length = rs.length
          · rw [decide_eq_true (by rw [z]), decide_eq_true z]
          · rw [decide_eq_false fun y => z (by have := V.int.inj y; omega), decide_eq_false z]
        rw [ef, Bool.true_and, show decide (tlen (.tuple ds) = tlen d2) = decide (qs.length = rs.length) from by rw [l1, l2]] at q
        try walk_at "go"
        cases c9 : decide (qs.length = rs.length) with
        | false =>
          rw [if_pos ⟨c36, c9⟩] at q
          refine ifT (by rw [e9, c9] <;> rfl) ?_
          try walk_at "go"
          exact q _ S23
        | true =>
          rw [if_neg fun z => by rw [c9] at z; cases z.2] at q
          refine ifF (by rw [e9, c9] <;> rfl) ?_
          rcases c36 with rfl | rfl
          · try walk_at "go"
            exact q _ S23
          · have S03 := S23
            rw [if_neg (show ¬ (6 < 5) by decide)] at q
            have lR : (rs.map fun x => V.ref x.1).length = tlen d2 := by rw [List.length_map]; exact l2
            have l60 : rs.length ≤ 60 := r60
            try walk_at "go"
            rw [lR]
            intro H4 S4
            have S04 := S03.trans S4
            cases eu : isUs (tlen d2) d3 with
            | false =>
              have e0 : isNb (tlen d2) d3 = false := by unfold isNb; rw [eu] <;> rfl
              rw [if_pos e0] at q
              try walk_at "go"
              refine ifT rfl ?_
              try walk_at "go"
              exact q _ S04
            | true =>
              obtain ⟨U, ns, rfl, hU, hb, l3⟩ := us_of t3 eu
              have hU4 := S04 _ _ hU
              have e0 : isNb (tlen d2) d3 = (decide (1 ≤ ns.length) && decide (ns.length ≤ 40)) := by unfold isNb; rw [eu, Bool.true_and, l3]
              rw [e0] at q
              try walk_at "go"
              by_cases c1 : 1 ≤ ns.length
              · have e1 : decide ((1 : Int) ≤ (((iN ns).map V.int).length : Nat)) = true := decide_eq_true (by rw [iN_len]; omega)
                rw [decide_eq_true c1, Bool.true_and] at q
                refine ifT e1 ?_
                try walk_at "go"
                by_cases c2 : ns.length ≤ 40
                · have e2 : decide (((((iN ns).map V.int).length : Nat) : Int) ≤ 40) = true := decide_eq_true (by rw [iN_len]; omega)
                  rw [decide_eq_true c2, if_neg (by decide)] at q
                  refine ifF (by rw [e2] <;> rfl) ?_
                  have S05 := S04
                  have a0 := refs_atI (rs := qs) (j := 0) (by omega)
                  obtain ⟨k1, k2, k3⟩ := g.rows qs[0] (List.getElem_mem (by omega))
                  have k14 := S05 _ _ k1
                  have gt4 := S05 _ _ g.top
                  have lS : ((iN qs[0].2).map V.int).length = hS (.tuple ds) := by rw [iN_len, k2]; exact eS
                  have t54 := t5.same S05
                  try walk_at "go"
                  rw [lS]
                  try walk_at "go"
                  cases eU : isU (hS (.tuple ds)) d5 with
                  | false =>
                    rw [if_pos ⟨rfl, eU⟩] at q
                    try walk_at "go"
                    refine ifT rfl ?_
                    try walk_at "go"
                    exact q _ S05
                  | true =>
                    rw [if_neg fun z => by rw [eU] at z; cases z.2] at q
                    refine ifF rfl ?_
                    have l4 : ((iN ns).map V.int).length = tlen d3 := by rw [iN_len, l3]
                    have hd5 := t4.same S05
                    have hU5 := S05 _ _ hU
                    try walk_at "go"
                    intro M hM
                    generalize eM1 : upd _ M _ = M1
                    have SM1 := newS eM1 hM
                    have oM := newO eM1
                    have hd6 := hd5.same SM1
                    have hU6 := SM1 _ _ hU5
                    have l4b : tlen d3 ≤ 40 := by omega
                    try walk_at "go"
                    rw [l4]
                    try walk_at "go"
                    intro H9 S9
                    have oM9 := S9 _ _ oM
                    try walk_at "go"
                    refine .inr ⟨_, rfl, ?_⟩
                    cases e9 : isT d4 (tlen d3) with
                    | false =>
                      rw [if_pos e9] at q
                      have ix : atI [V.str "tree", V.str "none"] (if (false : Bool) = true then (1 : Int) else 0) = some (.str "tree") := rfl
                      try walk_at "go"
                      exact q _ (S05.trans (SM1.trans S9))
                    | true =>
                      rw [if_neg (by rw [e9]; decide)] at q
                      have ix : atI [V.str "tree", V.str "none"] (if (true : Bool) = true then (1 : Int) else 0) = some (.str "none") := rfl
                      try walk_at "go"
                      exact q _ (S05.trans (SM1.trans S9))
                · have e2 : decide (((((iN ns).map V.int).length : Nat) : Int) ≤ 40) = false := decide_eq_false (by rw [iN_len]; omega)
                  rw [decide_eq_false c2, if_pos rfl] at q
                  refine ifT (by rw [e2] <;> rfl) ?_
                  try walk_at "go"
                  exact q _ S04
              · have e1 : decide ((1 : Int) ≤ (((iN ns).map V.int).length : Nat)) = false := decide_eq_false (by rw [iN_len]; omega)
                rw [decide_eq_false c1, Bool.false_and, if_pos rfl] at q
                refine ifF e1 ?_
                try walk_at "go"
                refine ifT rfl ?_
                try walk_at "go"
                exact q _ S04
    · refine ifF (by rcases (show c = 4 ∨ c = 5 by omega) with rfl | rfl <;> rfl) ?_
      rw [if_neg fun z => c36 z.1] at q
      obtain ⟨T2, rs, rfl, g2, _, r60, l2⟩ := tb_of t2 eb
      have S03 := S2
      have gt2 := S03 _ _ g2.top
      rcases (show c = 4 ∨ c = 5 by omega) with rfl | rfl
      · try walk_at "go"
        exact q _ S03
      · skip
        rw [if_neg (show ¬ (5 < 5) by decide)] at q
        have lR : (rs.map fun x => V.ref x.1).length = tlen d2 := by rw [List.length_map]; exact l2
        have l60 : rs.length ≤ 60 := r60
        try walk_at "go"
        rw [lR]
        intro H4 S4
        have S04 := S03.trans S4
        cases eu : isUs (tlen d2) d3 with
        | false =>
          have e0 : isNb (tlen d2) d3 = false := by unfold isNb; rw [eu] <;> rfl
          rw [if_pos e0] at q
          try walk_at "go"
          refine ifT rfl ?_
          try walk_at "go"
          exact q _ S04
        | true =>
          obtain ⟨U, ns, rfl, hU, hb, l3⟩ := us_of t3 eu
          have hU4 := S04 _ _ hU
          have e0 : isNb (tlen d2) d3 = (decide (1 ≤ ns.length) && decide (ns.length ≤ 40)) := by unfold isNb; rw [eu, Bool.true_and, l3]
          rw [e0] at q
          try walk_at "go"
          by_cases c1 : 1 ≤ ns.length
          · have e1 : decide ((1 : Int) ≤ (((iN ns).map V.int).length : Nat)) = true := decide_eq_true (by rw [iN_len]; omega)
            rw [decide_eq_true c1, Bool.true_and] at q
            refine ifT e1 ?_
            try walk_at "go"
            by_cases c2 : ns.length ≤ 40
            · have e2 : decide (((((iN ns).map V.int).length : Nat) : Int) ≤ 40) = true := decide_eq_true (by rw [iN_len]; omega)
              rw [decide_eq_true c2, if_neg (by decide)] at q
              refine ifF (by rw [e2] <;> rfl) ?_
              rw [if_neg (show ¬ (5 = 6 ∧ isU (hS d1) d5 = false) from fun z => absurd z.1 (by decide))] at q
              have S05 := S04
              have l4 : ((iN ns).map V.int).length = tlen d3 := by rw [iN_len, l3]
              have hd5 := t4.same S05
              have hU5 := S05 _ _ hU
              try walk_at "go"
              intro M hM
              generalize eM1 : upd _ M _ = M1
              have SM1 := newS eM1 hM
              have oM := newO eM1
              have hd6 := hd5.same SM1
              have hU6 := SM1 _ _ hU5
              have l4b : tlen d3 ≤ 40 := by omega
              try walk_at "go"
              rw [l4]
              try walk_at "go"
              intro H9 S9
              have oM9 := S9 _ _ oM
              try walk_at "go"
              refine .inr ⟨_, rfl, ?_⟩
              cases e9 : isT d4 (tlen d3) with
              | false =>
                rw [if_pos e9] at q
                have ix : atI [V.str "tree", V.str "none"] (if (false : Bool) = true then (1 : Int) else 0) = some (.str "tree") := rfl
                try walk_at "go"
                exact q _ (S05.trans (SM1.trans S9))
              | true =>
                rw [if_neg (by rw [e9]; decide)] at q
                have ix : atI [V.str "tree", V.str "none"] (if (true : Bool) = true then (1 : Int) else 0) = some (.str "none") := rfl
                try walk_at "go"
                exact q _ (S05.trans (SM1.trans S9))
            · have e2 : decide (((((iN ns).map V.int).length : Nat) : Int) ≤ 40) = false := decide_eq_false (by rw [iN_len]; omega)
              rw [decide_eq_false c2, if_pos rfl] at q
              refine ifT (by rw [e2] <;> rfl) ?_
              try walk_at "go"
              exact q _ S04
          · have e1 : decide ((1 : Int) ≤ (((iN ns).map V.int).length : Nat)) = false := decide_eq_false (by rw [iN_len]; omega)
            rw [decide_eq_false c1, Bool.false_and, if_pos rfl] at q
            refine ifF e1 ?_
            try walk_at "go"
            refine ifT rfl ?_
            try walk_at "go"
            exact q _ S04
/-! SPLIT -/
def cl67 : Nat → Str
  | 1 => "NoTable"
  | 2 => "NoNumber"
  | _ => "NoTree"
def spAsk67 (K : PySem.W.Frag) (C : Str → Addr) : Sp := fun vs H Q E => ∃ (p : Addr) (x : X5) (c : Nat), vs = [.int c, x.dd.1, x.dt.1, x.dn.1, x.tr.1, x.st.1] ∧ x.at_ K p H ∧ c < 7 ∧
  (due67 c x = 0 → ∀ y H', Same H H' → Q y H') ∧ (due67 c x = 0 → c < 3 → ∀ H', Same H H' → E (.ref (C "TooMany")) none H') ∧
  (∀ n, 1 ≤ n → n ≤ 3 → due67 c x = n → ∀ H', Same H H' → E (.ref (C (cl67 n))) none H')
theorem k__law_asked (D : Df K mg "_law_asked" s__law_asked ["_law_choice", "_law_deeds", "_law_table", "_law_numbers", "_law_tree_here", "_law_state"]) (D_family : Dx P w K mg base 7 "family" ["deeds"] (spFamilyE K (cAt mg "NoTable") (cAt mg "TooMany"))) (D_words : Dx P w K mg base 7 "words" ["deeds"] (spWordsE K (cAt mg "NoTable") (cAt mg "TooMany"))) (D_own_table : Dx P w K mg base 8 "own_table" ["deeds"] (spOwnE K (cAt mg "NoTable") (cAt mg "TooMany"))) (D_held : Dx P w K mg base 8 "held" ["deeds", "table"] (spHeldE K (cAt mg "NoTable"))) (D_broken : Dx P w K mg base 7 "broken" ["table"] (spBrokenE K (cAt mg "NoTable"))) (D_folded_by : Dx P w K mg base 60 "folded_by" ["table", "numbers", "tree"] (spFoldE K (cAt mg "NoTable") (cAt mg "NoNumber") (cAt mg "NoTree"))) (D_shared_by : Dx P w K mg base 90 "shared_by" ["deeds", "table", "numbers", "tree", "state"] (spShareE K (cAt mg "NoTable") (cAt mg "NoNumber") (cAt mg "NoTree"))) : Dx P w K mg base 91 "_law_asked" ["_law_choice", "_law_deeds", "_law_table", "_law_numbers", "_law_tree_here", "_law_state"] (spAsk67 K (cAt mg)) := by
  refine D.okX fun f fd F => okGX F sc__law_asked (fun vs H Q E h => ?_) (fun cdv A outer s H vs Q E hr h => ⟨_, (pss_cons (ps_if (pt_cmpR op_eq (pv 0) pe_int (nomark _))
      (pss_one (ps_ret (pe_cW D_family (hr.less (by decide)) (takes_of rfl rfl rfl rfl) rfl (pa_cons (pv 1) pa_nil))))
      pss_nil)
    (pss_cons (ps_if (pt_cmpR op_eq (pv 0) pe_int (nomark _))
      (pss_one (ps_ret (pe_cW D_words (hr.less (by decide)) (takes_of rfl rfl rfl rfl) rfl (pa_cons (pv 1) pa_nil))))
      pss_nil)
    (pss_cons (ps_if (pt_cmpR op_eq (pv 0) pe_int (nomark _))
      (pss_one (ps_ret (pe_cW D_own_table (hr.less (by decide)) (takes_of rfl rfl rfl rfl) rfl (pa_cons (pv 1) pa_nil))))
      pss_nil)
    (pss_cons (ps_if (pt_cmpR op_eq (pv 0) pe_int (nomark _))
      (pss_one (ps_ret (pe_cW D_held (hr.less (by decide)) (takes_of rfl rfl rfl rfl) rfl (pa_cons (pv 1) (pa_cons (pv 2) pa_nil)))))
      pss_nil)
    (pss_cons (ps_if (pt_cmpR op_eq (pv 0) pe_int (nomark _))
      (pss_one (ps_ret (pe_cW D_broken (hr.less (by decide)) (takes_of rfl rfl rfl rfl) rfl (pa_cons (pv 2) pa_nil))))
      pss_nil)
    (pss_cons (ps_if (pt_cmpR op_eq (pv 0) pe_int (nomark _))
      (pss_one (ps_ret (pe_cW D_folded_by (hr.less (by decide)) (takes_of rfl rfl rfl rfl) rfl (pa_cons (pv 2) (pa_cons (pv 3) (pa_cons (pv 4) pa_nil))))))
      pss_nil)
    (pss_one (ps_ret (pe_cW D_shared_by (hr.less (by decide)) (takes_of rfl rfl rfl rfl) rfl (pa_cons (pv 1) (pa_cons (pv 2) (pa_cons (pv 3) (pa_cons (pv 4) (pa_cons (pv 5) pa_nil)))))))))))))), ?_⟩)
  · obtain ⟨p, x, c, rfl, _⟩ := h; rfl
  · obtain ⟨p, x, c, rfl, hx, hc, q, qm, qe⟩ := h
    obtain ⟨⟨v1, d1⟩, ⟨v2, d2⟩, ⟨v3, d3⟩, ⟨v4, d4⟩, ⟨v5, d5⟩⟩ := x
    obtain ⟨o1, o2, o3, o4, o5⟩ := hx
    dsimp only at *
    have t1 := o1.th
    have t2 := o2.th
    have t3 := o3.th
    have t4 := o4.th
    have t5 := o5.th
    have z1 := o1.sz
    have z2 := o2.sz
    have z3 := o3.sz
    have z4 := o4.sz
    have z5 := o5.sz
    have d0 : due67 c ⟨(v1, d1), (v2, d2), (v3, d3), (v4, d4), (v5, d5)⟩ = (if c < 3 then (if isFa 4 d1 = false then 1 else 0) else if isTb d2 = false then 1 else if (c = 3 ∨ c = 6) ∧ (isFa 60 d1 && decide (tlen d1 = tlen d2)) = false then 1 else if c < 5 then 0 else if isNb (tlen d2) d3 = false then 2 else if c = 6 ∧ isU (hS d1) d5 = false then 2 else if isT d4 (tlen d3) = false then 3 else 0) := rfl
    rw [d0] at q qm qe
    clear d0
    have lo : c < 3 → (isFa 4 d1 = true → ∀ y H', Same H H' → Q y H') ∧ (isFa 4 d1 = true → ∀ H', Same H H' → E (.ref (cAt mg "TooMany")) none H') ∧ (isFa 4 d1 = false → ∀ H', Same H H' → E (.ref (cAt mg "NoTable")) none H') := fun z => by
      rw [if_pos z] at q qm qe
      exact ⟨fun e => q (if_neg (by rw [e]; decide)), fun e => qm (if_neg (by rw [e]; decide)) z, fun e => qe 1 (by decide) (by decide) (if_pos e)⟩
    rcases (show c = 0 ∨ c = 1 ∨ c = 2 ∨ c = 3 ∨ c = 4 ∨ c = 5 ∨ c = 6 by omega) with rfl | rfl | rfl | rfl | rfl | rfl | rfl
    · obtain ⟨l1, l2, l3⟩ := lo (by decide)
      try walk_at "go"
      refine ⟨fun e T rs S U ls n H' ev g s1 s5 S1 F1 => ?_, fun e _ _ _ _ _ _ _ _ _ => l2 e, l3⟩
      try walk_at "go"
      exact l1 e _ _ S1
    · obtain ⟨l1, l2, l3⟩ := lo (by decide)
      try walk_at "go"
      exact l3
    · obtain ⟨l1, l2, l3⟩ := lo (by decide)
      try walk_at "go"
      exact l3
    · clear lo qm
      try walk_at "go"
      unfold isBy
      generalize isTb d2 = A at q qe ⊢
      generalize (isFa 60 d1 && decide (tlen d1 = tlen d2)) = F at q qe ⊢
      refine ⟨fun e => q ?_, fun e => qe 1 (by decide) (by decide) ?_⟩
      · cases A <;> cases F <;> first | rfl | cases e
      · cases A <;> cases F <;> first | rfl | cases e
    · clear lo qm
      try walk_at "go"
      generalize isTb d2 = A at q qe ⊢
      refine ⟨fun e => q ?_, fun e => qe 1 (by decide) (by decide) ?_⟩
      · cases A <;> first | rfl | cases e
      · cases A <;> first | rfl | cases e
    · clear lo qm
      try walk_at "go"
      generalize isTb d2 = A at q qe ⊢
      generalize isNb (tlen d2) d3 = N at q qe ⊢
      generalize isT d4 (tlen d3) = T at q qe ⊢
      refine ⟨fun e1 e2 e3 _ H' _ => q ?_ _ H', fun e1 => qe 1 (by decide) (by decide) ?_, fun e1 e2 => qe 2 (by decide) (by decide) ?_, fun e1 e2 e3 => qe 3 (by decide) (by decide) ?_⟩
      · subst e1 e2 e3; rfl
      · subst e1; rfl
      · subst e1 e2; rfl
      · subst e1 e2 e3; rfl
    · clear lo qm
      try walk_at "go"
      unfold isBy
      generalize isTb d2 = A at q qe ⊢
      generalize (isFa 60 d1 && decide (tlen d1 = tlen d2)) = F at q qe ⊢
      generalize isNb (tlen d2) d3 = N at q qe ⊢
      generalize isU (hS d1) d5 = U at q qe ⊢
      generalize isT d4 (tlen d3) = T at q qe ⊢
      refine ⟨fun e1 e2 e3 e4 => q ?_, fun e1 => qe 1 (by decide) (by decide) ?_, fun e1 e2 => qe 2 (by decide) (by decide) ?_, fun e1 e2 e3 => qe 2 (by decide) (by decide) ?_, fun e1 e2 e3 e4 => qe 3 (by decide) (by decide) ?_⟩
      · subst e2 e3 e4; cases A <;> cases F <;> first | rfl | cases e1
      · cases A <;> cases F <;> first | rfl | cases e1
      · subst e2; cases A <;> cases F <;> first | rfl | cases e1
      · subst e2 e3; cases A <;> cases F <;> first | rfl | cases e1
      · subst e2 e3 e4; cases A <;> cases F <;> first | rfl | cases e1
/-! SPLIT -/
local macro_rules | `(tactic| walk_at "own") => `(tactic| first | exact L2.ClsV.own _ | (apply Toy.th_at; (with_reducible assumption); walk_at "sm"))
def cw67 : Nat → Str
  | 0 => "NoTable"
  | 1 => "NoNumber"
  | 2 => "NoTree"
  | _ => "TooMany"
def ww67 : Nat → Str
  | 0 => "table"
  | 1 => "number"
  | 2 => "tree"
  | _ => "none"
def spWord67 (K : PySem.W.Frag) (C : Str → Addr) : SpE := fun a cls d vs H Q _ => ∃ n, vs = [.ref a] ∧ cls = .ref (C (cw67 n)) ∧ d = none ∧ n < 4 ∧ ∀ H', Same H H' → Q (.str (ww67 n)) H'
theorem k__law_word (D : Df K mg "_law_word" s__law_word ["_law_e"]) : DnE P w K mg base 1 "_law_word" ["_law_e"] (spWord67 K (cAt mg)) := by
  refine D.okE fun f fd F => okFE F sc__law_word (fun a cls d vs H Q E h => ?_) (fun cdv A outer s H vs Q E a oe cls d hz hf h => ⟨_, (pss_cons (ps_set (i := 1) sc__law_word.nd rfl (Or.inl rfl) (pe_lst (pa_cons (pe_callB (call_isP List.mem_cons_self hz hf) (by rfl) B.isinstance_ (by decide +kernel) (pa_cons (pv 0) (pa_cons (pe_glob (v := .ref (cAt mg "NoTable")) (u := .ref (cAt mg "NoTable")) (by rfl) B.NoTable_.mg_ rfl) pa_nil))) (pa_cons (pe_callB (call_isP List.mem_cons_self hz hf) (by rfl) B.isinstance_ (by decide +kernel) (pa_cons (pv 0) (pa_cons (pe_glob (v := .ref (cAt mg "NoNumber")) (u := .ref (cAt mg "NoNumber")) (by rfl) B.NoNumber_.mg_ rfl) pa_nil))) (pa_cons (pe_callB (call_isP List.mem_cons_self hz hf) (by rfl) B.isinstance_ (by decide +kernel) (pa_cons (pv 0) (pa_cons (pe_glob (v := .ref (cAt mg "NoTree")) (u := .ref (cAt mg "NoTree")) (by rfl) B.NoTree_.mg_ rfl) pa_nil))) (pa_cons (pe_callB (call_isP List.mem_cons_self hz hf) (by rfl) B.isinstance_ (by decide +kernel) (pa_cons (pv 0) (pa_cons (pe_glob (v := .ref (cAt mg "TooMany")) (u := .ref (cAt mg "TooMany")) (by rfl) B.TooMany_.mg_ rfl) pa_nil))) pa_nil))))))
    (pss_cons (ps_if (PW.pt (pw_or (pt_cmpR op_ne (kk (K := K) (F := fun K => tBM K "list" _ _ _) (P := PE _ _) (pe_bm PySem.F.plainAttrs_list PySem.F.slot_list_count PySem.F.type_list_count mt_lcountF (pv 1) (pa_cons pe_bl pa_nil))) pe_int (nomark _)) (pw_or1 (pt_not (pt_val (pe_callB (call_isP List.mem_cons_self hz hf) (by rfl) B.isinstance_ (by decide +kernel) (pa_cons (pv 0) (pa_cons (pe_bltn (v := .ty "ValueError") (u := .type "ValueError") (by rfl) B.ValueError_ (by decide +kernel) rfl) pa_nil))))))))
      (pss_one (ps_ret pe_str))
      pss_nil)
    (pss_one (ps_ret (pe_ix (kk (K := K) (F := rIxL) (P := IxR _) ix_list) (pe_lst (pa_cons pe_str (pa_cons pe_str (pa_cons pe_str (pa_cons pe_str pa_nil))))) (kk (K := K) (F := fun K => tBM K "list" _ _ _) (P := PE _ _) (pe_bm PySem.F.plainAttrs_list PySem.F.slot_list_index PySem.F.type_list_index mt_index (pv 1) (pa_cons pe_bl pa_nil))) (fun _ _ => rfl)))))), ?_⟩)
  · obtain ⟨n, rfl, _⟩ := h; rfl
  · obtain ⟨n, rfl, rfl, rfl, hn, q⟩ := h
    rcases (show n = 0 ∨ n = 1 ∨ n = 2 ∨ n = 3 by omega) with rfl | rfl | rfl | rfl
    · skip
      have k_NoTable := kitO B.NoTable_ B.NoTable_NoTable_ B.NoTable_NoTable_
      have k_NoNumber := kitO B.NoNumber_ B.NoTable_NoTable_ B.NoTable_NoNumber_
      have k_NoTree := kitO B.NoTree_ B.NoTable_NoTable_ B.NoTable_NoTree_
      have k_TooMany := kitO B.TooMany_ B.NoTable_NoTable_ B.NoTable_TooMany_
      have kv := kitVE B.NoTable_i
      have kc := B.NoTable_i.c
      try walk_at "go"
      intro M1 hM1
      generalize eH2 : upd _ M1 _ = H2
      have SH2 := newS eH2 hM1
      have oM1 := newO eH2
      try walk_at "go"
      intro W1 hW1
      generalize eH4 : upd _ W1 _ = H4
      have SH4 := newS eH4 hW1
      have oW1 := newO eH4
      have oM1 := SH4 _ _ oM1
      try walk_at "go"
      refine ⟨(rfl : ([V.bl true, .bl false, .bl false, .bl false] : List V)[0]? = some (V.bl true)), rfl, fun m z' hm hz => ?_, ?_⟩
      · exact absurd hm (Nat.not_lt_zero _)
      try walk_at "go"
      have ti : atI [V.str "table", V.str "number", V.str "tree", V.str "none"] ((0 : Nat) : Int) = some (.str "table") := rfl
      try walk_at "go"
      exact q _ (SH2.trans SH4)
    · skip
      have k_NoTable := kitO B.NoTable_ B.NoNumber_NoNumber_ B.NoNumber_NoTable_
      have k_NoNumber := kitO B.NoNumber_ B.NoNumber_NoNumber_ B.NoNumber_NoNumber_
      have k_NoTree := kitO B.NoTree_ B.NoNumber_NoNumber_ B.NoNumber_NoTree_
      have k_TooMany := kitO B.TooMany_ B.NoNumber_NoNumber_ B.NoNumber_TooMany_
      have kv := kitVE B.NoNumber_i
      have kc := B.NoNumber_i.c
      try walk_at "go"
      intro M1 hM1
      generalize eH2 : upd _ M1 _ = H2
      have SH2 := newS eH2 hM1
      have oM1 := newO eH2
      try walk_at "go"
      intro W1 hW1
      generalize eH4 : upd _ W1 _ = H4
      have SH4 := newS eH4 hW1
      have oW1 := newO eH4
      have oM1 := SH4 _ _ oM1
      try walk_at "go"
      refine ⟨(rfl : ([V.bl false, .bl true, .bl false, .bl false] : List V)[1]? = some (V.bl true)), rfl, fun m z' hm hz => ?_, ?_⟩
      · rcases (show m = 0 by omega) with rfl <;> (cases hz; rfl)
      try walk_at "go"
      have ti : atI [V.str "table", V.str "number", V.str "tree", V.str "none"] ((1 : Nat) : Int) = some (.str "number") := rfl
      try walk_at "go"
      exact q _ (SH2.trans SH4)
    · skip
      have k_NoTable := kitO B.NoTable_ B.NoTree_NoTree_ B.NoTree_NoTable_
      have k_NoNumber := kitO B.NoNumber_ B.NoTree_NoTree_ B.NoTree_NoNumber_
      have k_NoTree := kitO B.NoTree_ B.NoTree_NoTree_ B.NoTree_NoTree_
      have k_TooMany := kitO B.TooMany_ B.NoTree_NoTree_ B.NoTree_TooMany_
      have kv := kitVE B.NoTree_i
      have kc := B.NoTree_i.c
      try walk_at "go"
      intro M1 hM1
      generalize eH2 : upd _ M1 _ = H2
      have SH2 := newS eH2 hM1
      have oM1 := newO eH2
      try walk_at "go"
      intro W1 hW1
      generalize eH4 : upd _ W1 _ = H4
      have SH4 := newS eH4 hW1
      have oW1 := newO eH4
      have oM1 := SH4 _ _ oM1
      try walk_at "go"
      refine ⟨(rfl : ([V.bl false, .bl false, .bl true, .bl false] : List V)[2]? = some (V.bl true)), rfl, fun m z' hm hz => ?_, ?_⟩
      · rcases (show m = 0 ∨ m = 1 by omega) with rfl | rfl <;> (cases hz; rfl)
      try walk_at "go"
      have ti : atI [V.str "table", V.str "number", V.str "tree", V.str "none"] ((2 : Nat) : Int) = some (.str "tree") := rfl
      try walk_at "go"
      exact q _ (SH2.trans SH4)
    · skip
      have k_NoTable := kitO B.NoTable_ B.TooMany_TooMany_ B.TooMany_NoTable_
      have k_NoNumber := kitO B.NoNumber_ B.TooMany_TooMany_ B.TooMany_NoNumber_
      have k_NoTree := kitO B.NoTree_ B.TooMany_TooMany_ B.TooMany_NoTree_
      have k_TooMany := kitO B.TooMany_ B.TooMany_TooMany_ B.TooMany_TooMany_
      have kv := kitVE B.TooMany_i
      have kc := B.TooMany_i.c
      try walk_at "go"
      intro M1 hM1
      generalize eH2 : upd _ M1 _ = H2
      have SH2 := newS eH2 hM1
      have oM1 := newO eH2
      try walk_at "go"
      intro W1 hW1
      generalize eH4 : upd _ W1 _ = H4
      have SH4 := newS eH4 hW1
      have oW1 := newO eH4
      have oM1 := SH4 _ _ oM1
      try walk_at "go"
      refine ⟨(rfl : ([V.bl false, .bl false, .bl false, .bl true] : List V)[3]? = some (V.bl true)), rfl, fun m z' hm hz => ?_, ?_⟩
      · rcases (show m = 0 ∨ m = 1 ∨ m = 2 by omega) with rfl | rfl | rfl <;> (cases hz; rfl)
      try walk_at "go"
      have ti : atI [V.str "table", V.str "number", V.str "tree", V.str "none"] ((3 : Nat) : Int) = some (.str "none") := rfl
      try walk_at "go"
      exact q _ (SH2.trans SH4)
def spTold67 (K : PySem.W.Frag) : Sp := fun vs H Q _ => ∃ (p : Addr) (x : X5) (c : Nat), vs = [.int c, x.dd.1, x.dt.1, x.dn.1, x.tr.1, x.st.1] ∧ x.at_ K p H ∧ c < 7 ∧ ∀ H', Same H H' → Q (.str (wd67 (due67 c x))) H'
theorem k__law_told (D : Df K mg "_law_told" s__law_told ["_law_choice", "_law_deeds", "_law_table", "_law_numbers", "_law_tree_here", "_law_state"]) (D__law_asked : Dx P w K mg base 91 "_law_asked" ["_law_choice", "_law_deeds", "_law_table", "_law_numbers", "_law_tree_here", "_law_state"] (spAsk67 K (cAt mg))) (D__law_word : DnE P w K mg base 1 "_law_word" ["_law_e"] (spWord67 K (cAt mg))) : Dn P w K mg base 92 "_law_told" ["_law_choice", "_law_deeds", "_law_table", "_law_numbers", "_law_tree_here", "_law_state"] (spTold67 K) := by
  refine D.ok fun f fd F => okG0 F sc__law_told (fun vs H Q E h => ?_) (fun cdv A outer s H vs Q E hr h => ⟨_, (pss_cons (ps_set (i := 6) sc__law_told.nd rfl (Or.inl rfl) pe_str)
    (pss_cons (ps_try_as (i := 7) rfl rfl sc__law_told.nd rfl rfl ⟨rfl, by decide, .inl B.AskError_.mg_⟩ takes0 (fun W pn xe tk po => (pss_one (ps_expr (pe_cW D__law_asked (hr.less (by decide)) tk rfl (pa_cons (pv 0) (pa_cons (pv 1) (pa_cons (pv 2) (pa_cons (pv 3) (pa_cons (pv 4) (pa_cons (pv 5) pa_nil))))))))))
      (fun a oe cls d pn hz hf => (pss_one (ps_set (i := 6) sc__law_told.nd rfl (Or.inl rfl) (pe_cE D__law_word (L2H.roomH_of ((hr.less (by decide))).room) hz hf rfl (pa_cons (pv 7) pa_nil))))))
    (pss_one (ps_ret (pv 6))))), ?_⟩)
  · obtain ⟨p, x, c, rfl, _⟩ := h; rfl
  · obtain ⟨p, x, c, rfl, hx, hc, q⟩ := h
    try walk_at "go"
    generalize hW : wAs _ _ _ _ _ _ = W
    have ex : ∀ m, m < 4 → PySem.W.exmOne K (.ref (cAt mg (cw67 m))) (.ref (cAt mg "AskError")) = some true := fun m hm => by
      rcases (show m = 0 ∨ m = 1 ∨ m = 2 ∨ m = 3 by omega) with rfl | rfl | rfl | rfl
      · exact exm_of B.AskError_ B.NoTable_AskError_
      · exact exm_of B.AskError_ B.NoNumber_AskError_
      · exact exm_of B.AskError_ B.NoTree_AskError_
      · exact exm_of B.AskError_ B.TooMany_AskError_
    have err : ∀ m, m < 4 → wd67 (due67 c x) = ww67 m → ∀ H1, Same H H1 → WE W [some (.int (c : Nat)), some x.dd.1, some x.dt.1, some x.dn.1, some x.tr.1, some x.st.1, some (.str "none"), none] (.ref (cAt mg (cw67 m))) none H1 := by
      intro m hm ew H1 S1
      rw [ew] at q
      have exm := ex m hm
      subst hW
      refine ⟨true, exm, fun _ a ha => ?_, fun z => by cases z⟩
      try walk_at "go"
      intro H2 S2
      try walk_at "go"
      exact q _ (S1.trans S2)
    try walk_at "go"
    refine ⟨fun e y H1 S1 => ?_, fun e _ H1 S1 => err 3 (by decide) (by rw [e] <;> rfl) H1 S1, fun n n1 n3 e H1 S1 => ?_⟩
    · subst hW
      try walk_at "go"
      rw [e] at q
      exact q _ S1
    · have eq : cl67 n = cw67 (n - 1) := by rcases (show n = 1 ∨ n = 2 ∨ n = 3 by omega) with rfl | rfl | rfl <;> rfl
      rw [eq]
      exact err (n - 1) (by omega) (by rw [e]; rcases (show n = 1 ∨ n = 2 ∨ n = 3 by omega) with rfl | rfl | rfl <;> rfl) H1 S1
/-! SPLIT -/
omit B in
theorem repX {K : PySem.W.Frag} {H : Hp} {T : Addr} {x : V} {k : Nat} {Q : VK} (hT : H T = some (.tup [x])) (h1 : 1 ≤ k) (h8 : k ≤ 1000) (q : ∀ p H', Same H H' → H' p = some (.tup (List.replicate k x)) → Q (.ref p) H') : rRepA K (.ref T) (.int (k : Nat)) H Q := by
  by_cases c : k = 1
  · subst c
    exact .inl ⟨rfl, ⟨T, _, rfl, SqT.of hT⟩, q T H (fun _ _ h => h) hT⟩
  · refine .inr ⟨T, _, _, rfl, rfl, SqT.of hT, by simp, by omega, by omega, by show 1 ≤ 1000; decide, fun p hp => q p _ (same_new hp _) ?_⟩
    rw [upd_same, show ((k : Nat) : Int).toNat = k from Int.toNat_natCast k]
    congr 2
    clear q c h1 h8
    induction k with
    | zero => rfl
    | succ m ih => rw [List.replicate_succ, List.flatten_cons, ih]; rfl
omit B in
theorem Od.rep {K : PySem.W.Frag} {p a : Addr} {H : Hp} {v : V} {d : PyData} {k N D N' D' : Nat} (h : H a = some (.tup (List.replicate k v))) (hd : Od K p H v d N D) (hN : 1 + N * k ≤ N') (hD : D + 1 ≤ D') : ∃ d', Od K p H (.ref a) d' N' D' :=
  ⟨_, Od.tup (tr := List.replicate k (v, d)) (by rw [List.map_replicate]; exact h) (fun t ht => by rw [List.eq_of_mem_replicate ht]; exact hd) (by rw [List.length_replicate]; exact hN) hD⟩
omit B in
theorem Ro6.od {K : PySem.W.Frag} {p R : Addr} {H : Hp} {rs : List (Addr × List Nat)} (h : Ro6 H R rs) : ∃ d, Od K p H (.ref R) d 1000 3 :=
  ⟨_, Od.tup (tr := rs.map ra) (N := 100) (D := 2) (by rw [ra_1]; exact h.top) (fun t ht => by
    obtain ⟨x, hx, rfl⟩ := List.mem_map.mp ht
    exact (ra_od (h.rows x hx).1 (h.rows x hx).2).mono (by decide) (by decide)) (by have := h.l6; rw [List.length_map]; omega) (by decide)⟩
omit B in
theorem tr_nsz : ∀ t : Tr, nsz t.d + 1 = 2 * t.cnt
  | .leaf _ => rfl
  | .node l r => by
    have h1 := tr_nsz l
    have h2 := tr_nsz r
    show 1 + (nsz l.d + (nsz r.d + 0)) + 1 = 2 * (l.cnt + r.cnt)
    omega
omit B in
theorem row_big : ∀ {t : Tr} {f : Nat}, IsRow t f → t.big ≤ f + t.cnt
  | .leaf n, f, h => by
    have : n = f := h
    show n ≤ f + 1
    omega
  | .node l r, f, h => by
    have h1 := row_big h.1
    have h2 := row_big h.2
    show max l.big r.big ≤ f + (l.cnt + r.cnt)
    omega
omit B in
theorem tr_od {K : PySem.W.Frag} {p : Addr} {H : Hp} {v : V} {t : Tr} (h : TrAt H v t) (hr : IsRow t 0) (hc : t.cnt ≤ 40) : Od K p H v t.d 80 40 := by
  have h1 := tr_nsz t
  have h2 := row_big hr
  have h3 := (Tr.wg (t := t) (b := 100) (by omega)).2
  have h4 := t.h_cnt
  exact ⟨h.th, by omega, by omega⟩
omit B in
theorem Od.rep' {K : PySem.W.Frag} {p a : Addr} {H : Hp} {v : V} {d : PyData} {k N D : Nat} (hd : Od K p H v d N D) (h : H a = some (.tup (List.replicate k v))) (hN : 1 + N * k ≤ 900000) (hD : D + 1 ≤ 50) : ∃ d', Od K p H (.ref a) d' 900000 50 := Od.rep h hd hN hD
omit B in
theorem repD {K : PySem.W.Frag} {H : Hp} {T : Addr} {xs : List V} {Q : VK} (hT : H T = some (.tup xs)) (h0 : xs ≠ []) (h8 : xs.length ≤ 1000) (q : ∀ p H', Same H H' → H' p = some (.tup (xs ++ xs)) → Q (.ref p) H') : rRepA K (.ref T) (.int 2) H Q := by
  refine .inr ⟨T, _, _, rfl, rfl, SqT.of hT, h0, by decide, by decide, h8, fun p hp => q p _ (same_new hp _) ?_⟩
  rw [upd_same, show (2 : Int).toNat = 2 from rfl]
  show some (HO.tup ((xs ++ (xs ++ [])))) = _
  rw [List.append_nil]
omit B in
theorem repC {K : PySem.W.Frag} {σ : L2.St} {H : Hp} {T : Addr} {x : V} {i : Int} {k : Nat} {Q : VK} (hi : i = (k : Nat)) (hT : H T = some (.tup [x])) (h1 : 1 ≤ k) (h8 : k ≤ 1000) (q : ∀ p H', Same H H' → H' p = some (.tup (List.replicate k x)) → Q (.ref p) H') : tC (V.int i) σ H fun y H2 => rRepA K (.ref T) y H2 Q := by
  subst hi
  exact repX hT h1 h8 q
omit B in
theorem repDC {K : PySem.W.Frag} {σ : L2.St} {H : Hp} {T : Addr} {xs : List V} {Q : VK} (hT : H T = some (.tup xs)) (h0 : xs ≠ []) (h8 : xs.length ≤ 1000) (q : ∀ p H', Same H H' → H' p = some (.tup (xs ++ xs)) → Q (.ref p) H') : tC (V.int 2) σ H fun y H2 => rRepA K (.ref T) y H2 Q := repD hT h0 h8 q
omit B in
theorem Ro6.dbl {K : PySem.W.Frag} {p R a : Addr} {H : Hp} {rs : List (Addr × List Nat)} (h : Ro6 H R rs) (o : H a = some (.tup ((rs.map fun x => V.ref x.1) ++ rs.map fun x => V.ref x.1))) : ∃ d, Od K p H (.ref a) d 900000 50 :=
  ⟨_, Od.tup (tr := rs.map ra ++ rs.map ra) (N := 100) (D := 2) (by rw [List.map_append, ra_1]; exact o) (fun t ht => by
    have ht : t ∈ rs.map ra := (List.mem_append.mp ht).elim _root_.id _root_.id
    obtain ⟨x, hx, rfl⟩ := List.mem_map.mp ht
    exact (ra_od (h.rows x hx).1 (h.rows x hx).2).mono (by decide) (by decide)) (by have := h.l6; rw [List.length_append, List.length_map]; omega) (by decide)⟩
omit B in
theorem od_0 {K : PySem.W.Frag} {p a : Addr} {H : Hp} (h : H a = some (.tup [])) : Od K p H (.ref a) (.tuple []) 10 1 := ⟨Th.tup (tr := []) h (fun t ht => (nomatch ht)), by show nsz (.tuple []) ≤ 10; decide, by show (PyData.tuple []).depth ≤ 1; decide⟩
omit B in
theorem od_z {K : PySem.W.Frag} {p a : Addr} {H : Hp} (h : H a = some (.tup [.int 0])) : Od K p H (.ref a) (.tuple [.int 0]) 10 1 := ⟨Th.tup (tr := [(.int 0, .int 0)]) h fun t ht => by cases List.mem_singleton.mp ht; exact .int _, by show nsz (.tuple [.int 0]) ≤ 10; decide, by show (PyData.tuple [.int 0]).depth ≤ 1; decide⟩
omit B in
theorem od_1 {K : PySem.W.Frag} {p a : Addr} {H : Hp} {v : V} {d : PyData} {N D : Nat} (h : H a = some (.tup [v])) (hd : Od K p H v d N D) : Od K p H (.ref a) (.tuple [d]) (N + 1) (D + 1) :=
  Od.tup (tr := [(v, d)]) h (fun t ht => by cases List.mem_singleton.mp ht; exact hd) (by show 1 + N * 1 ≤ N + 1; omega) (Nat.le_refl _)
omit B in
theorem od_i {K : PySem.W.Frag} {p : Addr} {H : Hp} : Od K p H (.int 0) (.int 0) 1 0 := ⟨.int _, Nat.le_refl _, Nat.le_refl _⟩
omit B in
theorem Od.ex {K : PySem.W.Frag} {p : Addr} {H : Hp} {v : V} {d : PyData} {N D : Nat} (h : Od K p H v d N D) (h1 : N ≤ 900000) (h2 : D ≤ 50) : ∃ d, Od K p H v d 900000 50 := ⟨d, h.mono h1 h2⟩
def spThings67 (K : PySem.W.Frag) : Sp := fun vs H Q _ => ∃ (p L : Addr) (b0 b1 b2 b3 b4 : Nat), vs = [.ref p, .ref L] ∧ PotAt H p ∧ L ≠ p ∧ H L = some (.lst [.int b0, .int b1, .int b2, .int b3, .int b4]) ∧ ∀ U (x : X5) H', But p H H' → PotAt H' p → x.at_ K p H' → H' U = some (.tup [x.dd.1, x.dt.1, x.dn.1, x.tr.1, x.st.1]) → Q (.ref U) H'
theorem k__law_things (D : Df K mg "_law_things" s__law_things ["_law_store_here", "_law_bad"]) (D__law_draw : Dn P w K mg base 1 "_law_draw" ["_law_store_here", "_law_many"] spTake) (D__law_tree : Dn P w K mg base 42 "_law_tree" ["_law_store_here", "_law_first", "_law_many"] (spLT6 40)) (D__law_rows_spoilt : Dn P w K mg base 6 "_law_rows_spoilt" ["_law_store_here", "_law_rows", "_law_beyond"] (spRows67 K)) (D__law_row_spoilt : Dn P w K mg base 5 "_law_row_spoilt" ["_law_store_here", "_law_row", "_law_beyond"] (spRow67 K)) (D__law_tree_spoilt : Dn P w K mg base 43 "_law_tree_spoilt" ["_law_store_here", "_law_tree_here", "_law_many"] ((spTrS67 K) 41)) (D__law_odd : Dn P w K mg base 3 "_law_odd" ["_law_store_here", "_law_beyond"] (spOdd67 K)) : Dn P w K mg base 50 "_law_things" ["_law_store_here", "_law_bad"] (spThings67 K) := by
  refine D.ok fun f fd F => okG0 F sc__law_things (fun vs H Q E h => ?_) (fun cdv A outer s H vs Q E hr h => ⟨_, (pss_cons (ps_set (i := 2) sc__law_things.nd rfl (Or.inr rfl) (pe_op op_add pe_int (pe_cD D__law_draw (hr.less (by decide)) rfl (pa_cons (pv 0) (pa_cons pe_int pa_nil)))))
    (pss_cons (ps_set (i := 3) sc__law_things.nd rfl (Or.inr rfl) (pe_op op_add pe_int (pe_cD D__law_draw (hr.less (by decide)) rfl (pa_cons (pv 0) (pa_cons pe_int pa_nil)))))
    (pss_cons (ps_set (i := 4) sc__law_things.nd rfl (Or.inl rfl) (pe_op op_add pe_int (pe_cD D__law_draw (hr.less (by decide)) rfl (pa_cons (pv 0) (pa_cons pe_int pa_nil)))))
    (pss_cons (ps_set (i := 6) sc__law_things.nd rfl (Or.inl rfl) (pe_callTy (tupOfK (K := K)) (by rfl) B.tuple_ (by decide +kernel) (pa_cons (pe_lc (own := [("_law_k", 10)]) (g := gName 10) (tt := tYes) rfl sc__law_things.nd (pi_range1 (by rfl) B.range_ (pa_cons (pv 3) pa_nil)) (blkOk_by (own := [("_law_k", 10)]) (N := ["_law_store_here", "_law_bad", "_law_states", "_law_rows", "_law_many", "_law_state", "_law_deeds", "_law_table", "_law_numbers", "_law_tree_here", "_law_k", "_law_i", "_law_j"]) (sc := defScope s__law_things) (by decide +kernel)) (fun _ _ _ _ _ => (pg_name (i := 10) sc__law_things.nd rfl (Or.inl rfl))) (fun _ _ _ _ _ => pts_nil) (fun _ _ _ _ _ => (pe_callTy (tupOfK (K := K)) (by rfl) B.tuple_ (by decide +kernel) (pa_cons (pe_lc (own := [("_law_state", 5)]) (g := gName 5) (tt := tYes) rfl sc__law_things.nd (pi_range1 (by rfl) B.range_ (pa_cons (pv 2) pa_nil)) (blkOk_nest (own := [("_law_state", 5)]) (N := ["_law_store_here", "_law_bad", "_law_states", "_law_rows", "_law_many", "_law_state", "_law_deeds", "_law_table", "_law_numbers", "_law_tree_here", "_law_k", "_law_i", "_law_j"]) rfl (by decide +kernel)) (fun _ _ _ _ _ => (pg_name (i := 5) sc__law_things.nd rfl (Or.inl rfl))) (fun _ _ _ _ _ => pts_nil) (fun _ _ _ _ _ => (pe_cD D__law_draw (hr.less (by decide)) rfl (pa_cons (pv 0) (pa_cons (pv 2) pa_nil))))) pa_nil)))) pa_nil)))
    (pss_cons (ps_set (i := 7) sc__law_things.nd rfl (Or.inl rfl) (pe_callTy (tupOfK (K := K)) (by rfl) B.tuple_ (by decide +kernel) (pa_cons (pe_lc (own := [("_law_i", 11)]) (g := gName 11) (tt := tYes) rfl sc__law_things.nd (pi_range1 (by rfl) B.range_ (pa_cons (pv 3) pa_nil)) (blkOk_by (own := [("_law_i", 11)]) (N := ["_law_store_here", "_law_bad", "_law_states", "_law_rows", "_law_many", "_law_state", "_law_deeds", "_law_table", "_law_numbers", "_law_tree_here", "_law_k", "_law_i", "_law_j"]) (sc := defScope s__law_things) (by decide +kernel)) (fun _ _ _ _ _ => (pg_name (i := 11) sc__law_things.nd rfl (Or.inl rfl))) (fun _ _ _ _ _ => pts_nil) (fun _ _ _ _ _ => (pe_callTy (tupOfK (K := K)) (by rfl) B.tuple_ (by decide +kernel) (pa_cons (pe_lc (own := [("_law_j", 12)]) (g := gName 12) (tt := tYes) rfl sc__law_things.nd (pi_range1 (by rfl) B.range_ (pa_cons (pv 3) pa_nil)) (blkOk_nest (own := [("_law_j", 12)]) (N := ["_law_store_here", "_law_bad", "_law_states", "_law_rows", "_law_many", "_law_state", "_law_deeds", "_law_table", "_law_numbers", "_law_tree_here", "_law_k", "_law_i", "_law_j"]) rfl (by decide +kernel)) (fun _ _ _ _ _ => (pg_name (i := 12) sc__law_things.nd rfl (Or.inl rfl))) (fun _ _ _ _ _ => pts_nil) (fun _ _ _ _ _ => (pe_cD D__law_draw (hr.less (by decide)) rfl (pa_cons (pv 0) (pa_cons (pv 3) pa_nil))))) pa_nil)))) pa_nil)))
    (pss_cons (ps_set (i := 8) sc__law_things.nd rfl (Or.inl rfl) (pe_callTy (tupOfK (K := K)) (by rfl) B.tuple_ (by decide +kernel) (pa_cons (pe_lc (own := [("_law_k", 10)]) (g := gName 10) (tt := tYes) rfl sc__law_things.nd (pi_range1 (by rfl) B.range_ (pa_cons (pv 4) pa_nil)) (blkOk_by (own := [("_law_k", 10)]) (N := ["_law_store_here", "_law_bad", "_law_states", "_law_rows", "_law_many", "_law_state", "_law_deeds", "_law_table", "_law_numbers", "_law_tree_here", "_law_k", "_law_i", "_law_j"]) (sc := defScope s__law_things) (by decide +kernel)) (fun _ _ _ _ _ => (pg_name (i := 10) sc__law_things.nd rfl (Or.inl rfl))) (fun _ _ _ _ _ => pts_nil) (fun _ _ _ _ _ => (pe_cD D__law_draw (hr.less (by decide)) rfl (pa_cons (pv 0) (pa_cons (pv 3) pa_nil))))) pa_nil)))
    (pss_cons (ps_set (i := 9) sc__law_things.nd rfl (Or.inl rfl) (pe_cD D__law_tree (hr.less (by decide)) rfl (pa_cons (pv 0) (pa_cons pe_int (pa_cons (pv 4) pa_nil)))))
    (pss_cons (ps_set (i := 5) sc__law_things.nd rfl (Or.inl rfl) (pe_cD D__law_draw (hr.less (by decide)) rfl (pa_cons (pv 0) (pa_cons (pv 2) pa_nil))))
    (C8.pss_cut (ps_if (pt_cmpR op_eq (pe_ix (kk (K := K) (F := rIxL) (P := IxR _) ix_list) (pv 1) pe_int (fun _ _ => rfl)) pe_int (nomark _))
      (pss_one (ps_set (i := 6) sc__law_things.nd rfl (Or.inl rfl) (pe_cD D__law_rows_spoilt (hr.less (by decide)) rfl (pa_cons (pv 0) (pa_cons (pv 6) (pa_cons (pv 2) pa_nil))))))
      pss_nil)
    (C8.pss_cut (ps_if (pt_cmpR op_eq (pe_ix (kk (K := K) (F := rIxL) (P := IxR _) ix_list) (pv 1) pe_int (fun _ _ => rfl)) pe_int (nomark _))
      (pss_one (ps_set (i := 6) sc__law_things.nd rfl (Or.inl rfl) (pe_ix (kk (K := K) (F := rIxT) (P := IxR _) ix_tup) (pe_tup (pa_cons (pe_op (kk (K := K) (F := rRepA) (P := OpR _ _) op_repA) (pe_tup (pa_cons (pe_tupRg rfl (by rfl) B.tuple_ (prg_1 rfl B.range_ pe_int)) pa_nil)) (pv 3)) (pa_cons (pe_op (kk (K := K) (F := rRepA) (P := OpR _ _) op_repA) (pe_tup (pa_cons (pe_tup (pa_cons pe_int pa_nil)) pa_nil)) pe_int) (pa_cons (pe_tup pa_nil) (pa_cons (pe_op (kk (K := K) (F := rRepA) (P := OpR _ _) op_repA) (pv 6) pe_int) (pa_cons (pe_op (kk (K := K) (F := rRepA) (P := OpR _ _) op_repA) (pe_tup (pa_cons (pe_tup (pa_cons pe_int pa_nil)) pa_nil)) pe_int) pa_nil)))))) (pe_cD D__law_draw (hr.less (by decide)) rfl (pa_cons (pv 0) (pa_cons pe_int pa_nil))) (fun _ _ => rfl))))
      pss_nil)
    (C8.pss_cut (ps_if (pt_cmpR op_eq (pe_ix (kk (K := K) (F := rIxL) (P := IxR _) ix_list) (pv 1) pe_int (fun _ _ => rfl)) pe_int (nomark _))
      (pss_one (ps_set (i := 7) sc__law_things.nd rfl (Or.inl rfl) (pe_cD D__law_rows_spoilt (hr.less (by decide)) rfl (pa_cons (pv 0) (pa_cons (pv 7) (pa_cons (pv 3) pa_nil))))))
      pss_nil)
    (C8.pss_cut (ps_if (pt_cmpR op_eq (pe_ix (kk (K := K) (F := rIxL) (P := IxR _) ix_list) (pv 1) pe_int (fun _ _ => rfl)) pe_int (nomark _))
      (pss_one (ps_set (i := 7) sc__law_things.nd rfl (Or.inl rfl) (pe_ix (kk (K := K) (F := rIxT) (P := IxR _) ix_tup) (pe_tup (pa_cons (pe_tup pa_nil) (pa_cons (pe_op (kk (K := K) (F := rRepA) (P := OpR _ _) op_repA) (pe_tup (pa_cons (pe_op (kk (K := K) (F := rRepA) (P := OpR _ _) op_repA) (pe_tup (pa_cons pe_int pa_nil)) pe_int) pa_nil)) pe_int) (pa_cons (pe_tup (pa_cons (pe_tup pa_nil) pa_nil)) (pa_cons (pe_op (kk (K := K) (F := rRepA) (P := OpR _ _) op_repA) (pe_tup (pa_cons (pe_op (kk (K := K) (F := rRepA) (P := OpR _ _) op_repA) (pe_tup (pa_cons pe_int pa_nil)) pe_int) pa_nil)) pe_int) pa_nil))))) (pe_cD D__law_draw (hr.less (by decide)) rfl (pa_cons (pv 0) (pa_cons pe_int pa_nil))) (fun _ _ => rfl))))
      pss_nil)
    (C8.pss_cut (ps_if (pt_cmpR op_eq (pe_ix (kk (K := K) (F := rIxL) (P := IxR _) ix_list) (pv 1) pe_int (fun _ _ => rfl)) pe_int (nomark _))
      (pss_one (ps_set (i := 8) sc__law_things.nd rfl (Or.inl rfl) (pe_cD D__law_row_spoilt (hr.less (by decide)) rfl (pa_cons (pv 0) (pa_cons (pv 8) (pa_cons (pv 3) pa_nil))))))
      pss_nil)
    (C8.pss_cut (ps_if (pt_cmpR op_eq (pe_ix (kk (K := K) (F := rIxL) (P := IxR _) ix_list) (pv 1) pe_int (fun _ _ => rfl)) pe_int (nomark _))
      (pss_one (ps_set (i := 8) sc__law_things.nd rfl (Or.inl rfl) (pe_ix (kk (K := K) (F := rIxT) (P := IxR _) ix_tup) (pe_tup (pa_cons (pe_tup pa_nil) (pa_cons (pe_op (kk (K := K) (F := rRepA) (P := OpR _ _) op_repA) (pe_tup (pa_cons pe_int pa_nil)) pe_int) (pa_cons (pe_op (kk (K := K) (F := rRepA) (P := OpR _ _) op_repA) (pe_tup (pa_cons pe_int pa_nil)) pe_int) pa_nil)))) (pe_cD D__law_draw (hr.less (by decide)) rfl (pa_cons (pv 0) (pa_cons pe_int pa_nil))) (fun _ _ => rfl))))
      pss_nil)
    (C8.pss_cut (ps_if (pt_cmpR op_eq (pe_ix (kk (K := K) (F := rIxL) (P := IxR _) ix_list) (pv 1) pe_int (fun _ _ => rfl)) pe_int (nomark _))
      (pss_one (ps_set (i := 9) sc__law_things.nd rfl (Or.inl rfl) (pe_cD D__law_tree_spoilt (hr.less (by decide)) rfl (pa_cons (pv 0) (pa_cons (pv 9) (pa_cons (pv 4) pa_nil))))))
      pss_nil)
    (C8.pss_cut (ps_if (pt_cmpR op_eq (pe_ix (kk (K := K) (F := rIxL) (P := IxR _) ix_list) (pv 1) pe_int (fun _ _ => rfl)) pe_int (nomark _))
      (pss_one (ps_set (i := 5) sc__law_things.nd rfl (Or.inl rfl) (pe_cD D__law_odd (hr.less (by decide)) rfl (pa_cons (pv 0) (pa_cons (pv 2) pa_nil)))))
      pss_nil)
    (pss_one (ps_ret (pe_tup (pa_cons (pv 6) (pa_cons (pv 7) (pa_cons (pv 8) (pa_cons (pv 9) (pa_cons (pv 5) pa_nil)))))))))))))))))))))))), ?_⟩)
  · obtain ⟨p, L, b0, b1, b2, b3, b4, rfl, _⟩ := h; rfl
  · obtain ⟨p, L, b0, b1, b2, b3, b4, rfl, hp, nL, hL, q⟩ := h
    try walk_at "go"
    intro e1 H1 c1 k1 p1
    obtain ⟨S, eS, S1, S5⟩ : ∃ S : Nat, (1 : Int) + (e1 : Int) = (S : Int) ∧ 1 ≤ S ∧ S ≤ 5 := ⟨e1 + 1, by omega, by omega, by omega⟩
    have w1 : (fun i j : Int => V.int (i + j)) 1 (e1 : Int) = V.int (S : Int) := congrArg V.int eS
    try walk_at "go"
    rw [w1]
    intro e2 H2 c2 k2 p2
    obtain ⟨N, eN, N1, N6⟩ : ∃ N : Nat, (1 : Int) + (e2 : Int) = (N : Int) ∧ 1 ≤ N ∧ N ≤ 6 := ⟨e2 + 1, by omega, by omega, by omega⟩
    have w2 : (fun i j : Int => V.int (i + j)) 1 (e2 : Int) = V.int (N : Int) := congrArg V.int eN
    try walk_at "go"
    rw [w2]
    intro e3 H3 c3 k3 p3
    obtain ⟨M, eM, M1, M40⟩ : ∃ M : Nat, (1 : Int) + (e3 : Int) = (M : Int) ∧ 1 ≤ M ∧ M ≤ 40 := ⟨e3 + 1, by omega, by omega, by omega⟩
    have w3 : (fun i j : Int => V.int (i + j)) 1 (e3 : Int) = V.int (M : Int) := congrArg V.int eM
    have tN : ((N : Nat) : Int).toNat = N := by omega
    have tS : ((S : Nat) : Int).toNat = S := by omega
    have tM : ((M : Nat) : Int).toNat = M := by omega
    have b3' : But p H H3 := k1.trans (k2.trans k3)
    clear k1 k2 k3
    clear p1 p2
    try walk_at "go"
    rw [w3]
    intro E1 hE1
    rw [tN]
    have npE1 : E1 ≠ p := pot_ne p3 hE1
    refine lc_range (lo := 0) (n := N) (fun i H' => Kept (∃ rs : List (Addr × List Nat), But p H3 H' ∧ PotAt H' p ∧ H' E1 = some (.lst (rs.map fun x => V.ref x.1)) ∧ rs.length = i ∧ RsAt H' rs ∧ ∀ x ∈ rs, Dt S x.2)) ⟨[], same_but (same_new hE1 _), p3.same (same_new hE1 _), upd_same, rfl, fun x hx => absurd hx List.not_mem_nil, fun x hx => absurd hx List.not_mem_nil⟩ ?_ ?_
    · rintro i H4 hi ⟨rs, B6, p6, hE6, hl6, hr6, hd6⟩
      have ul : (rs.map fun x => V.ref x.1).length ≤ 60 := by rw [List.length_map]; omega
      try walk_at "go"
      intro G1 hG1
      rw [tS]
      have npG1 : G1 ≠ p := pot_ne p6 hG1
      refine lc_range (lo := 0) (n := S) (fun j H' => Kept (∃ d : List Nat, But p H4 H' ∧ PotAt H' p ∧ H' G1 = some (.lst ((iN d).map V.int)) ∧ d.length = j ∧ Bel d S)) ⟨[], same_but (same_new hG1 _), p6.same (same_new hG1 _), upd_same, rfl, fun x hx => absurd hx List.not_mem_nil⟩ ?_ ?_
      · rintro j H5 hj ⟨d, B7, p7, hG7, hl7, hb7⟩
        have ul : ((iN d).map V.int).length ≤ 60 := by rw [iN_len]; omega
        try walk_at "go"
        intro y H6 y1 b8 p8
        have hG8 := b8 _ _ npG1 hG7
        try walk_at "go"
        exact ⟨⟨d ++ [y], (B7.trans b8).fr hG1, p8.fr (Ne.symm npG1), by rw [upd_same, iN_snoc], by rw [List.length_append, hl7] <;> rfl, hb7.snoc (by omega)⟩⟩
      · rintro H5 ⟨d, B7, p7, hG7, hl7, hb7⟩
        try walk_at "go"
        intro R hR
        generalize eH6 : upd _ R _ = H6
        have SH6 := newS eH6 hR
        have oR := newO eH6
        have k8 := pot_keep (B7.trans (same_but SH6)) p6
        have hE8 := SH6 _ _ (B7 _ _ npE1 hE6)
        try walk_at "go"
        have tk : ∀ t xs, H6 t = some (.tup xs) → upd H6 E1 (.lst ((rs.map fun x => V.ref x.1) ++ [.ref R])) t = some (.tup xs) := fun t xs z => by rw [upd_ne (ne_of z hE8 (by intro z; cases z))]; exact z
        refine ⟨⟨rs ++ [(R, d)], (B6.trans (B7.trans (same_but SH6))).fr hE1, (p7.same SH6).fr (Ne.symm npE1), by rw [upd_same, List.map_append] <;> rfl, by rw [List.length_append, hl6] <;> rfl, fun x hx => ?_, fun x hx => ?_⟩⟩
        · rcases List.mem_append.mp hx with z | z
          · exact tk _ _ (k8 _ _ (hr6 x z))
          · cases List.mem_singleton.mp z
            exact tk _ _ oR
        · rcases List.mem_append.mp hx with z | z
          · exact hd6 x z
          · cases List.mem_singleton.mp z
            exact ⟨hl7, hb7⟩
    rintro H4 ⟨rsD, BH4, pH4, hE6, hlD, hrD, hdD⟩
    try walk_at "go"
    intro D hD
    generalize eH5 : upd _ D _ = H5
    have SH5 := newS eH5 hD
    have oD := newO eH5
    have gD : Ro6 H5 D rsD := ⟨oD, fun x hx => ⟨SH5 _ _ (hrD x hx), by have := (hdD x hx).1; omega⟩, by omega, by omega⟩
    have pH5 := pH4.same SH5
    have BH5 := BH4.trans (same_but SH5)
    clear hrD hdD hE6
    try walk_at "go"
    intro E2 hE2
    rw [tN]
    have npE2 : E2 ≠ p := pot_ne pH5 hE2
    refine lc_range (lo := 0) (n := N) (fun i H' => Kept (∃ rs : List (Addr × List Nat), But p H5 H' ∧ PotAt H' p ∧ H' E2 = some (.lst (rs.map fun x => V.ref x.1)) ∧ rs.length = i ∧ RsAt H' rs ∧ ∀ x ∈ rs, Dt N x.2)) ⟨[], same_but (same_new hE2 _), pH5.same (same_new hE2 _), upd_same, rfl, fun x hx => absurd hx List.not_mem_nil, fun x hx => absurd hx List.not_mem_nil⟩ ?_ ?_
    · rintro i H6 hi ⟨rs, B6, p6, hE6, hl6, hr6, hd6⟩
      have ul : (rs.map fun x => V.ref x.1).length ≤ 60 := by rw [List.length_map]; omega
      try walk_at "go"
      intro G2 hG2
      rw [tN]
      have npG2 : G2 ≠ p := pot_ne p6 hG2
      refine lc_range (lo := 0) (n := N) (fun j H' => Kept (∃ d : List Nat, But p H6 H' ∧ PotAt H' p ∧ H' G2 = some (.lst ((iN d).map V.int)) ∧ d.length = j ∧ Bel d N)) ⟨[], same_but (same_new hG2 _), p6.same (same_new hG2 _), upd_same, rfl, fun x hx => absurd hx List.not_mem_nil⟩ ?_ ?_
      · rintro j H7 hj ⟨d, B7, p7, hG7, hl7, hb7⟩
        have ul : ((iN d).map V.int).length ≤ 60 := by rw [iN_len]; omega
        try walk_at "go"
        intro y H8 y1 b8 p8
        have hG8 := b8 _ _ npG2 hG7
        try walk_at "go"
        exact ⟨⟨d ++ [y], (B7.trans b8).fr hG2, p8.fr (Ne.symm npG2), by rw [upd_same, iN_snoc], by rw [List.length_append, hl7] <;> rfl, hb7.snoc (by omega)⟩⟩
      · rintro H7 ⟨d, B7, p7, hG7, hl7, hb7⟩
        try walk_at "go"
        intro R hR
        generalize eH8 : upd _ R _ = H8
        have SH8 := newS eH8 hR
        have oR := newO eH8
        have k8 := pot_keep (B7.trans (same_but SH8)) p6
        have hE8 := SH8 _ _ (B7 _ _ npE2 hE6)
        try walk_at "go"
        have tk : ∀ t xs, H8 t = some (.tup xs) → upd H8 E2 (.lst ((rs.map fun x => V.ref x.1) ++ [.ref R])) t = some (.tup xs) := fun t xs z => by rw [upd_ne (ne_of z hE8 (by intro z; cases z))]; exact z
        refine ⟨⟨rs ++ [(R, d)], (B6.trans (B7.trans (same_but SH8))).fr hE2, (p7.same SH8).fr (Ne.symm npE2), by rw [upd_same, List.map_append] <;> rfl, by rw [List.length_append, hl6] <;> rfl, fun x hx => ?_, fun x hx => ?_⟩⟩
        · rcases List.mem_append.mp hx with z | z
          · exact tk _ _ (k8 _ _ (hr6 x z))
          · cases List.mem_singleton.mp z
            exact tk _ _ oR
        · rcases List.mem_append.mp hx with z | z
          · exact hd6 x z
          · cases List.mem_singleton.mp z
            exact ⟨hl7, hb7⟩
    rintro H6 ⟨rsT, BH6, pH6, hE6, hlT, hrT, hdT⟩
    try walk_at "go"
    intro T hT
    generalize eH7 : upd _ T _ = H7
    have SH7 := newS eH7 hT
    have oT := newO eH7
    have gT : Ro6 H7 T rsT := ⟨oT, fun x hx => ⟨SH7 _ _ (hrT x hx), by have := (hdT x hx).1; omega⟩, by omega, by omega⟩
    have pH7 := pH6.same SH7
    have BH7 := BH6.trans (same_but SH7)
    clear hrT hdT hE6
    try walk_at "go"
    intro E3 hE3
    rw [tM]
    have npE3 : E3 ≠ p := pot_ne pH7 hE3
    refine lc_range (lo := 0) (n := M) (fun j H' => Kept (∃ d : List Nat, But p H7 H' ∧ PotAt H' p ∧ H' E3 = some (.lst ((iN d).map V.int)) ∧ d.length = j ∧ Bel d N)) ⟨[], same_but (same_new hE3 _), pH7.same (same_new hE3 _), upd_same, rfl, fun x hx => absurd hx List.not_mem_nil⟩ ?_ ?_
    · rintro j H8 hj ⟨d, B8, p8, hG8, hl8, hb8⟩
      have ul : ((iN d).map V.int).length ≤ 60 := by rw [iN_len]; omega
      try walk_at "go"
      intro y H9 y1 b9 p9
      have hG9 := b9 _ _ npE3 hG8
      try walk_at "go"
      exact ⟨⟨d ++ [y], (B8.trans b9).fr hE3, p9.fr (Ne.symm npE3), by rw [upd_same, iN_snoc], by rw [List.length_append, hl8] <;> rfl, hb8.snoc (by omega)⟩⟩
    rintro H8 ⟨ns, BH8, pH8, hG8, hlU, hbU⟩
    try walk_at "go"
    intro U hU
    generalize eH9 : upd _ U _ = H9
    have SH9 := newS eH9 hU
    have oU := newO eH9
    clear hG8
    have pH9 := pH8.same SH9
    have BH9 := BH8.trans (same_but SH9)
    try walk_at "go"
    intro v t H10 kH10 pH10 ht hr hc
    have hr : IsRow t 0 := hr
    try walk_at "go"
    intro s H11 cs kH11 pH11
    have tk11 := TK.but kH11 pH10
    have tk9 : TK H9 H11 := TK.but (kH10.trans kH11) pH9
    have tk7 : TK H7 H11 := fun a xs e => tk9 _ _ (TK.but BH9 pH7 _ _ e)
    have tk5 : TK H5 H11 := fun a xs e => tk7 _ _ (TK.but BH7 pH5 _ _ e)
    have gD := gD.tk tk5
    have gT := gT.tk tk7
    have oU := tk9 _ _ oU
    have ht := ht.but kH11 pH10.choose_spec.choose_spec.1
    have B11 : But p H H11 := b3'.trans (BH5.trans (BH7.trans (BH9.trans (kH10.trans kH11))))
    have hL11 := B11 _ _ nL hL
    have lU : ((iN ns).map inD).length ≤ 40 := by unfold iN; rw [List.length_map, List.length_map]; omega
    have aU : ∀ t ∈ (iN ns).map inD, Od K p H11 t.1 t.2 100 2 := fun t ht => (inD_od t ht).mono (by decide) (by decide)
    have oU' : H11 U = some (.tup (((iN ns).map inD).map fun t => t.1)) := by rw [inD_1]; exact oU
    have oT := tr_od (K := K) (p := p) ht hr (by omega)
    have os : Od K p H11 (.int (s : Nat)) (.int (s : Nat)) 10 2 := ⟨.int _, by show 1 ≤ 10; decide, by show 0 ≤ 2; decide⟩
    have BT := B11
    have hL := hL11
    have pA0 := pH11
    clear B11 hL11 b3' BH5 BH7 BH9 kH10 kH11 tk11 tk9 tk7 tk5 oU p3
    clear npE1 npE2 npE3 hE1 hE2 hE3 hlD hlT pH11 pH5 pH7 pH9 pH8 pH10
    refine ⟨fun σ H' => Kept (∃ x : V, σ = [some (.ref p), some (.ref L), some (.int S), some (.int N), some (.int M), some (V.int s), some (x), some (V.ref T), some (V.ref U), some (v), none, none, none] ∧ But p H11 H' ∧ PotAt H' p ∧ ((b0 = 1 ∧ ∃ d, Od K p H' x d 900000 50) ∨ (b0 ≠ 1 ∧ x = V.ref D))), ?_, ?_⟩
    · try walk_at "go"
      refine ite2 (fun c => ?_) (fun c => ?_)
      · have cb : b0 = 1 := by have z := of_decide_eq_true c; have := V.int.inj z; omega
        try walk_at "go"
        intro x d A bA pA od
        try walk_at "go"
        exact ⟨⟨x, rfl, bA, pA, .inl ⟨cb, od.ex (by decide) (by decide)⟩⟩⟩
      · have cb : b0 ≠ 1 := fun z => c (by rw [z] <;> rfl)
        try walk_at "go"
        exact ⟨⟨_, rfl, But.refl, pA0, .inr ⟨cb, rfl⟩⟩⟩
    rintro σ A1 ⟨x1, rfl, BA1, pA1, z1⟩
    have tk := TK.but BA1 pA0
    have BT := BT.trans BA1
    have hL := BA1 _ _ nL hL
    have gD := gD.tk tk
    have gT := gT.tk tk
    have oU' := tk _ _ oU'
    have aU : ∀ t ∈ (iN ns).map inD, Od K p A1 t.1 t.2 100 2 := fun t h => (aU t h).but BA1 pA0
    have ht := ht.but BA1 pA0.choose_spec.choose_spec.1
    have os : Od K p A1 (.int (s : Nat)) (.int (s : Nat)) 10 2 := ⟨.int _, by show 1 ≤ 10; decide, by show 0 ≤ 2; decide⟩
    refine ⟨fun σ H' => Kept (∃ x : V, σ = [some (.ref p), some (.ref L), some (.int S), some (.int N), some (.int M), some (V.int s), some (x), some (V.ref T), some (V.ref U), some (v), none, none, none] ∧ But p A1 H' ∧ PotAt H' p ∧ ∃ d, Od K p H' x d 900000 50), ?_, ?_⟩
    · try walk_at "go"
      refine ite2 (fun c => ?_) (fun c => ?_)
      · have cb : b0 = 2 := by have z := of_decide_eq_true c; have := V.int.inj z; omega
        obtain rfl : x1 = V.ref D := by
          rcases z1 with ⟨z, _⟩ | ⟨_, z⟩
          · omega
          · exact z
        try walk_at "go"
        intro R1 hR1
        generalize eX1 : upd _ R1 _ = X1
        have SX1 := newS eX1 hR1
        have oR1 := newO eX1
        rw [show rgV 0 6 = (iN (List.range 6)).map V.int from rfl] at oR1
        try walk_at "go"
        intro R2 hR2
        generalize eX2 : upd _ R2 _ = X2
        have SX2 := newS eX2 hR2
        have oR2 := newO eX2
        have S12 := SX1.trans SX2
        try walk_at "go"
        refine repX oR2 N1 (by omega) fun P1 X3 SX3 oP1 => ?_
        try walk_at "go"
        intro Z1 hZ1
        generalize eX4 : upd _ Z1 _ = X4
        have SX4 := newS eX4 hZ1
        have oZ1 := newO eX4
        try walk_at "go"
        intro Z2 hZ2
        generalize eX5 : upd _ Z2 _ = X5
        have SX5 := newS eX5 hZ2
        have oZ2 := newO eX5
        try walk_at "go"
        refine repC (k := 61) rfl oZ2 (by decide) (by decide) fun P2 X6 SX6 oP2 => ?_
        try walk_at "go"
        intro E0 hE0
        generalize eX7 : upd _ E0 _ = X7
        have SX7 := newS eX7 hE0
        have oE0 := newO eX7
        have gDm := (gD.tk fun a xs e => (S12.trans (SX3.trans (SX4.trans (SX5.trans (SX6.trans SX7))))) _ _ e)
        have gm1 := gDm.top
        have gl1 := gDm.l1
        have gl6 := gDm.l6
        try walk_at "go"
        refine repDC gm1 (fun z => by have := congrArg List.length z; rw [List.length_map] at this; have h0 : ([] : List V).length = 0 := rfl; omega) (by rw [List.length_map]; omega) fun P3 X8 SX8 oP3 => ?_
        try walk_at "go"
        intro Z3 hZ3
        generalize eX9 : upd _ Z3 _ = X9
        have SX9 := newS eX9 hZ3
        have oZ3 := newO eX9
        try walk_at "go"
        intro Z4 hZ4
        generalize eX10 : upd _ Z4 _ = X10
        have SX10 := newS eX10 hZ4
        have oZ4 := newO eX10
        try walk_at "go"
        refine repC (k := 60) rfl oZ4 (by decide) (by decide) fun P4 X11 SX11 oP4 => ?_
        try walk_at "go"
        intro MM hMM
        generalize eX12 : upd _ MM _ = X12
        have SX12 := newS eX12 hMM
        have oMM := newO eX12
        have S1112 := SX11.trans SX12
        have S912 := SX9.trans (SX10.trans S1112)
        have S712 := SX7.trans (SX8.trans S912)
        have S412 := SX4.trans (SX5.trans (SX6.trans S712))
        have SX := S12.trans (SX3.trans S412)
        have od1 : Od K p X12 (.ref R1) _ 40 1 := Od.tup (tr := (iN (List.range 6)).map inD) (by rw [inD_1]; exact (SX2.trans (SX3.trans S412)) _ _ oR1) inD_od (by decide) (by decide)
        have od2 := od_z (K := K) (p := p) ((SX5.trans (SX6.trans S712)) _ _ oZ1)
        have od4 := od_z (K := K) (p := p) ((SX10.trans S1112) _ _ oZ3)
        let vs0 : List V := [.ref P1, .ref P2, .ref E0, .ref P3, .ref P4]
        have oM' : X12 MM = some (.tup vs0) := oMM
        have lt0 : vs0.length = 5 := rfl
        have all0 : ∀ w ∈ vs0, ∃ d, Od K p X12 w d 900000 50 := fun w hw => by
          simp only [vs0, List.mem_cons, List.not_mem_nil, or_false] at hw
          rcases hw with rfl | rfl | rfl | rfl | rfl
          · exact Od.rep' od1 (S412 _ _ oP1) (by omega) (by decide)
          · exact Od.rep' od2 (S712 _ _ oP2) (by decide) (by decide)
          · exact (od_0 ((SX8.trans S912) _ _ oE0)).ex (by decide) (by decide)
          · exact (gDm.tk fun a xs e => (SX8.trans S912) _ _ e).dbl (S912 _ _ oP3)
          · exact Od.rep' od4 (SX12 _ _ oP4) (by decide) (by decide)
        clear oMM eX12
        clear_value vs0
        have pL := pA1.same SX
        try walk_at "go"
        intro e Y e1 bY pY
        have oMY := TK.but bY pL _ _ oM'
        have el : e < vs0.length := by omega
        have ixe : atI vs0 (e : Int) = some vs0[e] := atI_nat (List.getElem?_eq_getElem el)
        obtain ⟨d, od⟩ := all0 _ (List.getElem_mem el)
        try walk_at "go"
        exact ⟨⟨_, rfl, (same_but SX).trans bY, pY, d, od.but bY pL⟩⟩
      · try walk_at "go"
        refine ⟨⟨_, rfl, But.refl, pA1, ?_⟩⟩
        rcases z1 with ⟨_, z⟩ | ⟨_, rfl⟩
        · exact z
        · exact gD.od.elim fun d o => o.ex (by decide) (by decide)
    rintro σ A2 ⟨x2, rfl, BA2, pA2, d2, o2⟩
    clear z1
    have tk := TK.but BA2 pA1
    have BT := BT.trans BA2
    have hL := BA2 _ _ nL hL
    have gD := gD.tk tk
    have gT := gT.tk tk
    have oU' := tk _ _ oU'
    have aU : ∀ t ∈ (iN ns).map inD, Od K p A2 t.1 t.2 100 2 := fun t h => (aU t h).but BA2 pA1
    have ht := ht.but BA2 pA1.choose_spec.choose_spec.1
    have os : Od K p A2 (.int (s : Nat)) (.int (s : Nat)) 10 2 := ⟨.int _, by show 1 ≤ 10; decide, by show 0 ≤ 2; decide⟩
    refine ⟨fun σ H' => Kept (∃ x : V, σ = [some (.ref p), some (.ref L), some (.int S), some (.int N), some (.int M), some (V.int s), some (x2), some (x), some (V.ref U), some (v), none, none, none] ∧ But p A2 H' ∧ PotAt H' p ∧ ((b1 = 1 ∧ ∃ d, Od K p H' x d 900000 50) ∨ (b1 ≠ 1 ∧ x = V.ref T))), ?_, ?_⟩
    · try walk_at "go"
      refine ite2 (fun c => ?_) (fun c => ?_)
      · have cb : b1 = 1 := by have z := of_decide_eq_true c; have := V.int.inj z; omega
        try walk_at "go"
        intro x d A bA pA od
        try walk_at "go"
        exact ⟨⟨x, rfl, bA, pA, .inl ⟨cb, od.ex (by decide) (by decide)⟩⟩⟩
      · have cb : b1 ≠ 1 := fun z => c (by rw [z] <;> rfl)
        try walk_at "go"
        exact ⟨⟨_, rfl, But.refl, pA2, .inr ⟨cb, rfl⟩⟩⟩
    rintro σ A3 ⟨x3, rfl, BA3, pA3, z3⟩
    have tk := TK.but BA3 pA2
    have BT := BT.trans BA3
    have hL := BA3 _ _ nL hL
    have gT := gT.tk tk
    have oU' := tk _ _ oU'
    have aU : ∀ t ∈ (iN ns).map inD, Od K p A3 t.1 t.2 100 2 := fun t h => (aU t h).but BA3 pA2
    have ht := ht.but BA3 pA2.choose_spec.choose_spec.1
    have os : Od K p A3 (.int (s : Nat)) (.int (s : Nat)) 10 2 := ⟨.int _, by show 1 ≤ 10; decide, by show 0 ≤ 2; decide⟩
    have o2 := o2.but BA3 pA2
    refine ⟨fun σ H' => Kept (∃ x : V, σ = [some (.ref p), some (.ref L), some (.int S), some (.int N), some (.int M), some (V.int s), some (x2), some (x), some (V.ref U), some (v), none, none, none] ∧ But p A3 H' ∧ PotAt H' p ∧ ∃ d, Od K p H' x d 900000 50), ?_, ?_⟩
    · try walk_at "go"
      refine ite2 (fun c => ?_) (fun c => ?_)
      · have cb : b1 = 2 := by have z := of_decide_eq_true c; have := V.int.inj z; omega
        obtain rfl : x3 = V.ref T := by
          rcases z3 with ⟨z, _⟩ | ⟨_, z⟩
          · omega
          · exact z
        try walk_at "go"
        intro E0 hE0
        generalize eX1 : upd _ E0 _ = X1
        have SX1 := newS eX1 hE0
        have oE0 := newO eX1
        try walk_at "go"
        intro Z1 hZ1
        generalize eX2 : upd _ Z1 _ = X2
        have SX2 := newS eX2 hZ1
        have oZ1 := newO eX2
        try walk_at "go"
        refine repC (k := 61) rfl oZ1 (by decide) (by decide) fun Z2 X3 SX3 oZ2 => ?_
        try walk_at "go"
        intro Z3 hZ3
        generalize eX4 : upd _ Z3 _ = X4
        have SX4 := newS eX4 hZ3
        have oZ3 := newO eX4
        try walk_at "go"
        refine repC (k := 61) rfl oZ3 (by decide) (by decide) fun P2 X5 SX5 oP2 => ?_
        try walk_at "go"
        intro Y1 hY1
        generalize eX6 : upd _ Y1 _ = X6
        have SX6 := newS eX6 hY1
        have oY1 := newO eX6
        try walk_at "go"
        intro Y2 hY2
        generalize eX7 : upd _ Y2 _ = X7
        have SX7 := newS eX7 hY2
        have oY2 := newO eX7
        try walk_at "go"
        intro W1 hW1
        generalize eX8 : upd _ W1 _ = X8
        have SX8 := newS eX8 hW1
        have oW1 := newO eX8
        try walk_at "go"
        refine repC (k := 60) rfl oW1 (by decide) (by decide) fun W2 X9 SX9 oW2 => ?_
        try walk_at "go"
        intro W3 hW3
        generalize eX10 : upd _ W3 _ = X10
        have SX10 := newS eX10 hW3
        have oW3 := newO eX10
        try walk_at "go"
        refine repC (k := 60) rfl oW3 (by decide) (by decide) fun P4 X11 SX11 oP4 => ?_
        try walk_at "go"
        intro MM hMM
        generalize eX12 : upd _ MM _ = X12
        have SX12 := newS eX12 hMM
        have oMM := newO eX12
        have S812 := SX8.trans (SX9.trans (SX10.trans (SX11.trans SX12)))
        have S612 := SX6.trans (SX7.trans S812)
        have S212 := SX2.trans (SX3.trans (SX4.trans (SX5.trans S612)))
        have SX := SX1.trans S212
        let vs0 : List V := [.ref E0, .ref P2, .ref Y2, .ref P4]
        have oM' : X12 MM = some (.tup vs0) := oMM
        have lt0 : vs0.length = 4 := rfl
        have all0 : ∀ w ∈ vs0, ∃ d, Od K p X12 w d 900000 50 := fun w hw => by
          simp only [vs0, List.mem_cons, List.not_mem_nil, or_false] at hw
          rcases hw with rfl | rfl | rfl | rfl
          · exact (od_0 (S212 _ _ oE0)).ex (by decide) (by decide)
          · exact Od.rep' (Od.tup (tr := List.replicate 61 (V.int 0, PyData.int 0)) (N := 1) (D := 0) (N' := 100) (D' := 1) (by rw [List.map_replicate]; exact (SX4.trans (SX5.trans S612)) _ _ oZ2) (fun t ht => by rw [List.eq_of_mem_replicate ht]; exact od_i) (by decide) (by decide)) (S612 _ _ oP2) (by decide) (by decide)
          · exact (od_1 (S812 _ _ oY2) (od_0 ((SX7.trans S812) _ _ oY1))).ex (by decide) (by decide)
          · exact Od.rep' (Od.tup (tr := List.replicate 60 (V.int 0, PyData.int 0)) (N := 1) (D := 0) (N' := 100) (D' := 1) (by rw [List.map_replicate]; exact (SX10.trans (SX11.trans SX12)) _ _ oW2) (fun t ht => by rw [List.eq_of_mem_replicate ht]; exact od_i) (by decide) (by decide)) (SX12 _ _ oP4) (by decide) (by decide)
        clear oMM eX12
        clear_value vs0
        have pL := pA3.same SX
        try walk_at "go"
        intro e Y e1 bY pY
        have oMY := TK.but bY pL _ _ oM'
        have el : e < vs0.length := by omega
        have ixe : atI vs0 (e : Int) = some vs0[e] := atI_nat (List.getElem?_eq_getElem el)
        obtain ⟨d, od⟩ := all0 _ (List.getElem_mem el)
        try walk_at "go"
        exact ⟨⟨_, rfl, (same_but SX).trans bY, pY, d, od.but bY pL⟩⟩
      · try walk_at "go"
        refine ⟨⟨_, rfl, But.refl, pA3, ?_⟩⟩
        rcases z3 with ⟨_, z⟩ | ⟨_, rfl⟩
        · exact z
        · exact gT.od.elim fun d o => o.ex (by decide) (by decide)
    rintro σ A4 ⟨x4, rfl, BA4, pA4, d4, o4⟩
    clear z3
    have tk := TK.but BA4 pA3
    have BT := BT.trans BA4
    have hL := BA4 _ _ nL hL
    have gT := gT.tk tk
    have oU' := tk _ _ oU'
    have aU : ∀ t ∈ (iN ns).map inD, Od K p A4 t.1 t.2 100 2 := fun t h => (aU t h).but BA4 pA3
    have ht := ht.but BA4 pA3.choose_spec.choose_spec.1
    have os : Od K p A4 (.int (s : Nat)) (.int (s : Nat)) 10 2 := ⟨.int _, by show 1 ≤ 10; decide, by show 0 ≤ 2; decide⟩
    have o2 := o2.but BA4 pA3
    refine ⟨fun σ H' => Kept (∃ x : V, σ = [some (.ref p), some (.ref L), some (.int S), some (.int N), some (.int M), some (V.int s), some (x2), some (x4), some (x), some (v), none, none, none] ∧ But p A4 H' ∧ PotAt H' p ∧ ((b2 = 1 ∧ ∃ d, Od K p H' x d 900000 50) ∨ (b2 ≠ 1 ∧ x = V.ref U))), ?_, ?_⟩
    · try walk_at "go"
      refine ite2 (fun c => ?_) (fun c => ?_)
      · have cb : b2 = 1 := by have z := of_decide_eq_true c; have := V.int.inj z; omega
        try walk_at "go"
        intro x d A bA pA od
        try walk_at "go"
        exact ⟨⟨x, rfl, bA, pA, .inl ⟨cb, od.ex (by decide) (by decide)⟩⟩⟩
      · have cb : b2 ≠ 1 := fun z => c (by rw [z] <;> rfl)
        try walk_at "go"
        exact ⟨⟨_, rfl, But.refl, pA4, .inr ⟨cb, rfl⟩⟩⟩
    rintro σ A5 ⟨x5, rfl, BA5, pA5, z5⟩
    have tk := TK.but BA5 pA4
    have BT := BT.trans BA5
    have hL := BA5 _ _ nL hL
    have oU' := tk _ _ oU'
    have aU : ∀ t ∈ (iN ns).map inD, Od K p A5 t.1 t.2 100 2 := fun t h => (aU t h).but BA5 pA4
    have ht := ht.but BA5 pA4.choose_spec.choose_spec.1
    have os : Od K p A5 (.int (s : Nat)) (.int (s : Nat)) 10 2 := ⟨.int _, by show 1 ≤ 10; decide, by show 0 ≤ 2; decide⟩
    have o2 := o2.but BA5 pA4
    have o4 := o4.but BA5 pA4
    refine ⟨fun σ H' => Kept (∃ x : V, σ = [some (.ref p), some (.ref L), some (.int S), some (.int N), some (.int M), some (V.int s), some (x2), some (x4), some (x), some (v), none, none, none] ∧ But p A5 H' ∧ PotAt H' p ∧ ∃ d, Od K p H' x d 900000 50), ?_, ?_⟩
    · try walk_at "go"
      refine ite2 (fun c => ?_) (fun c => ?_)
      · have cb : b2 = 2 := by have z := of_decide_eq_true c; have := V.int.inj z; omega
        obtain rfl : x5 = V.ref U := by
          rcases z5 with ⟨z, _⟩ | ⟨_, z⟩
          · omega
          · exact z
        try walk_at "go"
        intro E0 hE0
        generalize eX1 : upd _ E0 _ = X1
        have SX1 := newS eX1 hE0
        have oE0 := newO eX1
        try walk_at "go"
        intro Z1 hZ1
        generalize eX2 : upd _ Z1 _ = X2
        have SX2 := newS eX2 hZ1
        have oZ1 := newO eX2
        try walk_at "go"
        refine repC (k := 41) rfl oZ1 (by decide) (by decide) fun P2 X3 SX3 oP2 => ?_
        try walk_at "go"
        intro Z3 hZ3
        generalize eX4 : upd _ Z3 _ = X4
        have SX4 := newS eX4 hZ3
        have oZ3 := newO eX4
        try walk_at "go"
        refine repC (k := 40) rfl oZ3 (by decide) (by decide) fun P4 X5 SX5 oP4 => ?_
        try walk_at "go"
        intro MM hMM
        generalize eX6 : upd _ MM _ = X6
        have SX6 := newS eX6 hMM
        have oMM := newO eX6
        have SX := SX1.trans (SX2.trans (SX3.trans (SX4.trans (SX5.trans SX6))))
        let vs0 : List V := [.ref E0, .ref P2, .ref P4]
        have oM' : X6 MM = some (.tup vs0) := oMM
        have lt0 : vs0.length = 3 := rfl
        have all0 : ∀ w ∈ vs0, ∃ d, Od K p X6 w d 900000 50 := fun w hw => by
          simp only [vs0, List.mem_cons, List.not_mem_nil, or_false] at hw
          rcases hw with rfl | rfl | rfl
          · exact (od_0 ((SX2.trans (SX3.trans (SX4.trans (SX5.trans SX6)))) _ _ oE0)).ex (by decide) (by decide)
          · exact Od.rep' od_i ((SX4.trans (SX5.trans SX6)) _ _ oP2) (by decide) (by decide)
          · exact Od.rep' od_i (SX6 _ _ oP4) (by decide) (by decide)
        clear oMM eX6
        clear_value vs0
        have pL := pA5.same SX
        try walk_at "go"
        intro e Y e1 bY pY
        have oMY := TK.but bY pL _ _ oM'
        have el : e < vs0.length := by omega
        have ixe : atI vs0 (e : Int) = some vs0[e] := atI_nat (List.getElem?_eq_getElem el)
        obtain ⟨d, od⟩ := all0 _ (List.getElem_mem el)
        try walk_at "go"
        exact ⟨⟨_, rfl, (same_but SX).trans bY, pY, d, od.but bY pL⟩⟩
      · try walk_at "go"
        refine ⟨⟨_, rfl, But.refl, pA5, ?_⟩⟩
        rcases z5 with ⟨_, z⟩ | ⟨_, rfl⟩
        · exact z
        · exact (Od.tup oU' aU (N' := 5000) (D' := 3) (by omega) (by decide)).ex (by decide) (by decide)
    rintro σ A6 ⟨x6, rfl, BA6, pA6, d6, o6⟩
    clear z5
    have tk := TK.but BA6 pA5
    have BT := BT.trans BA6
    have hL := BA6 _ _ nL hL
    have oU' := tk _ _ oU'
    have aU : ∀ t ∈ (iN ns).map inD, Od K p A6 t.1 t.2 100 2 := fun t h => (aU t h).but BA6 pA5
    have ht := ht.but BA6 pA5.choose_spec.choose_spec.1
    have os : Od K p A6 (.int (s : Nat)) (.int (s : Nat)) 10 2 := ⟨.int _, by show 1 ≤ 10; decide, by show 0 ≤ 2; decide⟩
    have o2 := o2.but BA6 pA5
    have o4 := o4.but BA6 pA5
    refine ⟨fun σ H' => Kept (∃ x : V, σ = [some (.ref p), some (.ref L), some (.int S), some (.int N), some (.int M), some (V.int s), some (x2), some (x4), some (x6), some (x), none, none, none] ∧ But p A6 H' ∧ PotAt H' p ∧ (∃ d, Od K p H' x d 900000 50)), ?_, ?_⟩
    · try walk_at "go"
      refine ite2 (fun c => ?_) (fun c => ?_)
      · have cb : b3 = 1 := by have z := of_decide_eq_true c; have := V.int.inj z; omega
        have tn := tr_nsz t
        have tb := row_big hr
        have th := t.h_cnt
        have h41 : t.h ≤ 41 := by omega
        have b100 : t.big ≤ 100 := by omega
        have m100 : M ≤ 100 := by omega
        try walk_at "go"
        intro x d A bA pA od
        try walk_at "go"
        exact ⟨⟨x, rfl, bA, pA, od.ex (by omega) (by omega)⟩⟩
      · have cb : b3 ≠ 1 := fun z => c (by rw [z] <;> rfl)
        try walk_at "go"
        exact ⟨⟨_, rfl, But.refl, pA6, (tr_od ht hr (by omega)).ex (by decide) (by decide)⟩⟩
    rintro σ A7 ⟨x7, rfl, BA7, pA7, d7, o7⟩
    have tk := TK.but BA7 pA6
    have BT := BT.trans BA7
    have hL := BA7 _ _ nL hL
    have ht := ht.but BA7 pA6.choose_spec.choose_spec.1
    have os : Od K p A7 (.int (s : Nat)) (.int (s : Nat)) 10 2 := ⟨.int _, by show 1 ≤ 10; decide, by show 0 ≤ 2; decide⟩
    have o2 := o2.but BA7 pA6
    have o4 := o4.but BA7 pA6
    have o6 := o6.but BA7 pA6
    refine ⟨fun σ H' => Kept (∃ x : V, σ = [some (.ref p), some (.ref L), some (.int S), some (.int N), some (.int M), some (x), some (x2), some (x4), some (x6), some (x7), none, none, none] ∧ But p A7 H' ∧ PotAt H' p ∧ (∃ d, Od K p H' x d 900000 50)), ?_, ?_⟩
    · try walk_at "go"
      refine ite2 (fun c => ?_) (fun c => ?_)
      · have cb : b4 = 1 := by have z := of_decide_eq_true c; have := V.int.inj z; omega
        try walk_at "go"
        intro x d A bA pA od
        try walk_at "go"
        exact ⟨⟨x, rfl, bA, pA, od.ex (by omega) (by omega)⟩⟩
      · have cb : b4 ≠ 1 := fun z => c (by rw [z] <;> rfl)
        try walk_at "go"
        exact ⟨⟨_, rfl, But.refl, pA7, os.ex (by decide) (by decide)⟩⟩
    rintro σ A8 ⟨x8, rfl, BA8, pA8, d8, o8⟩
    have tk := TK.but BA8 pA7
    have BT := BT.trans BA8
    have hL := BA8 _ _ nL hL
    have ht := ht.but BA8 pA7.choose_spec.choose_spec.1
    have os : Od K p A8 (.int (s : Nat)) (.int (s : Nat)) 10 2 := ⟨.int _, by show 1 ≤ 10; decide, by show 0 ≤ 2; decide⟩
    have o2 := o2.but BA8 pA7
    have o4 := o4.but BA8 pA7
    have o6 := o6.but BA8 pA7
    have o7 := o7.but BA8 pA7
    try walk_at "go"
    intro W hW
    generalize eZ : upd _ W _ = Z
    have SZ := newS eZ hW
    have oW := newO eZ
    have pZ := pA8.same SZ
    exact q W ⟨(x2, d2), (x4, d4), (x6, d6), (x7, d7), (x8, d8)⟩ Z (BT.trans (same_but SZ)) pZ ⟨o2.same SZ, o4.same SZ, o6.same SZ, o7.same SZ, o8.same SZ⟩ oW
/-! SPLIT -/
def gdT (rows : List (List Nat)) : PyData := .tuple (rows.map fun r => .tuple ((iN r).map PyData.int))
omit B in
theorem gdT_ly {rows : List (List Nat)} : Ly 2 (gdT rows) := .tup fun d hd => by
  obtain ⟨r, _, rfl⟩ := List.mem_map.mp hd
  exact .tupI
omit B in
theorem gdT_dp {K : PySem.W.Frag} {H : Hp} {T : Addr} {ls : List (Addr × List Nat)} (h : H T = some (.tup (ls.map fun x => V.ref x.1))) (r : RsAt H ls) : Dp K H (.ref T) (gdT (gr ls)) := by
  refine .tup (SqT.of h) (dpAll_of (by unfold gr; rw [List.length_map, List.length_map, List.length_map]) fun i x d hx hd => ?_)
  unfold gr at hd
  rw [List.getElem?_map] at hx hd
  rw [List.getElem?_map] at hd
  obtain ⟨y, hy, rfl⟩ := Option.map_eq_some_iff.mp hx
  rw [hy] at hd
  cases (Option.some.inj hd)
  exact tupI_dp (SqT.of (r y (List.mem_of_getElem? hy)))
/-! the two calls at the end -/
omit B in
theorem five_of {α : Type} {l : List α} (h : l.length = 5) : ∃ a b c d e, l = [a, b, c, d, e] := by
  match l, h with
  | [a, b, c, d, e], _ => exact ⟨a, b, c, d, e, rfl⟩
omit B in
theorem swap_rch {d : List Nat} (h : Rch 2 [[1, 0]] d) : d = [0, 1] ∨ d = [1, 0] := by
  induction h with
  | one => exact .inl rfl
  | go _ hm ih =>
    cases List.mem_singleton.mp hm
    rcases ih with rfl | rfl
    · exact .inr rfl
    · exact .inl rfl
omit B in
theorem swap_few {ks : List (List Nat)} (nd : ks.Nodup) (rc : ∀ d ∈ ks, Rch 2 [[1, 0]] d) : ks.length ≤ 2 := by
  match ks, nd, rc with
  | [], _, _ => exact Nat.zero_le _
  | [a], _, _ => exact (by decide : 1 ≤ 2)
  | [a, b], _, _ => exact Nat.le_refl _
  | a :: b :: c :: r, nd, rc =>
    have ha := swap_rch (rc a List.mem_cons_self)
    have hb := swap_rch (rc b (List.mem_cons_of_mem _ List.mem_cons_self))
    have hc := swap_rch (rc c (List.mem_cons_of_mem _ (List.mem_cons_of_mem _ List.mem_cons_self)))
    rw [List.nodup_cons, List.nodup_cons] at nd
    have n1 : a ≠ b := fun z => nd.1 (by rw [z]; exact List.mem_cons_self)
    have n2 : a ≠ c := fun z => nd.1 (by rw [z]; exact List.mem_cons_of_mem _ List.mem_cons_self)
    have n3 : b ≠ c := fun z => nd.2.1 (by rw [z]; exact List.mem_cons_self)
    rcases ha with rfl | rfl <;> rcases hb with rfl | rfl <;> rcases hc with rfl | rfl <;> first | exact absurd rfl n1 | exact absurd rfl n2 | exact absurd rfl n3
omit B in
theorem iN_eq {xs ys : List Nat} (h : (iN xs).map V.int = (iN ys).map V.int) : xs = ys := by
  unfold iN at h
  rw [List.map_map, List.map_map] at h
  exact (List.map_inj_right fun x y e => Int.ofNat.inj (V.int.inj e)).mp h
omit B in
theorem swap_grid {H : Hp} {T A : Addr} {rs : List (Addr × List Nat)} {S : Nat} (g : GridAt H T rs S S) (hT : H T = some (.tup [.ref A])) (hA : H A = some (.tup [.int 1, .int 0])) : gr rs = [[1, 0]] ∧ S = 2 := by
  have e := HO.tup.inj (Option.some.inj (g.top.symm.trans hT))
  match rs, e, g with
  | [(a, xs)], e, g =>
    have ea : V.ref a = V.ref A := (List.cons.inj e).1
    cases ea
    obtain ⟨h1, h2, _⟩ := g.rows (A, xs) List.mem_cons_self
    have e2 := HO.tup.inj (Option.some.inj (h1.symm.trans hA))
    have e3 : xs = [1, 0] := iN_eq (ys := [1, 0]) e2
    subst e3
    exact ⟨rfl, h2.symm⟩
  | [], e, _ => cases e
  | _ :: _ :: _, e, _ => cases (List.cons.inj e).2
omit B in
theorem swap_fin {n : Nat} (f : Fin' 2 [[1, 0]] n) : kf (gp 2 [[1, 0]] n) = [[0, 1], [1, 0]] := by
  have := f.uniq (⟨by decide, by decide⟩ : Fin' 2 [[1, 0]] 2)
  subst this
  decide
def spLaw (K : PySem.W.Frag) : Sp := fun vs H Q _ => ∃ (a : Addr) (ns : List Int), vs = [.ref a] ∧ SqL K H a (ns.map V.int) ∧ ns.length ≤ 63 ∧ ∀ H', Q (.bl true) H'
theorem k_law {f : Addr} {fd : FuncData} (F : Fun K "law" "law" s_law f fd) (D__law_store : Dn P w K mg base 1 "_law_store" ["_law_script", "_law_k"] (spPot6 K)) (D__law_draw : Dn P w K mg base 1 "_law_draw" ["_law_store_here", "_law_many"] spTake) (D__law_things : Dn P w K mg base 50 "_law_things" ["_law_store_here", "_law_bad"] (spThings67 K)) (D__law_due : Dn P w K mg base 66 "_law_due" ["_law_choice", "_law_deeds", "_law_table", "_law_numbers", "_law_tree_here", "_law_state"] (spDue67 K)) (D__law_told : Dn P w K mg base 92 "_law_told" ["_law_choice", "_law_deeds", "_law_table", "_law_numbers", "_law_tree_here", "_law_state"] (spTold67 K)) (D_folded_by : Dx P w K mg base 60 "folded_by" ["table", "numbers", "tree"] (spFoldE K (cAt mg "NoTable") (cAt mg "NoNumber") (cAt mg "NoTree"))) (D_family : Dx P w K mg base 7 "family" ["deeds"] (spFamilyE K (cAt mg "NoTable") (cAt mg "TooMany"))) : FnG P w K mg base CX0 93 f fd ["_law_script"] (spLaw K) := by
  refine okG0 F sc_law (fun vs H Q E h => ?_) (fun cdv A outer s H vs Q E hr h => ⟨_, (pss_cons (ps_for PassesOwn.never rfl (pi_range1 (by rfl) B.range_ (pa_cons (pe_callB (call_max2 rfl) (by rfl) B.max_ (by decide +kernel) (pa_cons pe_int (pa_cons (pe_callB (call_min2 rfl) (by rfl) B.min_ (by decide +kernel) (pa_cons pe_int (pa_cons (pe_callB (lenK (K := K)) (by rfl) B.len_ (by decide +kernel) (pa_cons (pv 0) pa_nil)) pa_nil))) pa_nil))) pa_nil)) (pg_name (i := 1) sc_law.nd rfl (Or.inl rfl))
      (pss_cons (ps_set (i := 2) sc_law.nd rfl (Or.inr rfl) (pe_cD D__law_store (hr.less (by decide)) rfl (pa_cons (pv 0) (pa_cons (pv 1) pa_nil))))
      (pss_cons (ps_setLc (i := 3) (own := [("_law_turn", 11)]) (g := gName 11) (tt := tYes) rfl sc_law.nd rfl rfl (sw_true rfl rfl rfl (by decide +kernel)) (pi_range1 (by rfl) B.range_ (pa_cons pe_int pa_nil)) (blkOk_by (own := [("_law_turn", 11)]) (N := ["_law_script", "_law_k", "_law_store_here", "_law_bad", "_law_deeds", "_law_table", "_law_numbers", "_law_tree_here", "_law_state", "_law_choice", "_law_due_here", "_law_turn"]) (sc := defScope s_law) (by decide +kernel)) (fun _ _ _ _ _ => (pg_name (i := 11) sc_law.nd rfl (Or.inl rfl))) (fun _ _ _ _ _ => pts_nil) (fun _ _ _ _ _ => (pe_callB (call_max2 rfl) (by rfl) B.max_ (by decide +kernel) (pa_cons pe_int (pa_cons (pe_op op_sub (pe_cD D__law_draw (hr.less (by decide)) rfl (pa_cons (pv 2) (pa_cons pe_int pa_nil))) pe_int) pa_nil)))))
      (pss_cons (ps_asg (pe_cD D__law_things (hr.less (by decide)) rfl (pa_cons (pv 2) (pa_cons (pv 3) pa_nil))) (kk (K := K) (F := fun K => gTup K 5 _) (P := PG _ _) (pg_tup rfl (pgs_cons (pg_name (i := 4) sc_law.nd rfl (Or.inl rfl)) (pgs_cons (pg_name (i := 5) sc_law.nd rfl (Or.inl rfl)) (pgs_cons (pg_name (i := 6) sc_law.nd rfl (Or.inl rfl)) (pgs_cons (pg_name (i := 7) sc_law.nd rfl (Or.inl rfl)) (pgs_cons (pg_name (i := 8) sc_law.nd rfl (Or.inl rfl)) pgs_nil))))))))
      (pss_cons (ps_for PassesOwn.never rfl (pi_range1 (by rfl) B.range_ (pa_cons pe_int pa_nil)) (pg_name (i := 9) sc_law.nd rfl (Or.inl rfl))
        (pss_cons (ps_set (i := 10) sc_law.nd rfl (Or.inl rfl) (pe_cD D__law_due (hr.less (by decide)) rfl (pa_cons (pv 9) (pa_cons (pv 4) (pa_cons (pv 5) (pa_cons (pv 6) (pa_cons (pv 7) (pa_cons (pv 8) pa_nil))))))))
        (pss_one (ps_if (pt_cmpR op_ne (pe_cD D__law_told (hr.less (by decide)) rfl (pa_cons (pv 9) (pa_cons (pv 4) (pa_cons (pv 5) (pa_cons (pv 6) (pa_cons (pv 7) (pa_cons (pv 8) pa_nil))))))) (pv 10) (nomark _))
         (pss_one (ps_ret pe_bl))
         pss_nil))))
      (pss_one (ps_if (PW.pt (pw_or (pt_cmpR op_ne (pe_cXn D_folded_by (hr.less (by decide)) rfl (pa_cons (pe_tup (pa_cons (pe_tup (pa_cons pe_int pa_nil)) pa_nil)) (pa_cons (pe_tup (pa_cons pe_int (pa_cons pe_int pa_nil))) (pa_cons (pe_tup (pa_cons pe_int (pa_cons pe_int pa_nil))) pa_nil)))) pe_int (nomark _)) (pw_or1 (pt_cmpR (kk (K := K) (F := rNeD) (P := OpR _ _) (op_neD hr.units)) (pe_cXn D_family (hr.less (by decide)) rfl (pa_cons (pe_tup (pa_cons (pe_tup (pa_cons pe_int (pa_cons pe_int pa_nil))) pa_nil)) pa_nil)) (pe_tup (pa_cons (pe_tup (pa_cons pe_int (pa_cons pe_int pa_nil))) (pa_cons (pe_tup (pa_cons pe_int (pa_cons pe_int pa_nil))) pa_nil))) (nomark _)))))
       (pss_one (ps_ret pe_bl))
       pss_nil)))))))
    (pss_one (ps_ret pe_bl))), ?_⟩)
  · obtain ⟨a, ns, rfl, _⟩ := h; rfl
  · obtain ⟨a, ns, rfl, hs, hn, q⟩ := h
    try walk_at "go"
    have hN : (if (if (((ns.map V.int).length : Nat) : Int) < 10 then (((ns.map V.int).length : Nat) : Int) else 10) > 1 then (if (((ns.map V.int).length : Nat) : Int) < 10 then (((ns.map V.int).length : Nat) : Int) else 10) else 1).toNat ≤ 10 := by split <;> split <;> omega
    generalize (if (if (((ns.map V.int).length : Nat) : Int) < 10 then (((ns.map V.int).length : Nat) : Int) else 10) > 1 then (if (((ns.map V.int).length : Nat) : Int) < 10 then (((ns.map V.int).length : Nat) : Int) else 10) else 1).toNat = n at hN ⊢
    refine for_range (lo := 0) (n := n) (fun i σ H2 => Kept (∃ v1 v2 v3 v4 v5 v6 v7 v8 v9 v10 v11 : Option V, σ = [some (.ref a), v1, v2, v3, v4, v5, v6, v7, v8, v9, v10, v11] ∧ Same H H2)) ⟨_, _, _, _, _, _, _, _, _, _, _, rfl, Same.refl H⟩ ?_ ?_
    · rintro i σ H1 hi ⟨v1, v2, v3, v4, v5, v6, v7, v8, v9, v10, v11, rfl, S1⟩
      have hs1 := S1.seq hs
      have i60 : i ≤ 60 := by omega
      try walk_at "go"
      intro p H2 hpn S2 p2
      have hpH : H p = none := none_back S1 hpn
      try walk_at "go"
      intro E hE
      have tt : (5 : Int).toNat = 5 := rfl
      rw [tt]
      have npE := pot_ne p2 hE
      refine lc_range (lo := 0) (n := 5) (fun j H' => Kept (∃ bs : List Nat, But p H2 H' ∧ PotAt H' p ∧ H' E = some (.lst ((iN bs).map V.int)) ∧ bs.length = j)) ⟨[], same_but (same_new hE _), p2.same (same_new hE _), upd_same, rfl⟩ ?_ ?_
      · rintro j H3 hj ⟨bs, B3, p3, hE3, hl3⟩
        have ul : ((iN bs).map V.int).length ≤ 60 := by rw [iN_len]; omega
        try walk_at "go"
        intro y H4 y7 b4 p4
        obtain ⟨z, ez⟩ : ∃ z : Nat, (if (y : Int) - 4 > 0 then (y : Int) - 4 else 0) = (z : Int) := ⟨((if (y : Int) - 4 > 0 then (y : Int) - 4 else 0)).toNat, by split <;> omega⟩
        have hE4 := b4 _ _ npE hE3
        try walk_at "go"
        refine ⟨⟨bs ++ [z], (B3.trans b4).fr hE, p4.fr (Ne.symm npE), ?_, by rw [List.length_append, hl3] <;> rfl⟩⟩
        rw [upd_same, ez, iN_snoc]
      rintro H3 ⟨bs, B3, p3, hE3, hl3⟩
      obtain ⟨b0, b1, b2, b3, b4, rfl⟩ := five_of hl3
      have hE3 : H3 E = some (.lst [.int b0, .int b1, .int b2, .int b3, .int b4]) := hE3
      try walk_at "go"
      intro U x H4 B4 p4 hx oU
      have S4 : Same H H4 := but_same hpH (S1.trans S2) (B3.trans B4)
      try walk_at "go"
      have t7 : (7 : Int).toNat = 7 := rfl
      rw [t7]
      refine for_range (lo := 0) (n := 7) (fun c σ H' => Kept (∃ w9 w10 : Option V, σ = [some (.ref a), some (.int (0 + (i : Int))), some (.ref p), some (.ref E), some x.dd.1, some x.dt.1, some x.dn.1, some x.tr.1, some x.st.1, w9, w10, v11] ∧ Same H4 H')) ⟨_, _, rfl, Same.refl _⟩ ?_ ?_
      · rintro c σ H5 hc ⟨w9, w10, rfl, S5⟩
        have hx5 := hx.same S5
        have e0 : (0 : Int) + (c : Int) = (c : Int) := Int.zero_add _
        rw [e0]
        try walk_at "go"
        intro H6 S6
        have hx6 := hx5.same S6
        try walk_at "go"
        intro H7 S7
        try walk_at "go"
        refine ifF (dec_ne rfl) ?_
        exact ⟨⟨_, _, rfl, S5.trans (S6.trans S7)⟩⟩
      · rintro σ H5 ⟨w9, w10, rfl, S5⟩
        try walk_at "go"
        intro A1 hA1
        generalize eH6 : upd _ A1 _ = H6
        have SH6 := newS eH6 hA1
        have oA1 := newO eH6
        try walk_at "go"
        intro A2 hA2
        generalize eH7 : upd _ A2 _ = H7
        have SH7 := newS eH7 hA2
        have oA2 := newO eH7
        try walk_at "go"
        intro A3 hA3
        generalize eH8 : upd _ A3 _ = H8
        have SH8 := newS eH8 hA3
        have oA3 := newO eH8
        try walk_at "go"
        intro A4 hA4
        generalize eH9 : upd _ A4 _ = H9
        have SH9 := newS eH9 hA4
        have oA4 := newO eH9
        have oA2' := (SH8.trans SH9) _ _ oA2
        have oA3' := SH9 _ _ oA3
        have oA1' := (SH7.trans (SH8.trans SH9)) _ _ oA1
        have th1 : Th K p H9 (.ref A1) (.tuple [.int 0]) := Th.tup (tr := [(.int 0, .int 0)]) oA1' fun t ht => by cases List.mem_singleton.mp ht; exact .int _
        have th2 : Th K p H9 (.ref A2) (.tuple [.tuple [.int 0]]) := Th.tup (tr := [(.ref A1, .tuple [.int 0])]) oA2' fun t ht => by cases List.mem_singleton.mp ht; exact th1
        have th3 : Th K p H9 (.ref A3) (.tuple [.int 0, .int 0]) := Th.tup (tr := [(.int 0, .int 0), (.int 0, .int 0)]) oA3' fun t ht => by
          simp only [List.mem_cons, List.not_mem_nil, or_false, or_self] at ht
          subst ht; exact .int _
        have th4 : Th K p H9 (.ref A4) (.tuple [.int 0, .int 1]) := Th.tup (tr := [(.int 0, .int 0), (.int 1, .int 1)]) oA4 fun t ht => by
          simp only [List.mem_cons, List.not_mem_nil, or_false] at ht
          rcases ht with rfl | rfl <;> exact .int _
        have z2 : nsz (.tuple [.tuple [.int 0]]) ≤ 1000000 := by decide
        have z3 : nsz (.tuple [.int 0, .int 0]) ≤ 1000000 := by decide
        have z4 : nsz (.tuple [.int 0, .int 1]) ≤ 1000000 := by decide
        try walk_at "go"
        refine ⟨fun _ _ _ n H10 hn S10 => ?_, fun e => absurd e (by decide), fun _ e => absurd e (by decide), fun _ _ e => absurd e (by decide)⟩
        obtain rfl : n = 0 := by
          have : n < 1 := hn
          omega
        refine ⟨rfl, _, rfl, ?_⟩
        try walk_at "go"
        intro C1 hC1
        generalize eH11 : upd _ C1 _ = H11
        have SH11 := newS eH11 hC1
        have oC1 := newO eH11
        try walk_at "go"
        intro C2 hC2
        generalize eH12 : upd _ C2 _ = H12
        have SH12 := newS eH12 hC2
        have oC2 := newO eH12
        have oC1' := SH12 _ _ oC1
        have th5 : Th K p H12 (.ref C1) (.tuple [.int 1, .int 0]) := Th.tup (tr := [(.int 1, .int 1), (.int 0, .int 0)]) oC1' fun t ht => by
          simp only [List.mem_cons, List.not_mem_nil, or_false] at ht
          rcases ht with rfl | rfl <;> exact .int _
        have th6 : Th K p H12 (.ref C2) (.tuple [.tuple [.int 1, .int 0]]) := Th.tup (tr := [(.ref C1, .tuple [.int 1, .int 0])]) oC2 fun t ht => by cases List.mem_singleton.mp ht; exact th5
        have z6 : nsz (.tuple [.tuple [.int 1, .int 0]]) ≤ 1000000 := by decide
        try walk_at "go"
        refine ⟨fun _ T rs S U ls n H13 eT g s1 s5 S13 F => ?_, fun _ T rs S ks eT g nd rc lt => ?_, fun e => absurd e (by decide)⟩
        · cases eT
          obtain ⟨e1, e2⟩ := swap_grid g oC2 oC1'
          subst e2
          rw [e1] at F
          have ek := swap_fin F.fin
          have el : gr ls = [[0, 1], [1, 0]] := F.eq.trans ek
          have F0 := F.top
          try walk_at "go"
          intro D1 hD1
          generalize eH14 : upd _ D1 _ = H14
          have SH14 := newS eH14 hD1
          have oD1 := newO eH14
          try walk_at "go"
          intro D2 hD2
          generalize eH15 : upd _ D2 _ = H15
          have SH15 := newS eH15 hD2
          have oD2 := newO eH15
          try walk_at "go"
          intro D3 hD3
          generalize eH16 : upd _ D3 _ = H16
          have SH16 := newS eH16 hD3
          have oD3 := newO eH16
          have rs16 : RsAt H16 ls := F.rs.same (SH14.trans (SH15.trans SH16))
          have d1 := gdT_dp (K := K) ((SH14.trans (SH15.trans SH16)) _ _ F0) rs16
          have d2 := gdT_dp (K := K) (H := H16) (T := D3) (ls := [(D1, [0, 1]), (D2, [1, 0])]) oD3 fun y hy => by
            simp only [List.mem_cons, List.not_mem_nil, or_false] at hy
            rcases hy with rfl | rfl
            · exact (SH15.trans SH16) _ _ oD1
            · exact SH16 _ _ oD2
          rw [el] at d1
          have e3 : gr [(D1, [0, 1]), (D2, [1, 0])] = [[0, 1], [1, 0]] := rfl
          rw [e3] at d2
          have sh := (gdT_ly (rows := [[0, 1], [1, 0]])).sh
          try walk_at "go"
          rw [gdT_ly.refl]
          refine ifF rfl ?_
          try walk_at "go"
          exact ⟨⟨_, _, _, _, _, _, _, _, _, _, _, rfl, S4.trans (S5.trans (SH6.trans (SH7.trans (SH8.trans (SH9.trans (S10.trans (SH11.trans (SH12.trans (S13.trans (SH14.trans (SH15.trans SH16)))))))))))⟩⟩
        · cases eT
          obtain ⟨e1, e2⟩ := swap_grid g oC2 oC1'
          subst e2
          rw [e1] at rc
          have := swap_few nd rc
          omega
    · rintro σ H2 ⟨v1, v2, v3, v4, v5, v6, v7, v8, v9, v10, v11, rfl, S2⟩
      try walk_at "go"
      exact q _
end
structure AllD (K : PySem.W.Frag) (mg : Str → Option Value) : Prop where
  d_is_whole : Df K mg "is_whole" s_is_whole ["thing"]
  d_is_within : Df K mg "is_within" s_is_within ["thing", "least", "most"]
  d_want_within : Df K mg "want_within" s_want_within ["thing", "least", "most"]
  d_is_by_table : Df K mg "is_by_table" s_is_by_table ["thing", "states"]
  d_are_by_table : Df K mg "are_by_table" s_are_by_table ["thing", "most"]
  d_one_then : Df K mg "one_then" s_one_then ["one", "other"]
  d_grown : Df K mg "grown" s_grown ["deeds"]
  d_want_makers : Df K mg "want_makers" s_want_makers ["deeds"]
  d_family : Df K mg "family" s_family ["deeds"]
  d_words : Df K mg "words" s_words ["deeds"]
  d_want_many : Df K mg "want_many" s_want_many ["many"]
  d_is_tree : Df K mg "is_tree" s_is_tree ["thing", "many"]
  d_are_numbers : Df K mg "are_numbers" s_are_numbers ["thing", "many"]
  d_is_table : Df K mg "is_table" s_is_table ["thing"]
  d_want_table : Df K mg "want_table" s_want_table ["table"]
  d_want_by_table : Df K mg "want_by_table" s_want_by_table ["deeds", "table"]
  d_want_numbers : Df K mg "want_numbers" s_want_numbers ["table", "numbers"]
  d_want_grouped : Df K mg "want_grouped" s_want_grouped ["numbers", "tree"]
  d_own_table : Df K mg "own_table" s_own_table ["deeds"]
  d_held : Df K mg "held" s_held ["deeds", "table"]
  d_broken : Df K mg "broken" s_broken ["table"]
  d_fold : Df K mg "fold" s_fold ["table", "numbers", "tree"]
  d_share : Df K mg "share" s_share ["deeds", "table", "numbers", "tree", "state"]
  d_folded_by : Df K mg "folded_by" s_folded_by ["table", "numbers", "tree"]
  d_shared_by : Df K mg "shared_by" s_shared_by ["deeds", "table", "numbers", "tree", "state"]
  d__law_store : Df K mg "_law_store" s__law_store ["_law_script", "_law_k"]
  d__law_draw : Df K mg "_law_draw" s__law_draw ["_law_store_here", "_law_many"]
  d__law_tree : Df K mg "_law_tree" s__law_tree ["_law_store_here", "_law_first", "_law_many"]
  d__law_odd : Df K mg "_law_odd" s__law_odd ["_law_store_here", "_law_beyond"]
  d__law_row_spoilt : Df K mg "_law_row_spoilt" s__law_row_spoilt ["_law_store_here", "_law_row", "_law_beyond"]
  d__law_rows_spoilt : Df K mg "_law_rows_spoilt" s__law_rows_spoilt ["_law_store_here", "_law_rows", "_law_beyond"]
  d__law_tree_spoilt : Df K mg "_law_tree_spoilt" s__law_tree_spoilt ["_law_store_here", "_law_tree_here", "_law_many"]
  d__law_is_number : Df K mg "_law_is_number" s__law_is_number ["_law_thing", "_law_many"]
  d__law_are_numbers : Df K mg "_law_are_numbers" s__law_are_numbers ["_law_thing", "_law_many"]
  d__law_are_deeds : Df K mg "_law_are_deeds" s__law_are_deeds ["_law_thing", "_law_most"]
  d__law_is_table : Df K mg "_law_is_table" s__law_is_table ["_law_thing"]
  d__law_leaves : Df K mg "_law_leaves" s__law_leaves ["_law_thing"]
  d__law_is_tree : Df K mg "_law_is_tree" s__law_is_tree ["_law_thing", "_law_many"]
  d__law_due : Df K mg "_law_due" s__law_due ["_law_choice", "_law_deeds", "_law_table", "_law_numbers", "_law_tree_here", "_law_state"]
  d__law_asked : Df K mg "_law_asked" s__law_asked ["_law_choice", "_law_deeds", "_law_table", "_law_numbers", "_law_tree_here", "_law_state"]
  d__law_word : Df K mg "_law_word" s__law_word ["_law_e"]
  d__law_told : Df K mg "_law_told" s__law_told ["_law_choice", "_law_deeds", "_law_table", "_law_numbers", "_law_tree_here", "_law_state"]
  d__law_things : Df K mg "_law_things" s__law_things ["_law_store_here", "_law_bad"]
  d_law : Df K mg "law" s_law ["_law_script"]
  bl : Bl K mg
theorem all_mk {w : World} {K : PySem.W.Frag} {h : Heap} {mg : Str → Option Value} (X : K.In h) (G : h.Ns mainGlobals mg)
    {f1 f2 f3 f4 f5 f6 f7 f8 f9 f10 f11 f12 f13 f14 f15 f16 f17 f18 f19 f20 f21 f22 f23 f24 f25 f26 f27 f28 f29 f30 f31 f32 f33 f34 f35 f36 f37 f38 f39 f40 f41 f42 f43 f44 : Addr} {od1 an1 od2 an2 od3 an3 od4 an4 od5 an5 od6 an6 od7 an7 od8 an8 od9 an9 od10 an10 od11 an11 od12 an12 od13 an13 od14 an14 od15 an15 od16 an16 od17 an17 od18 an18 od19 an19 od20 an20 od21 an21 od22 an22 od23 an23 od24 an24 od25 an25 od26 an26 od27 an27 od28 an28 od29 an29 od30 an30 od31 an31 od32 an32 od33 an33 od34 an34 od35 an35 od36 an36 od37 an37 od38 an38 od39 an39 od40 an40 od41 an41 od42 an42 od43 an43 od44 an44 : Option Addr} {sl1 sl2 sl3 sl4 sl5 sl6 sl7 sl8 sl9 sl10 sl11 sl12 sl13 sl14 sl15 sl16 sl17 sl18 sl19 sl20 sl21 sl22 sl23 sl24 sl25 sl26 sl27 sl28 sl29 sl30 sl31 sl32 sl33 sl34 sl35 sl36 sl37 sl38 sl39 sl40 sl41 sl42 sl43 sl44 : Array (Option Value)} {oc1 kV1 dc1 pm1 cd1 ct1 oc2 kV2 dc2 pm2 cd2 ct2 oc3 kV3 dc3 pm3 cd3 ct3 oc4 kV4 dc4 pm4 cd4 ct4 oc5 kV5 dc5 pm5 cd5 ct5 oc6 kV6 dc6 pm6 cd6 ct6 oc7 kV7 dc7 pm7 cd7 ct7 oc8 kV8 dc8 pm8 cd8 ct8 oc9 kV9 dc9 pm9 cd9 ct9 oc10 kV10 dc10 pm10 cd10 ct10 oc11 kV11 dc11 pm11 cd11 ct11 oc12 kV12 dc12 pm12 cd12 ct12 oc13 kV13 dc13 pm13 cd13 ct13 oc14 kV14 dc14 pm14 cd14 ct14 oc15 kV15 dc15 pm15 cd15 ct15 oc16 kV16 dc16 pm16 cd16 ct16 oc17 kV17 dc17 pm17 cd17 ct17 oc18 kV18 dc18 pm18 cd18 ct18 oc19 kV19 dc19 pm19 cd19 ct19 oc20 kV20 dc20 pm20 cd20 ct20 oc21 kV21 dc21 pm21 cd21 ct21 oc22 kV22 dc22 pm22 cd22 ct22 oc23 kV23 dc23 pm23 cd23 ct23 oc24 kV24 dc24 pm24 cd24 ct24 oc25 kV25 dc25 pm25 cd25 ct25 oc26 kV26 dc26 pm26 cd26 ct26 oc27 kV27 dc27 pm27 cd27 ct27 oc28 kV28 dc28 pm28 cd28 ct28 oc29 kV29 dc29 pm29 cd29 ct29 oc30 kV30 dc30 pm30 cd30 ct30 oc31 kV31 dc31 pm31 cd31 ct31 oc32 kV32 dc32 pm32 cd32 ct32 oc33 kV33 dc33 pm33 cd33 ct33 oc34 kV34 dc34 pm34 cd34 ct34 oc35 kV35 dc35 pm35 cd35 ct35 oc36 kV36 dc36 pm36 cd36 ct36 oc37 kV37 dc37 pm37 cd37 ct37 oc38 kV38 dc38 pm38 cd38 ct38 oc39 kV39 dc39 pm39 cd39 ct39 oc40 kV40 dc40 pm40 cd40 ct40 oc41 kV41 dc41 pm41 cd41 ct41 oc42 kV42 dc42 pm42 cd42 ct42 oc43 kV43 dc43 pm43 cd43 ct43 oc44 kV44 dc44 pm44 cd44 ct44 : Value}
    {E0 : Addr} (aE0 : PySem.W.nsIn K mainGlobals "AskError" = some (some (.ref E0))) (xE0 : PySem.W.excIn K E0 [.type "ValueError", .type "Exception", .type "BaseException", .type "object"] "ValueError.__new__" = true) (kE0 : PySem.W.keepIn K (.ref E0) = true) (bE0 : PySem.W.subIn K (.ref E0) (.type "BaseException") = some true) (tE0 : PySem.W.typeIn K (.ref E0) = some (.type "type")) (iE0 : PySem.W.isClsIn K E0 = true)
    {E1 : Addr} (aE1 : PySem.W.nsIn K mainGlobals "NoTable" = some (some (.ref E1))) (xE1 : PySem.W.excIn K E1 [.type "ValueError", .type "Exception", .type "BaseException", .type "object"] "ValueError.__new__" = true) (kE1 : PySem.W.keepIn K (.ref E1) = true) (bE1 : PySem.W.subIn K (.ref E1) (.type "BaseException") = some true) (tE1 : PySem.W.typeIn K (.ref E1) = some (.type "type")) (iE1 : PySem.W.isClsIn K E1 = true)
    {E2 : Addr} (aE2 : PySem.W.nsIn K mainGlobals "NoNumber" = some (some (.ref E2))) (xE2 : PySem.W.excIn K E2 [.type "ValueError", .type "Exception", .type "BaseException", .type "object"] "ValueError.__new__" = true) (kE2 : PySem.W.keepIn K (.ref E2) = true) (bE2 : PySem.W.subIn K (.ref E2) (.type "BaseException") = some true) (tE2 : PySem.W.typeIn K (.ref E2) = some (.type "type")) (iE2 : PySem.W.isClsIn K E2 = true)
    {E3 : Addr} (aE3 : PySem.W.nsIn K mainGlobals "NoTree" = some (some (.ref E3))) (xE3 : PySem.W.excIn K E3 [.type "ValueError", .type "Exception", .type "BaseException", .type "object"] "ValueError.__new__" = true) (kE3 : PySem.W.keepIn K (.ref E3) = true) (bE3 : PySem.W.subIn K (.ref E3) (.type "BaseException") = some true) (tE3 : PySem.W.typeIn K (.ref E3) = some (.type "type")) (iE3 : PySem.W.isClsIn K E3 = true)
    {E4 : Addr} (aE4 : PySem.W.nsIn K mainGlobals "TooMany" = some (some (.ref E4))) (xE4 : PySem.W.excIn K E4 [.type "ValueError", .type "Exception", .type "BaseException", .type "object"] "ValueError.__new__" = true) (kE4 : PySem.W.keepIn K (.ref E4) = true) (bE4 : PySem.W.subIn K (.ref E4) (.type "BaseException") = some true) (tE4 : PySem.W.typeIn K (.ref E4) = some (.type "type")) (iE4 : PySem.W.isClsIn K E4 = true)
    (sE1_0 : PySem.W.subIn K (.ref E1) (.ref E0) = some true)
    (sE1_1 : PySem.W.subIn K (.ref E1) (.ref E1) = some true)
    (sE1_2 : PySem.W.subIn K (.ref E1) (.ref E2) = some false)
    (sE1_3 : PySem.W.subIn K (.ref E1) (.ref E3) = some false)
    (sE1_4 : PySem.W.subIn K (.ref E1) (.ref E4) = some false)
    (sE2_0 : PySem.W.subIn K (.ref E2) (.ref E0) = some true)
    (sE2_1 : PySem.W.subIn K (.ref E2) (.ref E1) = some false)
    (sE2_2 : PySem.W.subIn K (.ref E2) (.ref E2) = some true)
    (sE2_3 : PySem.W.subIn K (.ref E2) (.ref E3) = some false)
    (sE2_4 : PySem.W.subIn K (.ref E2) (.ref E4) = some false)
    (sE3_0 : PySem.W.subIn K (.ref E3) (.ref E0) = some true)
    (sE3_1 : PySem.W.subIn K (.ref E3) (.ref E1) = some false)
    (sE3_2 : PySem.W.subIn K (.ref E3) (.ref E2) = some false)
    (sE3_3 : PySem.W.subIn K (.ref E3) (.ref E3) = some true)
    (sE3_4 : PySem.W.subIn K (.ref E3) (.ref E4) = some false)
    (sE4_0 : PySem.W.subIn K (.ref E4) (.ref E0) = some true)
    (sE4_1 : PySem.W.subIn K (.ref E4) (.ref E1) = some false)
    (sE4_2 : PySem.W.subIn K (.ref E4) (.ref E2) = some false)
    (sE4_3 : PySem.W.subIn K (.ref E4) (.ref E3) = some false)
    (sE4_4 : PySem.W.subIn K (.ref E4) (.ref E4) = some true)
    (spG : PySem.W.specialIn K (.builtin "object.__class__") "__get__" = some (some (.builtin "getset_descriptor.__get__"))) (tkG : PySem.W.takesIn K (.builtin "object.__class__") = some true)
    (ga1 : PySem.W.findIn K (.ref E1) "__getattribute__" = some (some (.builtin "BaseException.__getattribute__"))) (gt1 : PySem.W.findIn K (.ref E1) "__getattr__" = some none) (hi1 : PySem.W.hasDictIn K E1 = true) (fc1 : PySem.W.findIn K (.ref E1) "__class__" = some (some (.builtin "object.__class__"))) (mo1 : PySem.W.mroIn K E1 (.type "object") = some true) (vE1 : PySem.W.subIn K (.ref E1) (.type "ValueError") = some true)
    (ga2 : PySem.W.findIn K (.ref E2) "__getattribute__" = some (some (.builtin "BaseException.__getattribute__"))) (gt2 : PySem.W.findIn K (.ref E2) "__getattr__" = some none) (hi2 : PySem.W.hasDictIn K E2 = true) (fc2 : PySem.W.findIn K (.ref E2) "__class__" = some (some (.builtin "object.__class__"))) (mo2 : PySem.W.mroIn K E2 (.type "object") = some true) (vE2 : PySem.W.subIn K (.ref E2) (.type "ValueError") = some true)
    (ga3 : PySem.W.findIn K (.ref E3) "__getattribute__" = some (some (.builtin "BaseException.__getattribute__"))) (gt3 : PySem.W.findIn K (.ref E3) "__getattr__" = some none) (hi3 : PySem.W.hasDictIn K E3 = true) (fc3 : PySem.W.findIn K (.ref E3) "__class__" = some (some (.builtin "object.__class__"))) (mo3 : PySem.W.mroIn K E3 (.type "object") = some true) (vE3 : PySem.W.subIn K (.ref E3) (.type "ValueError") = some true)
    (ga4 : PySem.W.findIn K (.ref E4) "__getattribute__" = some (some (.builtin "BaseException.__getattribute__"))) (gt4 : PySem.W.findIn K (.ref E4) "__getattr__" = some none) (hi4 : PySem.W.hasDictIn K E4 = true) (fc4 : PySem.W.findIn K (.ref E4) "__class__" = some (some (.builtin "object.__class__"))) (mo4 : PySem.W.mroIn K E4 (.type "object") = some true) (vE4 : PySem.W.subIn K (.ref E4) (.type "ValueError") = some true)
    (a1 : PySem.W.nsIn K mainGlobals "is_whole" = some (some (.ref f1))) (l1 : K.lookup f1 = some ⟨oc1, od1, .func (PySem.W.fnOf "is_whole" "is_whole" (defArgs s_is_whole) (defBody s_is_whole) (defScope s_is_whole) .none kV1 dc1 pm1 an1 cd1 ct1), sl1⟩) (c1 : PySem.W.codeIn K cd1 "is_whole" = true) (k1 : PySem.W.keepIn K (.ref f1) = true)
    (a2 : PySem.W.nsIn K mainGlobals "is_within" = some (some (.ref f2))) (l2 : K.lookup f2 = some ⟨oc2, od2, .func (PySem.W.fnOf "is_within" "is_within" (defArgs s_is_within) (defBody s_is_within) (defScope s_is_within) .none kV2 dc2 pm2 an2 cd2 ct2), sl2⟩) (c2 : PySem.W.codeIn K cd2 "is_within" = true) (k2 : PySem.W.keepIn K (.ref f2) = true)
    (a3 : PySem.W.nsIn K mainGlobals "want_within" = some (some (.ref f3))) (l3 : K.lookup f3 = some ⟨oc3, od3, .func (PySem.W.fnOf "want_within" "want_within" (defArgs s_want_within) (defBody s_want_within) (defScope s_want_within) .none kV3 dc3 pm3 an3 cd3 ct3), sl3⟩) (c3 : PySem.W.codeIn K cd3 "want_within" = true) (k3 : PySem.W.keepIn K (.ref f3) = true)
    (a4 : PySem.W.nsIn K mainGlobals "is_by_table" = some (some (.ref f4))) (l4 : K.lookup f4 = some ⟨oc4, od4, .func (PySem.W.fnOf "is_by_table" "is_by_table" (defArgs s_is_by_table) (defBody s_is_by_table) (defScope s_is_by_table) .none kV4 dc4 pm4 an4 cd4 ct4), sl4⟩) (c4 : PySem.W.codeIn K cd4 "is_by_table" = true) (k4 : PySem.W.keepIn K (.ref f4) = true)
    (a5 : PySem.W.nsIn K mainGlobals "are_by_table" = some (some (.ref f5))) (l5 : K.lookup f5 = some ⟨oc5, od5, .func (PySem.W.fnOf "are_by_table" "are_by_table" (defArgs s_are_by_table) (defBody s_are_by_table) (defScope s_are_by_table) .none kV5 dc5 pm5 an5 cd5 ct5), sl5⟩) (c5 : PySem.W.codeIn K cd5 "are_by_table" = true) (k5 : PySem.W.keepIn K (.ref f5) = true)
    (a6 : PySem.W.nsIn K mainGlobals "one_then" = some (some (.ref f6))) (l6 : K.lookup f6 = some ⟨oc6, od6, .func (PySem.W.fnOf "one_then" "one_then" (defArgs s_one_then) (defBody s_one_then) (defScope s_one_then) .none kV6 dc6 pm6 an6 cd6 ct6), sl6⟩) (c6 : PySem.W.codeIn K cd6 "one_then" = true) (k6 : PySem.W.keepIn K (.ref f6) = true)
    (a7 : PySem.W.nsIn K mainGlobals "grown" = some (some (.ref f7))) (l7 : K.lookup f7 = some ⟨oc7, od7, .func (PySem.W.fnOf "grown" "grown" (defArgs s_grown) (defBody s_grown) (defScope s_grown) .none kV7 dc7 pm7 an7 cd7 ct7), sl7⟩) (c7 : PySem.W.codeIn K cd7 "grown" = true) (k7 : PySem.W.keepIn K (.ref f7) = true)
    (a8 : PySem.W.nsIn K mainGlobals "want_makers" = some (some (.ref f8))) (l8 : K.lookup f8 = some ⟨oc8, od8, .func (PySem.W.fnOf "want_makers" "want_makers" (defArgs s_want_makers) (defBody s_want_makers) (defScope s_want_makers) .none kV8 dc8 pm8 an8 cd8 ct8), sl8⟩) (c8 : PySem.W.codeIn K cd8 "want_makers" = true) (k8 : PySem.W.keepIn K (.ref f8) = true)
    (a9 : PySem.W.nsIn K mainGlobals "family" = some (some (.ref f9))) (l9 : K.lookup f9 = some ⟨oc9, od9, .func (PySem.W.fnOf "family" "family" (defArgs s_family) (defBody s_family) (defScope s_family) .none kV9 dc9 pm9 an9 cd9 ct9), sl9⟩) (c9 : PySem.W.codeIn K cd9 "family" = true) (k9 : PySem.W.keepIn K (.ref f9) = true)
    (a10 : PySem.W.nsIn K mainGlobals "words" = some (some (.ref f10))) (l10 : K.lookup f10 = some ⟨oc10, od10, .func (PySem.W.fnOf "words" "words" (defArgs s_words) (defBody s_words) (defScope s_words) .none kV10 dc10 pm10 an10 cd10 ct10), sl10⟩) (c10 : PySem.W.codeIn K cd10 "words" = true) (k10 : PySem.W.keepIn K (.ref f10) = true)
    (a11 : PySem.W.nsIn K mainGlobals "want_many" = some (some (.ref f11))) (l11 : K.lookup f11 = some ⟨oc11, od11, .func (PySem.W.fnOf "want_many" "want_many" (defArgs s_want_many) (defBody s_want_many) (defScope s_want_many) .none kV11 dc11 pm11 an11 cd11 ct11), sl11⟩) (c11 : PySem.W.codeIn K cd11 "want_many" = true) (k11 : PySem.W.keepIn K (.ref f11) = true)
    (a12 : PySem.W.nsIn K mainGlobals "is_tree" = some (some (.ref f12))) (l12 : K.lookup f12 = some ⟨oc12, od12, .func (PySem.W.fnOf "is_tree" "is_tree" (defArgs s_is_tree) (defBody s_is_tree) (defScope s_is_tree) .none kV12 dc12 pm12 an12 cd12 ct12), sl12⟩) (c12 : PySem.W.codeIn K cd12 "is_tree" = true) (k12 : PySem.W.keepIn K (.ref f12) = true)
    (a13 : PySem.W.nsIn K mainGlobals "are_numbers" = some (some (.ref f13))) (l13 : K.lookup f13 = some ⟨oc13, od13, .func (PySem.W.fnOf "are_numbers" "are_numbers" (defArgs s_are_numbers) (defBody s_are_numbers) (defScope s_are_numbers) .none kV13 dc13 pm13 an13 cd13 ct13), sl13⟩) (c13 : PySem.W.codeIn K cd13 "are_numbers" = true) (k13 : PySem.W.keepIn K (.ref f13) = true)
    (a14 : PySem.W.nsIn K mainGlobals "is_table" = some (some (.ref f14))) (l14 : K.lookup f14 = some ⟨oc14, od14, .func (PySem.W.fnOf "is_table" "is_table" (defArgs s_is_table) (defBody s_is_table) (defScope s_is_table) .none kV14 dc14 pm14 an14 cd14 ct14), sl14⟩) (c14 : PySem.W.codeIn K cd14 "is_table" = true) (k14 : PySem.W.keepIn K (.ref f14) = true)
    (a15 : PySem.W.nsIn K mainGlobals "want_table" = some (some (.ref f15))) (l15 : K.lookup f15 = some ⟨oc15, od15, .func (PySem.W.fnOf "want_table" "want_table" (defArgs s_want_table) (defBody s_want_table) (defScope s_want_table) .none kV15 dc15 pm15 an15 cd15 ct15), sl15⟩) (c15 : PySem.W.codeIn K cd15 "want_table" = true) (k15 : PySem.W.keepIn K (.ref f15) = true)
    (a16 : PySem.W.nsIn K mainGlobals "want_by_table" = some (some (.ref f16))) (l16 : K.lookup f16 = some ⟨oc16, od16, .func (PySem.W.fnOf "want_by_table" "want_by_table" (defArgs s_want_by_table) (defBody s_want_by_table) (defScope s_want_by_table) .none kV16 dc16 pm16 an16 cd16 ct16), sl16⟩) (c16 : PySem.W.codeIn K cd16 "want_by_table" = true) (k16 : PySem.W.keepIn K (.ref f16) = true)
    (a17 : PySem.W.nsIn K mainGlobals "want_numbers" = some (some (.ref f17))) (l17 : K.lookup f17 = some ⟨oc17, od17, .func (PySem.W.fnOf "want_numbers" "want_numbers" (defArgs s_want_numbers) (defBody s_want_numbers) (defScope s_want_numbers) .none kV17 dc17 pm17 an17 cd17 ct17), sl17⟩) (c17 : PySem.W.codeIn K cd17 "want_numbers" = true) (k17 : PySem.W.keepIn K (.ref f17) = true)
    (a18 : PySem.W.nsIn K mainGlobals "want_grouped" = some (some (.ref f18))) (l18 : K.lookup f18 = some ⟨oc18, od18, .func (PySem.W.fnOf "want_grouped" "want_grouped" (defArgs s_want_grouped) (defBody s_want_grouped) (defScope s_want_grouped) .none kV18 dc18 pm18 an18 cd18 ct18), sl18⟩) (c18 : PySem.W.codeIn K cd18 "want_grouped" = true) (k18 : PySem.W.keepIn K (.ref f18) = true)
    (a19 : PySem.W.nsIn K mainGlobals "own_table" = some (some (.ref f19))) (l19 : K.lookup f19 = some ⟨oc19, od19, .func (PySem.W.fnOf "own_table" "own_table" (defArgs s_own_table) (defBody s_own_table) (defScope s_own_table) .none kV19 dc19 pm19 an19 cd19 ct19), sl19⟩) (c19 : PySem.W.codeIn K cd19 "own_table" = true) (k19 : PySem.W.keepIn K (.ref f19) = true)
    (a20 : PySem.W.nsIn K mainGlobals "held" = some (some (.ref f20))) (l20 : K.lookup f20 = some ⟨oc20, od20, .func (PySem.W.fnOf "held" "held" (defArgs s_held) (defBody s_held) (defScope s_held) .none kV20 dc20 pm20 an20 cd20 ct20), sl20⟩) (c20 : PySem.W.codeIn K cd20 "held" = true) (k20 : PySem.W.keepIn K (.ref f20) = true)
    (a21 : PySem.W.nsIn K mainGlobals "broken" = some (some (.ref f21))) (l21 : K.lookup f21 = some ⟨oc21, od21, .func (PySem.W.fnOf "broken" "broken" (defArgs s_broken) (defBody s_broken) (defScope s_broken) .none kV21 dc21 pm21 an21 cd21 ct21), sl21⟩) (c21 : PySem.W.codeIn K cd21 "broken" = true) (k21 : PySem.W.keepIn K (.ref f21) = true)
    (a22 : PySem.W.nsIn K mainGlobals "fold" = some (some (.ref f22))) (l22 : K.lookup f22 = some ⟨oc22, od22, .func (PySem.W.fnOf "fold" "fold" (defArgs s_fold) (defBody s_fold) (defScope s_fold) .none kV22 dc22 pm22 an22 cd22 ct22), sl22⟩) (c22 : PySem.W.codeIn K cd22 "fold" = true) (k22 : PySem.W.keepIn K (.ref f22) = true)
    (a23 : PySem.W.nsIn K mainGlobals "share" = some (some (.ref f23))) (l23 : K.lookup f23 = some ⟨oc23, od23, .func (PySem.W.fnOf "share" "share" (defArgs s_share) (defBody s_share) (defScope s_share) .none kV23 dc23 pm23 an23 cd23 ct23), sl23⟩) (c23 : PySem.W.codeIn K cd23 "share" = true) (k23 : PySem.W.keepIn K (.ref f23) = true)
    (a24 : PySem.W.nsIn K mainGlobals "folded_by" = some (some (.ref f24))) (l24 : K.lookup f24 = some ⟨oc24, od24, .func (PySem.W.fnOf "folded_by" "folded_by" (defArgs s_folded_by) (defBody s_folded_by) (defScope s_folded_by) .none kV24 dc24 pm24 an24 cd24 ct24), sl24⟩) (c24 : PySem.W.codeIn K cd24 "folded_by" = true) (k24 : PySem.W.keepIn K (.ref f24) = true)
    (a25 : PySem.W.nsIn K mainGlobals "shared_by" = some (some (.ref f25))) (l25 : K.lookup f25 = some ⟨oc25, od25, .func (PySem.W.fnOf "shared_by" "shared_by" (defArgs s_shared_by) (defBody s_shared_by) (defScope s_shared_by) .none kV25 dc25 pm25 an25 cd25 ct25), sl25⟩) (c25 : PySem.W.codeIn K cd25 "shared_by" = true) (k25 : PySem.W.keepIn K (.ref f25) = true)
    (a26 : PySem.W.nsIn K mainGlobals "_law_store" = some (some (.ref f26))) (l26 : K.lookup f26 = some ⟨oc26, od26, .func (PySem.W.fnOf "_law_store" "_law_store" (defArgs s__law_store) (defBody s__law_store) (defScope s__law_store) .none kV26 dc26 pm26 an26 cd26 ct26), sl26⟩) (c26 : PySem.W.codeIn K cd26 "_law_store" = true) (k26 : PySem.W.keepIn K (.ref f26) = true)
    (a27 : PySem.W.nsIn K mainGlobals "_law_draw" = some (some (.ref f27))) (l27 : K.lookup f27 = some ⟨oc27, od27, .func (PySem.W.fnOf "_law_draw" "_law_draw" (defArgs s__law_draw) (defBody s__law_draw) (defScope s__law_draw) .none kV27 dc27 pm27 an27 cd27 ct27), sl27⟩) (c27 : PySem.W.codeIn K cd27 "_law_draw" = true) (k27 : PySem.W.keepIn K (.ref f27) = true)
    (a28 : PySem.W.nsIn K mainGlobals "_law_tree" = some (some (.ref f28))) (l28 : K.lookup f28 = some ⟨oc28, od28, .func (PySem.W.fnOf "_law_tree" "_law_tree" (defArgs s__law_tree) (defBody s__law_tree) (defScope s__law_tree) .none kV28 dc28 pm28 an28 cd28 ct28), sl28⟩) (c28 : PySem.W.codeIn K cd28 "_law_tree" = true) (k28 : PySem.W.keepIn K (.ref f28) = true)
    (a29 : PySem.W.nsIn K mainGlobals "_law_odd" = some (some (.ref f29))) (l29 : K.lookup f29 = some ⟨oc29, od29, .func (PySem.W.fnOf "_law_odd" "_law_odd" (defArgs s__law_odd) (defBody s__law_odd) (defScope s__law_odd) .none kV29 dc29 pm29 an29 cd29 ct29), sl29⟩) (c29 : PySem.W.codeIn K cd29 "_law_odd" = true) (k29 : PySem.W.keepIn K (.ref f29) = true)
    (a30 : PySem.W.nsIn K mainGlobals "_law_row_spoilt" = some (some (.ref f30))) (l30 : K.lookup f30 = some ⟨oc30, od30, .func (PySem.W.fnOf "_law_row_spoilt" "_law_row_spoilt" (defArgs s__law_row_spoilt) (defBody s__law_row_spoilt) (defScope s__law_row_spoilt) .none kV30 dc30 pm30 an30 cd30 ct30), sl30⟩) (c30 : PySem.W.codeIn K cd30 "_law_row_spoilt" = true) (k30 : PySem.W.keepIn K (.ref f30) = true)
    (a31 : PySem.W.nsIn K mainGlobals "_law_rows_spoilt" = some (some (.ref f31))) (l31 : K.lookup f31 = some ⟨oc31, od31, .func (PySem.W.fnOf "_law_rows_spoilt" "_law_rows_spoilt" (defArgs s__law_rows_spoilt) (defBody s__law_rows_spoilt) (defScope s__law_rows_spoilt) .none kV31 dc31 pm31 an31 cd31 ct31), sl31⟩) (c31 : PySem.W.codeIn K cd31 "_law_rows_spoilt" = true) (k31 : PySem.W.keepIn K (.ref f31) = true)
    (a32 : PySem.W.nsIn K mainGlobals "_law_tree_spoilt" = some (some (.ref f32))) (l32 : K.lookup f32 = some ⟨oc32, od32, .func (PySem.W.fnOf "_law_tree_spoilt" "_law_tree_spoilt" (defArgs s__law_tree_spoilt) (defBody s__law_tree_spoilt) (defScope s__law_tree_spoilt) .none kV32 dc32 pm32 an32 cd32 ct32), sl32⟩) (c32 : PySem.W.codeIn K cd32 "_law_tree_spoilt" = true) (k32 : PySem.W.keepIn K (.ref f32) = true)
    (a33 : PySem.W.nsIn K mainGlobals "_law_is_number" = some (some (.ref f33))) (l33 : K.lookup f33 = some ⟨oc33, od33, .func (PySem.W.fnOf "_law_is_number" "_law_is_number" (defArgs s__law_is_number) (defBody s__law_is_number) (defScope s__law_is_number) .none kV33 dc33 pm33 an33 cd33 ct33), sl33⟩) (c33 : PySem.W.codeIn K cd33 "_law_is_number" = true) (k33 : PySem.W.keepIn K (.ref f33) = true)
    (a34 : PySem.W.nsIn K mainGlobals "_law_are_numbers" = some (some (.ref f34))) (l34 : K.lookup f34 = some ⟨oc34, od34, .func (PySem.W.fnOf "_law_are_numbers" "_law_are_numbers" (defArgs s__law_are_numbers) (defBody s__law_are_numbers) (defScope s__law_are_numbers) .none kV34 dc34 pm34 an34 cd34 ct34), sl34⟩) (c34 : PySem.W.codeIn K cd34 "_law_are_numbers" = true) (k34 : PySem.W.keepIn K (.ref f34) = true)
    (a35 : PySem.W.nsIn K mainGlobals "_law_are_deeds" = some (some (.ref f35))) (l35 : K.lookup f35 = some ⟨oc35, od35, .func (PySem.W.fnOf "_law_are_deeds" "_law_are_deeds" (defArgs s__law_are_deeds) (defBody s__law_are_deeds) (defScope s__law_are_deeds) .none kV35 dc35 pm35 an35 cd35 ct35), sl35⟩) (c35 : PySem.W.codeIn K cd35 "_law_are_deeds" = true) (k35 : PySem.W.keepIn K (.ref f35) = true)
    (a36 : PySem.W.nsIn K mainGlobals "_law_is_table" = some (some (.ref f36))) (l36 : K.lookup f36 = some ⟨oc36, od36, .func (PySem.W.fnOf "_law_is_table" "_law_is_table" (defArgs s__law_is_table) (defBody s__law_is_table) (defScope s__law_is_table) .none kV36 dc36 pm36 an36 cd36 ct36), sl36⟩) (c36 : PySem.W.codeIn K cd36 "_law_is_table" = true) (k36 : PySem.W.keepIn K (.ref f36) = true)
    (a37 : PySem.W.nsIn K mainGlobals "_law_leaves" = some (some (.ref f37))) (l37 : K.lookup f37 = some ⟨oc37, od37, .func (PySem.W.fnOf "_law_leaves" "_law_leaves" (defArgs s__law_leaves) (defBody s__law_leaves) (defScope s__law_leaves) .none kV37 dc37 pm37 an37 cd37 ct37), sl37⟩) (c37 : PySem.W.codeIn K cd37 "_law_leaves" = true) (k37 : PySem.W.keepIn K (.ref f37) = true)
    (a38 : PySem.W.nsIn K mainGlobals "_law_is_tree" = some (some (.ref f38))) (l38 : K.lookup f38 = some ⟨oc38, od38, .func (PySem.W.fnOf "_law_is_tree" "_law_is_tree" (defArgs s__law_is_tree) (defBody s__law_is_tree) (defScope s__law_is_tree) .none kV38 dc38 pm38 an38 cd38 ct38), sl38⟩) (c38 : PySem.W.codeIn K cd38 "_law_is_tree" = true) (k38 : PySem.W.keepIn K (.ref f38) = true)
    (a39 : PySem.W.nsIn K mainGlobals "_law_due" = some (some (.ref f39))) (l39 : K.lookup f39 = some ⟨oc39, od39, .func (PySem.W.fnOf "_law_due" "_law_due" (defArgs s__law_due) (defBody s__law_due) (defScope s__law_due) .none kV39 dc39 pm39 an39 cd39 ct39), sl39⟩) (c39 : PySem.W.codeIn K cd39 "_law_due" = true) (k39 : PySem.W.keepIn K (.ref f39) = true)
    (a40 : PySem.W.nsIn K mainGlobals "_law_asked" = some (some (.ref f40))) (l40 : K.lookup f40 = some ⟨oc40, od40, .func (PySem.W.fnOf "_law_asked" "_law_asked" (defArgs s__law_asked) (defBody s__law_asked) (defScope s__law_asked) .none kV40 dc40 pm40 an40 cd40 ct40), sl40⟩) (c40 : PySem.W.codeIn K cd40 "_law_asked" = true) (k40 : PySem.W.keepIn K (.ref f40) = true)
    (a41 : PySem.W.nsIn K mainGlobals "_law_word" = some (some (.ref f41))) (l41 : K.lookup f41 = some ⟨oc41, od41, .func (PySem.W.fnOf "_law_word" "_law_word" (defArgs s__law_word) (defBody s__law_word) (defScope s__law_word) .none kV41 dc41 pm41 an41 cd41 ct41), sl41⟩) (c41 : PySem.W.codeIn K cd41 "_law_word" = true) (k41 : PySem.W.keepIn K (.ref f41) = true)
    (a42 : PySem.W.nsIn K mainGlobals "_law_told" = some (some (.ref f42))) (l42 : K.lookup f42 = some ⟨oc42, od42, .func (PySem.W.fnOf "_law_told" "_law_told" (defArgs s__law_told) (defBody s__law_told) (defScope s__law_told) .none kV42 dc42 pm42 an42 cd42 ct42), sl42⟩) (c42 : PySem.W.codeIn K cd42 "_law_told" = true) (k42 : PySem.W.keepIn K (.ref f42) = true)
    (a43 : PySem.W.nsIn K mainGlobals "_law_things" = some (some (.ref f43))) (l43 : K.lookup f43 = some ⟨oc43, od43, .func (PySem.W.fnOf "_law_things" "_law_things" (defArgs s__law_things) (defBody s__law_things) (defScope s__law_things) .none kV43 dc43 pm43 an43 cd43 ct43), sl43⟩) (c43 : PySem.W.codeIn K cd43 "_law_things" = true) (k43 : PySem.W.keepIn K (.ref f43) = true)
    (a44 : PySem.W.nsIn K mainGlobals "law" = some (some (.ref f44))) (l44 : K.lookup f44 = some ⟨oc44, od44, .func (PySem.W.fnOf "law" "law" (defArgs s_law) (defBody s_law) (defScope s_law) .none kV44 dc44 pm44 an44 cd44 ct44), sl44⟩) (c44 : PySem.W.codeIn K cd44 "law" = true) (k44 : PySem.W.keepIn K (.ref f44) = true)
    (z0 : PySem.W.nsIn K mainGlobals "ValueError" = some none)
    (z1 : PySem.W.nsIn K mainGlobals "abs" = some none)
    (z2 : PySem.W.nsIn K mainGlobals "all" = some none)
    (z3 : PySem.W.nsIn K mainGlobals "bool" = some none)
    (z4 : PySem.W.nsIn K mainGlobals "dict" = some none)
    (z5 : PySem.W.nsIn K mainGlobals "enumerate" = some none)
    (z6 : PySem.W.nsIn K mainGlobals "int" = some none)
    (z7 : PySem.W.nsIn K mainGlobals "isinstance" = some none)
    (z8 : PySem.W.nsIn K mainGlobals "len" = some none)
    (z9 : PySem.W.nsIn K mainGlobals "list" = some none)
    (z10 : PySem.W.nsIn K mainGlobals "max" = some none)
    (z11 : PySem.W.nsIn K mainGlobals "min" = some none)
    (z12 : PySem.W.nsIn K mainGlobals "range" = some none)
    (z13 : PySem.W.nsIn K mainGlobals "tuple" = some none)
    {tc0 : Tok} (cst0 : PySem.W.nsIn K mainGlobals "MOST_STATES" = some (some (.int (5) tc0)))
    {tc1 : Tok} (cst1 : PySem.W.nsIn K mainGlobals "MOST_MAKERS" = some (some (.int (4) tc1)))
    {tc2 : Tok} (cst2 : PySem.W.nsIn K mainGlobals "MOST_FAMILY" = some (some (.int (60) tc2)))
    {tc3 : Tok} (cst3 : PySem.W.nsIn K mainGlobals "MOST_DEEDS" = some (some (.int (40) tc3)))
    {tc4 : Tok} (cst4 : PySem.W.nsIn K mainGlobals "MOST_NUMBERS" = some (some (.int (40) tc4)))
    : AllD K mg := by
  exact ⟨Df.of l1 c1 k1 (PySem.W.mg_of X G a1) (fun _ _ _ _ _ _ us hl => match us, hl with | [_], _ => rfl), Df.of l2 c2 k2 (PySem.W.mg_of X G a2) (fun _ _ _ _ _ _ us hl => match us, hl with | [_, _, _], _ => rfl), Df.of l3 c3 k3 (PySem.W.mg_of X G a3) (fun _ _ _ _ _ _ us hl => match us, hl with | [_, _, _], _ => rfl), Df.of l4 c4 k4 (PySem.W.mg_of X G a4) (fun _ _ _ _ _ _ us hl => match us, hl with | [_, _], _ => rfl), Df.of l5 c5 k5 (PySem.W.mg_of X G a5) (fun _ _ _ _ _ _ us hl => match us, hl with | [_, _], _ => rfl), Df.of l6 c6 k6 (PySem.W.mg_of X G a6) (fun _ _ _ _ _ _ us hl => match us, hl with | [_, _], _ => rfl), Df.of l7 c7 k7 (PySem.W.mg_of X G a7) (fun _ _ _ _ _ _ us hl => match us, hl with | [_], _ => rfl), Df.of l8 c8 k8 (PySem.W.mg_of X G a8) (fun _ _ _ _ _ _ us hl => match us, hl with | [_], _ => rfl), Df.of l9 c9 k9 (PySem.W.mg_of X G a9) (fun _ _ _ _ _ _ us hl => match us, hl with | [_], _ => rfl), Df.of l10 c10 k10 (PySem.W.mg_of X G a10) (fun _ _ _ _ _ _ us hl => match us, hl with | [_], _ => rfl), Df.of l11 c11 k11 (PySem.W.mg_of X G a11) (fun _ _ _ _ _ _ us hl => match us, hl with | [_], _ => rfl), Df.of l12 c12 k12 (PySem.W.mg_of X G a12) (fun _ _ _ _ _ _ us hl => match us, hl with | [_, _], _ => rfl), Df.of l13 c13 k13 (PySem.W.mg_of X G a13) (fun _ _ _ _ _ _ us hl => match us, hl with | [_, _], _ => rfl), Df.of l14 c14 k14 (PySem.W.mg_of X G a14) (fun _ _ _ _ _ _ us hl => match us, hl with | [_], _ => rfl), Df.of l15 c15 k15 (PySem.W.mg_of X G a15) (fun _ _ _ _ _ _ us hl => match us, hl with | [_], _ => rfl), Df.of l16 c16 k16 (PySem.W.mg_of X G a16) (fun _ _ _ _ _ _ us hl => match us, hl with | [_, _], _ => rfl), Df.of l17 c17 k17 (PySem.W.mg_of X G a17) (fun _ _ _ _ _ _ us hl => match us, hl with | [_, _], _ => rfl), Df.of l18 c18 k18 (PySem.W.mg_of X G a18) (fun _ _ _ _ _ _ us hl => match us, hl with | [_, _], _ => rfl), Df.of l19 c19 k19 (PySem.W.mg_of X G a19) (fun _ _ _ _ _ _ us hl => match us, hl with | [_], _ => rfl), Df.of l20 c20 k20 (PySem.W.mg_of X G a20) (fun _ _ _ _ _ _ us hl => match us, hl with | [_, _], _ => rfl), Df.of l21 c21 k21 (PySem.W.mg_of X G a21) (fun _ _ _ _ _ _ us hl => match us, hl with | [_], _ => rfl), Df.of l22 c22 k22 (PySem.W.mg_of X G a22) (fun _ _ _ _ _ _ us hl => match us, hl with | [_, _, _], _ => rfl), Df.of l23 c23 k23 (PySem.W.mg_of X G a23) (fun _ _ _ _ _ _ us hl => match us, hl with | [_, _, _, _, _], _ => rfl), Df.of l24 c24 k24 (PySem.W.mg_of X G a24) (fun _ _ _ _ _ _ us hl => match us, hl with | [_, _, _], _ => rfl), Df.of l25 c25 k25 (PySem.W.mg_of X G a25) (fun _ _ _ _ _ _ us hl => match us, hl with | [_, _, _, _, _], _ => rfl), Df.of l26 c26 k26 (PySem.W.mg_of X G a26) (fun _ _ _ _ _ _ us hl => match us, hl with | [_, _], _ => rfl), Df.of l27 c27 k27 (PySem.W.mg_of X G a27) (fun _ _ _ _ _ _ us hl => match us, hl with | [_, _], _ => rfl), Df.of l28 c28 k28 (PySem.W.mg_of X G a28) (fun _ _ _ _ _ _ us hl => match us, hl with | [_, _, _], _ => rfl), Df.of l29 c29 k29 (PySem.W.mg_of X G a29) (fun _ _ _ _ _ _ us hl => match us, hl with | [_, _], _ => rfl), Df.of l30 c30 k30 (PySem.W.mg_of X G a30) (fun _ _ _ _ _ _ us hl => match us, hl with | [_, _, _], _ => rfl), Df.of l31 c31 k31 (PySem.W.mg_of X G a31) (fun _ _ _ _ _ _ us hl => match us, hl with | [_, _, _], _ => rfl), Df.of l32 c32 k32 (PySem.W.mg_of X G a32) (fun _ _ _ _ _ _ us hl => match us, hl with | [_, _, _], _ => rfl), Df.of l33 c33 k33 (PySem.W.mg_of X G a33) (fun _ _ _ _ _ _ us hl => match us, hl with | [_, _], _ => rfl), Df.of l34 c34 k34 (PySem.W.mg_of X G a34) (fun _ _ _ _ _ _ us hl => match us, hl with | [_, _], _ => rfl), Df.of l35 c35 k35 (PySem.W.mg_of X G a35) (fun _ _ _ _ _ _ us hl => match us, hl with | [_, _], _ => rfl), Df.of l36 c36 k36 (PySem.W.mg_of X G a36) (fun _ _ _ _ _ _ us hl => match us, hl with | [_], _ => rfl), Df.of l37 c37 k37 (PySem.W.mg_of X G a37) (fun _ _ _ _ _ _ us hl => match us, hl with | [_], _ => rfl), Df.of l38 c38 k38 (PySem.W.mg_of X G a38) (fun _ _ _ _ _ _ us hl => match us, hl with | [_, _], _ => rfl), Df.of l39 c39 k39 (PySem.W.mg_of X G a39) (fun _ _ _ _ _ _ us hl => match us, hl with | [_, _, _, _, _, _], _ => rfl), Df.of l40 c40 k40 (PySem.W.mg_of X G a40) (fun _ _ _ _ _ _ us hl => match us, hl with | [_, _, _, _, _, _], _ => rfl), Df.of l41 c41 k41 (PySem.W.mg_of X G a41) (fun _ _ _ _ _ _ us hl => match us, hl with | [_], _ => rfl), Df.of l42 c42 k42 (PySem.W.mg_of X G a42) (fun _ _ _ _ _ _ us hl => match us, hl with | [_, _, _, _, _, _], _ => rfl), Df.of l43 c43 k43 (PySem.W.mg_of X G a43) (fun _ _ _ _ _ _ us hl => match us, hl with | [_, _], _ => rfl), Df.of l44 c44 k44 (PySem.W.mg_of X G a44) (fun _ _ _ _ _ _ us hl => match us, hl with | [_], _ => rfl), ⟨PySem.W.mg_none_of X G z0, PySem.W.mg_none_of X G z1, PySem.W.mg_none_of X G z2, PySem.W.mg_none_of X G z3, PySem.W.mg_none_of X G z4, PySem.W.mg_none_of X G z5, PySem.W.mg_none_of X G z6, PySem.W.mg_none_of X G z7, PySem.W.mg_none_of X G z8, PySem.W.mg_none_of X G z9, PySem.W.mg_none_of X G z10, PySem.W.mg_none_of X G z11, PySem.W.mg_none_of X G z12, PySem.W.mg_none_of X G z13, ⟨_, PySem.W.mg_of X G cst0⟩, ⟨_, PySem.W.mg_of X G cst1⟩, ⟨_, PySem.W.mg_of X G cst2⟩, ⟨_, PySem.W.mg_of X G cst3⟩, ⟨_, PySem.W.mg_of X G cst4⟩, ExcF.of (PySem.W.mg_of X G aE0) xE0 kE0 bE0 tE0 iE0, ExcF.of (PySem.W.mg_of X G aE1) xE1 kE1 bE1 tE1 iE1, ExcF.of (PySem.W.mg_of X G aE2) xE2 kE2 bE2 tE2 iE2, ExcF.of (PySem.W.mg_of X G aE3) xE3 kE3 bE3 tE3 iE3, ExcF.of (PySem.W.mg_of X G aE4) xE4 kE4 bE4 tE4 iE4, SubF.of (PySem.W.mg_of X G aE1) (PySem.W.mg_of X G aE0) sE1_0, SubF.of (PySem.W.mg_of X G aE1) (PySem.W.mg_of X G aE1) sE1_1, SubF.of (PySem.W.mg_of X G aE1) (PySem.W.mg_of X G aE2) sE1_2, SubF.of (PySem.W.mg_of X G aE1) (PySem.W.mg_of X G aE3) sE1_3, SubF.of (PySem.W.mg_of X G aE1) (PySem.W.mg_of X G aE4) sE1_4, SubF.of (PySem.W.mg_of X G aE2) (PySem.W.mg_of X G aE0) sE2_0, SubF.of (PySem.W.mg_of X G aE2) (PySem.W.mg_of X G aE1) sE2_1, SubF.of (PySem.W.mg_of X G aE2) (PySem.W.mg_of X G aE2) sE2_2, SubF.of (PySem.W.mg_of X G aE2) (PySem.W.mg_of X G aE3) sE2_3, SubF.of (PySem.W.mg_of X G aE2) (PySem.W.mg_of X G aE4) sE2_4, SubF.of (PySem.W.mg_of X G aE3) (PySem.W.mg_of X G aE0) sE3_0, SubF.of (PySem.W.mg_of X G aE3) (PySem.W.mg_of X G aE1) sE3_1, SubF.of (PySem.W.mg_of X G aE3) (PySem.W.mg_of X G aE2) sE3_2, SubF.of (PySem.W.mg_of X G aE3) (PySem.W.mg_of X G aE3) sE3_3, SubF.of (PySem.W.mg_of X G aE3) (PySem.W.mg_of X G aE4) sE3_4, SubF.of (PySem.W.mg_of X G aE4) (PySem.W.mg_of X G aE0) sE4_0, SubF.of (PySem.W.mg_of X G aE4) (PySem.W.mg_of X G aE1) sE4_1, SubF.of (PySem.W.mg_of X G aE4) (PySem.W.mg_of X G aE2) sE4_2, SubF.of (PySem.W.mg_of X G aE4) (PySem.W.mg_of X G aE3) sE4_3, SubF.of (PySem.W.mg_of X G aE4) (PySem.W.mg_of X G aE4) sE4_4, ExcI.of (PySem.W.mg_of X G aE1) ⟨ga1, gt1, bE1, hi1, fc1, spG, tkG, mo1⟩ vE1, ExcI.of (PySem.W.mg_of X G aE2) ⟨ga2, gt2, bE2, hi2, fc2, spG, tkG, mo2⟩ vE2, ExcI.of (PySem.W.mg_of X G aE3) ⟨ga3, gt3, bE3, hi3, fc3, spG, tkG, mo3⟩ vE3, ExcI.of (PySem.W.mg_of X G aE4) ⟨ga4, gt4, bE4, hi4, fc4, spG, tkG, mo4⟩ vE4⟩⟩

theorem law_fd {P : Program} {w : World} {K : PySem.W.Frag} {mg : Str → Option Value} {fa : Addr} (A : AllD K mg) (hfa : mg "law" = some (.ref fa)) :
    ∃ fd : FuncData, (∀ (s : Shared) (v : Value), BindsTo s fd ⟨[v], []⟩ [("_law_script", v)]) ∧ ∀ base : Heap, K.In base → base.Ns mainGlobals mg → FnG P w K mg base CX0 93 fa fd ["_law_script"] (spLaw K) := by
  obtain ⟨f, fd, F, m, b⟩ := A.d_law.ex
  have e := hfa.symm.trans m
  cases e
  refine ⟨fd, fun s v => by obtain ⟨oc, od, kV, doc, pm, an, cdv, ct, osl, rfl, lk, hcd⟩ := F.ex; exact .of_eq rfl, fun base _ _ => ?_⟩
  have B := A.bl
  have D_is_whole : Dn P w K mg base 1 "is_whole" ["thing"] (spWhT K) := k_is_whole B A.d_is_whole 
  have D_is_by_table : Dn P w K mg base 3 "is_by_table" ["thing", "states"] (spIsBT K) := k_is_by_table B A.d_is_by_table D_is_whole
  have D_are_numbers : Dn P w K mg base 3 "are_numbers" ["thing", "many"] (spUs K) := k_are_numbers B A.d_are_numbers D_is_whole
  have D_are_by_table : Dn P w K mg base 4 "are_by_table" ["thing", "most"] (spFa K) := k_are_by_table B A.d_are_by_table D_is_by_table
  have D_want_makers : Dx P w K mg base 5 "want_makers" ["deeds"] (spWMk K (cAt mg "NoTable")) := k_want_makers B A.d_want_makers D_are_by_table
  have D_is_table : Dn P w K mg base 4 "is_table" ["thing"] (spTb K) := k_is_table B A.d_is_table D_are_numbers
  have D_want_table : Dx P w K mg base 5 "want_table" ["table"] (spWTb K (cAt mg "NoTable")) := k_want_table B A.d_want_table D_is_table
  have D_want_by_table : Dx P w K mg base 6 "want_by_table" ["deeds", "table"] (spWBy K (cAt mg "NoTable")) := k_want_by_table B A.d_want_by_table D_want_table D_are_by_table
  have D_want_numbers : Dx P w K mg base 6 "want_numbers" ["table", "numbers"] (spWNb K (cAt mg "NoNumber")) := k_want_numbers B A.d_want_numbers D_are_numbers
  have D_is_within : Dn P w K mg base 2 "is_within" ["thing", "least", "most"] (spInT K) := k_is_within B A.d_is_within D_is_whole
  have D_want_within : Dx P w K mg base 3 "want_within" ["thing", "least", "most"] (spWI24 K (cAt mg "NoNumber")) := k_want_within B A.d_want_within D_is_within
  have D_want_many : Dx P w K mg base 4 "want_many" ["many"] (spWM24 K (cAt mg "NoNumber")) := k_want_many B A.d_want_many D_want_within
  have D_is_tree : Dx P w K mg base 5 "is_tree" ["thing", "many"] (spIsT24 K (cAt mg "NoNumber")) := k_is_tree B A.d_is_tree D_want_many D_is_whole
  have D_want_grouped : Dx P w K mg base 15 "want_grouped" ["numbers", "tree"] (spWGr K (cAt mg "NoTree")) := k_want_grouped B A.d_want_grouped D_is_tree
  have D__law_is_number : Dn P w K mg base 1 "_law_is_number" ["_law_thing", "_law_many"] (spLNum K) := k__law_is_number B A.d__law_is_number 
  have D__law_are_numbers : Dn P w K mg base 2 "_law_are_numbers" ["_law_thing", "_law_many"] (spLUs K) := k__law_are_numbers B A.d__law_are_numbers D__law_is_number
  have D__law_is_table : Dn P w K mg base 3 "_law_is_table" ["_law_thing"] (spLTb K) := k__law_is_table B A.d__law_is_table D__law_are_numbers
  have D__law_are_deeds : Dn P w K mg base 4 "_law_are_deeds" ["_law_thing", "_law_most"] (spLFa K) := k__law_are_deeds B A.d__law_are_deeds D__law_are_numbers
  have D__law_leaves : Dn P w K mg base 62 "_law_leaves" ["_law_thing"] ((spLeaves6 K) 60) := k__law_leaves B A.d__law_leaves 
  have D__law_is_tree : Dn P w K mg base 63 "_law_is_tree" ["_law_thing", "_law_many"] (spLIsT6 K) := k__law_is_tree B A.d__law_is_tree D__law_leaves D__law_is_number
  have D_one_then : Dn P w K mg base 1 "one_then" ["one", "other"] spThen6 := k_one_then B A.d_one_then 
  have D_grown : Dx P w K mg base 2 "grown" ["deeds"] (spGrownE K (cAt mg "TooMany")) := k_grown B A.d_grown D_one_then
  have D_family : Dx P w K mg base 7 "family" ["deeds"] (spFamilyE K (cAt mg "NoTable") (cAt mg "TooMany")) := k_family B A.d_family D_want_makers D_grown
  have D_own_table : Dx P w K mg base 8 "own_table" ["deeds"] (spOwnE K (cAt mg "NoTable") (cAt mg "TooMany")) := k_own_table B A.d_own_table D_family D_one_then
  have D_words : Dx P w K mg base 7 "words" ["deeds"] (spWordsE K (cAt mg "NoTable") (cAt mg "TooMany")) := k_words B A.d_words D_want_makers D_grown
  have D_fold : Dn P w K mg base 41 "fold" ["table", "numbers", "tree"] ((spFold6 K) 40) := k_fold B A.d_fold 
  have D_share : Dn P w K mg base 82 "share" ["deeds", "table", "numbers", "tree", "state"] ((spShare6 K) 40) := k_share B A.d_share D_fold
  have D_held : Dx P w K mg base 8 "held" ["deeds", "table"] (spHeldE K (cAt mg "NoTable")) := k_held B A.d_held D_want_by_table D_one_then
  have D_broken : Dx P w K mg base 7 "broken" ["table"] (spBrokenE K (cAt mg "NoTable")) := k_broken B A.d_broken D_want_table
  have D_folded_by : Dx P w K mg base 60 "folded_by" ["table", "numbers", "tree"] (spFoldE K (cAt mg "NoTable") (cAt mg "NoNumber") (cAt mg "NoTree")) := k_folded_by B A.d_folded_by D_want_table D_want_numbers D_want_grouped D_fold
  have D_shared_by : Dx P w K mg base 90 "shared_by" ["deeds", "table", "numbers", "tree", "state"] (spShareE K (cAt mg "NoTable") (cAt mg "NoNumber") (cAt mg "NoTree")) := k_shared_by B A.d_shared_by D_want_by_table D_want_numbers D_are_numbers D_want_grouped D_share
  have D__law_store : Dn P w K mg base 1 "_law_store" ["_law_script", "_law_k"] (spPot6 K) := k__law_store B A.d__law_store 
  have D__law_draw : Dn P w K mg base 1 "_law_draw" ["_law_store_here", "_law_many"] spTake := k__law_draw B A.d__law_draw 
  have D__law_tree : Dn P w K mg base 42 "_law_tree" ["_law_store_here", "_law_first", "_law_many"] (spLT6 40) := k__law_tree B A.d__law_tree D__law_draw
  have D__law_odd : Dn P w K mg base 3 "_law_odd" ["_law_store_here", "_law_beyond"] (spOdd67 K) := k__law_odd B A.d__law_odd D__law_draw
  have D__law_row_spoilt : Dn P w K mg base 5 "_law_row_spoilt" ["_law_store_here", "_law_row", "_law_beyond"] (spRow67 K) := k__law_row_spoilt B A.d__law_row_spoilt D__law_draw D__law_odd
  have D__law_rows_spoilt : Dn P w K mg base 6 "_law_rows_spoilt" ["_law_store_here", "_law_rows", "_law_beyond"] (spRows67 K) := k__law_rows_spoilt B A.d__law_rows_spoilt D__law_draw D__law_row_spoilt
  have D__law_tree_spoilt : Dn P w K mg base 43 "_law_tree_spoilt" ["_law_store_here", "_law_tree_here", "_law_many"] ((spTrS67 K) 41) := k__law_tree_spoilt B A.d__law_tree_spoilt D__law_draw
  have D__law_due : Dn P w K mg base 66 "_law_due" ["_law_choice", "_law_deeds", "_law_table", "_law_numbers", "_law_tree_here", "_law_state"] (spDue67 K) := k__law_due B A.d__law_due D__law_are_deeds D__law_is_table D__law_are_numbers D__law_is_number D__law_is_tree
  have D__law_asked : Dx P w K mg base 91 "_law_asked" ["_law_choice", "_law_deeds", "_law_table", "_law_numbers", "_law_tree_here", "_law_state"] (spAsk67 K (cAt mg)) := k__law_asked B A.d__law_asked D_family D_words D_own_table D_held D_broken D_folded_by D_shared_by
  have D__law_word : DnE P w K mg base 1 "_law_word" ["_law_e"] (spWord67 K (cAt mg)) := k__law_word B A.d__law_word 
  have D__law_told : Dn P w K mg base 92 "_law_told" ["_law_choice", "_law_deeds", "_law_table", "_law_numbers", "_law_tree_here", "_law_state"] (spTold67 K) := k__law_told B A.d__law_told D__law_asked D__law_word
  have D__law_things : Dn P w K mg base 50 "_law_things" ["_law_store_here", "_law_bad"] (spThings67 K) := k__law_things B A.d__law_things D__law_draw D__law_tree D__law_rows_spoilt D__law_row_spoilt D__law_tree_spoilt D__law_odd
  exact k_law B F D__law_store D__law_draw D__law_things D__law_due D__law_told D_folded_by D_family

theorem walk {l : PySem.W.OpenLaw} {q : Program} {loose : List Str} {XP : (Str → Option Value) → Heap → Prop} {YP : World → Heap → Prop} {d : DefRec} {K : Params → PySem.W.Frag} (hn : l.most = some 63) (hdf : d.params.defaults = [])
    (hY : ∀ (w : World) (h : Heap), YP w h → (K w.params).In h) (hname : d.name = "law") (F : ∀ (w : World) (mg : Str → Option Value) (h : Heap), (K w.params).In h → h.Ns mainGlobals mg → AllD (K w.params) mg) :
    PySem.W.WalkO q loose XP YP l.row.toRowW d [] (fun f vs => PySem.call f vs) :=
  walk_G (n := 63) (k := 93) (x := "_law_script") (sp := spLaw) hn (by decide) hdf ⟨rfl, by decide, by decide⟩ hY
    (fun w mg fa h KX G hfa => law_fd (F w mg h KX G) (by rw [hname] at hfa; exact hfa)) fun _ _ a ns hl hS => ⟨a, ns, rfl, hS, hl, fun _ => rfl⟩
end Toy
open PySem PySem.W PyProof.Rows
set_option maxRecDepth 100000 in
set_option maxHeartbeats 0 in
theorem PySem.Challenge.cw_joinedasks_k67_refused_by_tables_holds : PySem.Challenge.rw_joinedasks_k67_refused_by_tables.Holds := by
  w_on; o_law; k_head; (case hw => w_witness2)
  k_fill
  refine Toy.walk (l := PySem.Challenge.rw_joinedasks_k67_refused_by_tables) rfl rfl (fun w h Y => PySem.W.kIn_of Y) rfl ?F
  case F =>
    intro w mg h KX G
    refine' Toy.all_mk (w := w) KX G ?aE0 ?xE0 ?kE0 ?bE0 ?tE0 ?iE0 ?aE1 ?xE1 ?kE1 ?bE1 ?tE1 ?iE1 ?aE2 ?xE2 ?kE2 ?bE2 ?tE2 ?iE2 ?aE3 ?xE3 ?kE3 ?bE3 ?tE3 ?iE3 ?aE4 ?xE4 ?kE4 ?bE4 ?tE4 ?iE4 ?sE1_0 ?sE1_1 ?sE1_2 ?sE1_3 ?sE1_4 ?sE2_0 ?sE2_1 ?sE2_2 ?sE2_3 ?sE2_4 ?sE3_0 ?sE3_1 ?sE3_2 ?sE3_3 ?sE3_4 ?sE4_0 ?sE4_1 ?sE4_2 ?sE4_3 ?sE4_4 ?spG ?tkG ?ga1 ?gt1 ?hi1 ?fc1 ?mo1 ?vE1 ?ga2 ?gt2 ?hi2 ?fc2 ?mo2 ?vE2 ?ga3 ?gt3 ?hi3 ?fc3 ?mo3 ?vE3 ?ga4 ?gt4 ?hi4 ?fc4 ?mo4 ?vE4 ?a1 ?l1 ?c1 ?k1 ?a2 ?l2 ?c2 ?k2 ?a3 ?l3 ?c3 ?k3 ?a4 ?l4 ?c4 ?k4 ?a5 ?l5 ?c5 ?k5 ?a6 ?l6 ?c6 ?k6 ?a7 ?l7 ?c7 ?k7 ?a8 ?l8 ?c8 ?k8 ?a9 ?l9 ?c9 ?k9 ?a10 ?l10 ?c10 ?k10 ?a11 ?l11 ?c11 ?k11 ?a12 ?l12 ?c12 ?k12 ?a13 ?l13 ?c13 ?k13 ?a14 ?l14 ?c14 ?k14 ?a15 ?l15 ?c15 ?k15 ?a16 ?l16 ?c16 ?k16 ?a17 ?l17 ?c17 ?k17 ?a18 ?l18 ?c18 ?k18 ?a19 ?l19 ?c19 ?k19 ?a20 ?l20 ?c20 ?k20 ?a21 ?l21 ?c21 ?k21 ?a22 ?l22 ?c22 ?k22 ?a23 ?l23 ?c23 ?k23 ?a24 ?l24 ?c24 ?k24 ?a25 ?l25 ?c25 ?k25 ?a26 ?l26 ?c26 ?k26 ?a27 ?l27 ?c27 ?k27 ?a28 ?l28 ?c28 ?k28 ?a29 ?l29 ?c29 ?k29 ?a30 ?l30 ?c30 ?k30 ?a31 ?l31 ?c31 ?k31 ?a32 ?l32 ?c32 ?k32 ?a33 ?l33 ?c33 ?k33 ?a34 ?l34 ?c34 ?k34 ?a35 ?l35 ?c35 ?k35 ?a36 ?l36 ?c36 ?k36 ?a37 ?l37 ?c37 ?k37 ?a38 ?l38 ?c38 ?k38 ?a39 ?l39 ?c39 ?k39 ?a40 ?l40 ?c40 ?k40 ?a41 ?l41 ?c41 ?k41 ?a42 ?l42 ?c42 ?k42 ?a43 ?l43 ?c43 ?k43 ?a44 ?l44 ?c44 ?k44 ?z0 ?z1 ?z2 ?z3 ?z4 ?z5 ?z6 ?z7 ?z8 ?z9 ?z10 ?z11 ?z12 ?z13 ?cst0 ?cst1 ?cst2 ?cst3 ?cst4
    (case aE0 => k_is)
    (case xE0 => k_exc)
    (case kE0 => k_is)
    (case bE0 => k_is)
    (case tE0 => k_is)
    (case iE0 => k_is)
    (case aE1 => k_is)
    (case xE1 => k_exc)
    (case kE1 => k_is)
    (case bE1 => k_is)
    (case tE1 => k_is)
    (case iE1 => k_is)
    (case aE2 => k_is)
    (case xE2 => k_exc)
    (case kE2 => k_is)
    (case bE2 => k_is)
    (case tE2 => k_is)
    (case iE2 => k_is)
    (case aE3 => k_is)
    (case xE3 => k_exc)
    (case kE3 => k_is)
    (case bE3 => k_is)
    (case tE3 => k_is)
    (case iE3 => k_is)
    (case aE4 => k_is)
    (case xE4 => k_exc)
    (case kE4 => k_is)
    (case bE4 => k_is)
    (case tE4 => k_is)
    (case iE4 => k_is)
    (case sE1_0 => first | rfl | k_is)
    (case sE1_1 => first | rfl | k_is)
    (case sE1_2 => first | rfl | k_is)
    (case sE1_3 => first | rfl | k_is)
    (case sE1_4 => first | rfl | k_is)
    (case sE2_0 => first | rfl | k_is)
    (case sE2_1 => first | rfl | k_is)
    (case sE2_2 => first | rfl | k_is)
    (case sE2_3 => first | rfl | k_is)
    (case sE2_4 => first | rfl | k_is)
    (case sE3_0 => first | rfl | k_is)
    (case sE3_1 => first | rfl | k_is)
    (case sE3_2 => first | rfl | k_is)
    (case sE3_3 => first | rfl | k_is)
    (case sE3_4 => first | rfl | k_is)
    (case sE4_0 => first | rfl | k_is)
    (case sE4_1 => first | rfl | k_is)
    (case sE4_2 => first | rfl | k_is)
    (case sE4_3 => first | rfl | k_is)
    (case sE4_4 => first | rfl | k_is)
    (case spG => k_is)
    (case tkG => k_is)
    (case ga1 => k_is)
    (case gt1 => k_is)
    (case hi1 => k_is)
    (case fc1 => k_is)
    (case mo1 => k_is)
    (case vE1 => k_is)
    (case ga2 => k_is)
    (case gt2 => k_is)
    (case hi2 => k_is)
    (case fc2 => k_is)
    (case mo2 => k_is)
    (case vE2 => k_is)
    (case ga3 => k_is)
    (case gt3 => k_is)
    (case hi3 => k_is)
    (case fc3 => k_is)
    (case mo3 => k_is)
    (case vE3 => k_is)
    (case ga4 => k_is)
    (case gt4 => k_is)
    (case hi4 => k_is)
    (case fc4 => k_is)
    (case mo4 => k_is)
    (case vE4 => k_is)
    (case a1 => k_is)
    (case l1 => k_is)
    (case c1 => k_is)
    (case k1 => k_is)
    (case a2 => k_is)
    (case l2 => k_is)
    (case c2 => k_is)
    (case k2 => k_is)
    (case a3 => k_is)
    (case l3 => k_is)
    (case c3 => k_is)
    (case k3 => k_is)
    (case a4 => k_is)
    (case l4 => k_is)
    (case c4 => k_is)
    (case k4 => k_is)
    (case a5 => k_is)
    (case l5 => k_is)
    (case c5 => k_is)
    (case k5 => k_is)
    (case a6 => k_is)
    (case l6 => k_is)
    (case c6 => k_is)
    (case k6 => k_is)
    (case a7 => k_is)
    (case l7 => k_is)
    (case c7 => k_is)
    (case k7 => k_is)
    (case a8 => k_is)
    (case l8 => k_is)
    (case c8 => k_is)
    (case k8 => k_is)
    (case a9 => k_is)
    (case l9 => k_is)
    (case c9 => k_is)
    (case k9 => k_is)
    (case a10 => k_is)
    (case l10 => k_is)
    (case c10 => k_is)
    (case k10 => k_is)
    (case a11 => k_is)
    (case l11 => k_is)
    (case c11 => k_is)
    (case k11 => k_is)
    (case a12 => k_is)
    (case l12 => k_is)
    (case c12 => k_is)
    (case k12 => k_is)
    (case a13 => k_is)
    (case l13 => k_is)
    (case c13 => k_is)
    (case k13 => k_is)
    (case a14 => k_is)
    (case l14 => k_is)
    (case c14 => k_is)
    (case k14 => k_is)
    (case a15 => k_is)
    (case l15 => k_is)
    (case c15 => k_is)
    (case k15 => k_is)
    (case a16 => k_is)
    (case l16 => k_is)
    (case c16 => k_is)
    (case k16 => k_is)
    (case a17 => k_is)
    (case l17 => k_is)
    (case c17 => k_is)
    (case k17 => k_is)
    (case a18 => k_is)
    (case l18 => k_is)
    (case c18 => k_is)
    (case k18 => k_is)
    (case a19 => k_is)
    (case l19 => k_is)
    (case c19 => k_is)
    (case k19 => k_is)
    (case a20 => k_is)
    (case l20 => k_is)
    (case c20 => k_is)
    (case k20 => k_is)
    (case a21 => k_is)
    (case l21 => k_is)
    (case c21 => k_is)
    (case k21 => k_is)
    (case a22 => k_is)
    (case l22 => k_is)
    (case c22 => k_is)
    (case k22 => k_is)
    (case a23 => k_is)
    (case l23 => k_is)
    (case c23 => k_is)
    (case k23 => k_is)
    (case a24 => k_is)
    (case l24 => k_is)
    (case c24 => k_is)
    (case k24 => k_is)
    (case a25 => k_is)
    (case l25 => k_is)
    (case c25 => k_is)
    (case k25 => k_is)
    (case a26 => k_is)
    (case l26 => k_is)
    (case c26 => k_is)
    (case k26 => k_is)
    (case a27 => k_is)
    (case l27 => k_is)
    (case c27 => k_is)
    (case k27 => k_is)
    (case a28 => k_is)
    (case l28 => k_is)
    (case c28 => k_is)
    (case k28 => k_is)
    (case a29 => k_is)
    (case l29 => k_is)
    (case c29 => k_is)
    (case k29 => k_is)
    (case a30 => k_is)
    (case l30 => k_is)
    (case c30 => k_is)
    (case k30 => k_is)
    (case a31 => k_is)
    (case l31 => k_is)
    (case c31 => k_is)
    (case k31 => k_is)
    (case a32 => k_is)
    (case l32 => k_is)
    (case c32 => k_is)
    (case k32 => k_is)
    (case a33 => k_is)
    (case l33 => k_is)
    (case c33 => k_is)
    (case k33 => k_is)
    (case a34 => k_is)
    (case l34 => k_is)
    (case c34 => k_is)
    (case k34 => k_is)
    (case a35 => k_is)
    (case l35 => k_is)
    (case c35 => k_is)
    (case k35 => k_is)
    (case a36 => k_is)
    (case l36 => k_is)
    (case c36 => k_is)
    (case k36 => k_is)
    (case a37 => k_is)
    (case l37 => k_is)
    (case c37 => k_is)
    (case k37 => k_is)
    (case a38 => k_is)
    (case l38 => k_is)
    (case c38 => k_is)
    (case k38 => k_is)
    (case a39 => k_is)
    (case l39 => k_is)
    (case c39 => k_is)
    (case k39 => k_is)
    (case a40 => k_is)
    (case l40 => k_is)
    (case c40 => k_is)
    (case k40 => k_is)
    (case a41 => k_is)
    (case l41 => k_is)
    (case c41 => k_is)
    (case k41 => k_is)
    (case a42 => k_is)
    (case l42 => k_is)
    (case c42 => k_is)
    (case k42 => k_is)
    (case a43 => k_is)
    (case l43 => k_is)
    (case c43 => k_is)
    (case k43 => k_is)
    (case a44 => k_is)
    (case l44 => k_is)
    (case c44 => k_is)
    (case k44 => k_is)
    (case z0 => k_is)
    (case z1 => k_is)
    (case z2 => k_is)
    (case z3 => k_is)
    (case z4 => k_is)
    (case z5 => k_is)
    (case z6 => k_is)
    (case z7 => k_is)
    (case z8 => k_is)
    (case z9 => k_is)
    (case z10 => k_is)
    (case z11 => k_is)
    (case z12 => k_is)
    (case z13 => k_is)
    (case cst0 => k_is)
    (case cst1 => k_is)
    (case cst2 => k_is)
    (case cst3 => k_is)
    (case cst4 => k_is)
#print axioms PySem.Challenge.cw_joinedasks_k67_refused_by_tables_holds

